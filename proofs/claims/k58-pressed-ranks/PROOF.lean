import PyProof.Rows.All
import Wide.All
import OpenK.AllK
import Wide.FinOn
import HandS.ForMost
import HandS.Style
import HandS.TupAny
import HandS.IsInst
import HandS.RaiseMore
import HandS.Evl
import PyProof.ListMulRoad
import PyProof.FactsAll.tuple_2
import HandS.TupMul
import KE.KDictPairs
import HandS.SetKeys
import HandS.DictComp
import KE.KeyNested
import KE.KDictKeyed
import KE.KDictDisplayH
import HandS.AnyAll
import KE.KIsAll
import HandS.Dict
import PyProof.EqAt
import PyProof.EqKinds
import PyProof.TupleCall
import PyProof.Rows.SortShell
import PyProof.Rows.SortKeyStr
import KE.KSortTup
import HandS.SortOrd
import HandS.SortRule
import PyProof.ListRange
import HandS.Sort
import PyProof.ZipIter
import PyProof.ListCopy
import KE.KDictZip
import HandS.OwnIter
import HandS.DictTup
import HandS.Conv
import HandS.Zip0
import HandS.Words
import PyProof.DictMoreH
import HandS.Star
import HandS.Text
import HandS.Walk
import HandS.WordsDict
import HandS.More
import HandS.GenOver
import HandS.Nested
import HandS.GenList
import HandS.Zip
import KE.KItemsList
import HandS.SortKw
import HandS.List
import HandS.ExcInit
import HandS.MakeKw
import KE.KExcIs
import KE.KExcInit
import HandS.ExcOwn
import HandS.ExcIs
import KE.GoesEnum
import PyProof.SumAny
import KE.GoesMore
import KE.KEqDict
import KE.KDictCopyH
import HandS.SetFor
import HandS.TupSets
import KE.SortData
import HandS.Deep
import PyProof.CollectIter
import PyProof.CollectStr
import KE.LtData
import PyProof.Rows.IntBool
import HandS.TryOnly
import HandS.ListItems
import HandS.HeadHook3
import PySem.Challenge.RW_roundcalls_k58_pressed_ranks
import KE.KParD
set_option Elab.async false
set_option linter.all false
set_option maxRecDepth 100000
set_option maxHeartbeats 4000000
namespace GG
open PySem PySem.Spec PyProof.Rows L2

/-- room for k calls, and no repr runs around -/
structure Rm (k : Nat) (A : Around) : Prop where
  room : Room k A
  plain : A.guards = some []
theorem Rm.mono {j k : Nat} {A : Around} (r : Rm k A) (h : j ≤ k) : Rm j A := ⟨r.room.mono h, r.plain⟩
theorem Rm.deep {k : Nat} {A : Around} (r : Rm (k + 1) A) (env : Env) : Rm k (A.deeper env) := ⟨r.room.deeper env, r.plain⟩

/-- a def keeps a promise wherever no repr runs around; it raises nothing -/
structure Fg (P : Program) (w : World) (K : PySem.W.Frag) (mg : Str → Option Value) (base : Heap) (k : Nat) (f : Addr) (fd : FuncData) (ps : List Str) (sp : Sp) : Prop where
  size : ∀ vs H Q, sp vs H Q E0 → vs.length = ps.length
  go : ∀ (A : Around) (outer : List Env) (s : Shared) (H : Hp) (args : Args) (us : List Value) (vs : List V) (Q : VK), Rm k A → Env0 P w K mg base A outer s H → BindsTo s fd args (ps.zip us) → Vals vs us → sp vs H Q E0 →
    codeAny (model P w) A (.call (.ref f) args) (CR CX0 outer P w H s Q E0) s
section
variable {P : Program} {w : World} {K : PySem.W.Frag} {mg : Str → Option Value} {base : Heap} {j k : Nat} {f : Addr} {fd : FuncData} {ps : List Str} {sp : Sp}
theorem Fg.mono (F : Fg P w K mg base j f fd ps sp) (h : j ≤ k) : Fg P w K mg base k f fd ps sp := ⟨F.size, fun A o s H a us vs Q r => F.go A o s H a us vs Q (r.mono h)⟩
theorem Fg.of (F : FnOk P w K mg base CX0 k f fd ps sp) : Fg P w K mg base k f fd ps sp := ⟨fun vs H Q h => F.len vs H Q E0 h, fun A o s H a us vs Q r e b v h => F.run A o s H a us vs Q E0 r.room e b v h⟩

/-- a def of the text keeps its promise: by its body's reading -/
theorem okg {x qual : Str} {st : Stmt} {N : List Str} (F : L2.Fun K x qual st f fd) (S : FnScope N ps (defScope st)) (size : ∀ vs H Q, sp vs H Q E0 → vs.length = ps.length)
    (body : ∀ (cdv : Value) (A : Around) (outer : List Env) (s : Shared) (H : Hp) (vs : List V) (Q : VK), Rm k (A.deeper (envOfC qual (defScope st) s.heap.objs.size f cdv)) → sp vs H Q E0 →
      ∃ t, PSs (cxOf CX0 P w K mg base N qual (defScope st) f cdv A outer s H E0).nox (defBody st) t ∧ t { nx := fun _ H' => Q .non H', rt := Q } (start N vs) H) :
    Fg P w K mg base (k + 1) f fd ps sp := by
  obtain ⟨oc, od, kV, doc, pm, an, cdv, ct, osl, rfl, lk, hcd⟩ := F.ex
  refine ⟨size, fun A outer s H args us vs Q hr e0 hb r hsp => ?_⟩
  have hl := size _ _ _ hsp
  have keep : ∀ b o, base.get? b = some o → s.heap.get? b = some o := fun b o e => (e0.bs b o e).1
  have KX : K.In s.heap := e0.mod.kin.keeps keep
  have lim : s.heap.NoLimit := e0.mod.nolimit.keeps keep
  have hkind : ∀ y ∈ ps.zip us, (defScope st).names.lookup y.1 = some .local ∨ ((defScope st).names.lookup y.1 = some .cell ∧ ((cellsFrom (s.heap.objs.size + 1) (defScope st).names []).lookup y.1).isSome = true) := by
    rintro ⟨n, v⟩ hy
    rcases S.par n (List.of_mem_zip hy).1 with q | q
    · exact .inl q
    · exact .inr ⟨q, PySem.W.cellsFrom_some _ _ _ (.inl q)⟩
  refine codeAny_call_function hr.room.depth (KX _ _ lk) rfl S.co S.gen rfl (PySem.W.codeRec_of KX hcd) (hb _ _ _ _ ?_)
  refine wpAny_newFunctionEnv_cells S.kind hkind fun env he s1 x => ?_
  subst he
  refine ⟨lim.keeps x.toInCall.keep, codeAny_func ?_⟩
  obtain ⟨t, ht, hq⟩ := body cdv A outer s H vs Q (hr.deep _) hsp
  have I := inv_start (CX := CX0) (E := E0) S hr.room.hd e0 hl r x
  refine wpAny_mono (ht.nox.run [] s1 (start N vs) H _ I hq) (fun fl s' hs => ?_) fun e s' hs => hs
  have fin : ∀ {σ' : L2.St} {H' : Hp} {v : V} {u : Value}, Inv (cxOf CX0 P w K mg base N qual (defScope st) f cdv A outer s H E0) [] σ' H' s' → RelV v u → Q v H' → CE outer P w H s Q u s' :=
    fun {σ' H' v u} J rv q => ⟨v, H', J.os, J.bare, J.base, J.hok, rv, q⟩
  cases fl with
  | ret u => obtain ⟨v, σ', H', J, rv, q⟩ := hs; exact fin J rv q
  | next => obtain ⟨σ', H', J, q⟩ := hs; exact fin (v := V.non) (u := Value.none) J rfl q
  | brk => obtain ⟨_, _, _, q⟩ := hs; exact q.elim
  | cont => obtain ⟨_, _, _, q⟩ := hs; exact q.elim
end

section
variable {X : Cx} {k : Nat} {f : Addr} {fd : FuncData} {ps ks : List Str} {sp : Sp} {x : Str} {p pos : Pos} {e : Expr} {es : List Expr} {kws : List Keyword} {t tk : TA} {g : List Value → List Value → List Value} {gV : List V → List V → List V}
def RP (X : Cx) (pins : List (Addr × Obj)) (σ : L2.St) (Q : VK) : Result → Shared → Prop := fun r s' => match r with
  | .ok (.ret v) => EP X pins σ Q v s'
  | .ok _ => False
  | .error e => X.xe e s'
theorem ret_of {pins : List (Addr × Obj)} {σ : L2.St} {H : Hp} {s s' : Shared} {Q : VK} {r : Result} (I : Inv X pins σ H s) (h : CR CX0 X.stack X.prog X.w H s Q E0 r s') : RP X pins σ Q r s' := by
  cases r with
  | error e => exact False.elim h
  | ok fl =>
    cases fl with
    | ret u => exact I.after h
    | next => exact False.elim h
    | brk => exact False.elim h
    | cont => exact False.elim h
/-- f(e, ..) -/
theorem pcall (F : Fg X.prog X.w X.K X.mg X.base k f fd ps sp) (hr : Rm k X.A) (hg : Gl X x) (hm : X.mg x = some (.ref f)) (hk : PySem.W.keepIn X.K (.ref f) = true) (hb : Binds X.K fd ps []) (ha : PA X (e :: es) t)
    (hdb : (x == ("__debug__" : Str)) = false := by decide) (he : starEach (e :: es) X.env = (false, eval e X.env) :: starEach es X.env := by rfl) (hpl : (backTo pos (starEach es X.env)).any (·.1) = false := by rfl) :
    PE X (.Call (.Name x p) (e :: es) [] pos) (tCall sp [] E0 t) := by
  refine ⟨fun pins s σ H Q I h => ?_⟩
  refine wpAny_Call_Name_kw (ld_glob I hg hm ?_ hdb)
  refine PySem.W.callWith_K (h₀ := X.base) I.ok.mod.kin hk (thn (ha.run pos pins s σ H _ I h) fun us s1 ⟨vs, H1, I1, r, q⟩ => ⟨I1.kIn, ?_⟩) he hpl
  have q' : sp vs H1 Q E0 := by rw [← List.append_nil vs]; exact q
  have hl : (us ++ []).length = ps.length := by rw [List.append_nil, ← r.length]; exact F.size _ _ _ q'
  have b := hb s1 us I1.kIn hl
  rw [List.append_nil] at b
  refine wpAny_call (codeAny_mono (F.go X.A X.stack s1 H1 ⟨us, []⟩ us vs Q hr I1.env0 b r q') fun r s' hq => ?_)
  exact ret_of I1 hq
end

theorem law_go {P : Program} {w : World} {K : PySem.W.Frag} {mg mb : Str → Option Value} {k : Nat} {fa a : Addr} {fd : FuncData} {x : Str} {sp : Sp} {s₁ : Shared} {vs : List Value} {ns : List Int}
    (KX : K.In s₁.heap) (hns : s₁.heap.Ns mainGlobals mg) (hb : s₁.heap.Ns builtinsNs mb) (hbb : ∀ x : Str, x ≠ "__name__" → mb x = bootBuiltins x) (hlim : s₁.heap.NoLimit) (hg : s₁.gens = #[])
    (ha : s₁.heap.get? a = some { cls := .type "list", data := .seq vs.toArray }) (hi : IntsAre vs ns) (hl : ns.length ≤ sizeLine) (hr : Rm k callerA)
    (F : ∀ base : Heap, K.In base → base.Ns mainGlobals mg → Fg P w K mg base k fa fd [x] sp) (hbind : ∀ (s : Shared) (u : Value), BindsTo s fd ⟨[u], []⟩ [(x, u)])
    (hsp : ∀ H : Hp, Only H → SqL K H a (ns.map V.int) → sp [.ref a] H (fun v _ => v = .bl true) E0) :
    codeAny (model P w) callerA (.call (.ref fa) ⟨[.ref a], []⟩) (fun r s' => r = .ok (.ret (.bool true)) ∧ OldK s₁.heap s'.heap ∧ s'.os = s₁.os ∧ AllBare s'.gens) s₁ := by
  have rv := vals_ints hi
  have lenV := hi.length
  have main : ∀ H : Hp, Only H → SqL K H a (ns.map V.int) → HOk P w H s₁.heap → (∀ b, H b ≠ none → b = a) → (H a ≠ none → K.lookup a = none) →
      codeAny (model P w) callerA (.call (.ref fa) ⟨[.ref a], []⟩) (fun r s' => r = .ok (.ret (.bool true)) ∧ OldK s₁.heap s'.heap ∧ s'.os = s₁.os ∧ AllBare s'.gens) s₁ := by
    intro H hO hS hok hA hK
    have only_a : ∀ {b : Addr} {u : HO}, H b = some u → b = a := fun {b u} q => hA b (by rw [q]; exact fun z => nomatch z)
    have free_dict : ∀ {b : Addr} {o : Obj} {es : Array DictEntry} {ep : Nat}, s₁.heap.get? b = some o → o.data = .dict es ep → H b = none := fun {b o es ep} e d => by
      cases q : H b with
      | none => rfl
      | some u =>
        rw [only_a q, ha] at e
        cases e
        exact nomatch (show Data.seq vs.toArray _ = Data.dict es ep from d)
    have ns_of : ∀ {b : Addr} {m : Str → Option Value}, s₁.heap.Ns b m → (hidT s₁.heap H).Ns b m := fun {b m} ⟨o, es, ep, e, d, r⟩ => ⟨o, es, ep, hidT_get e (free_dict e d), d, r⟩
    have hKb : K.In (hidT s₁.heap H) := fun b o e => hidT_get (KX b o e) (by
      cases q : H b with
      | none => rfl
      | some u =>
        have e' := only_a q
        rw [e', hK (by rw [← e', q]; exact fun z => nomatch z)] at e
        cases e)
    have hM : Mod K mg (hidT s₁.heap H) := ⟨hKb, ns_of hns, ⟨mb, ns_of hb, hbb⟩, let ⟨mc, h1, h2⟩ := hlim; ⟨mc, ns_of h1, h2⟩⟩
    have e0 : Env0 P w K mg (hidT s₁.heap H) callerA [] s₁ H := ⟨rfl, hM, fun b o e => of_hidT e, Nat.le_of_eq (hidT_size _ _), trivial, fun b hb => absurd (show b ∈ ([] : List Addr) from hb) List.not_mem_nil, hok, .of_eq hg⟩
    refine codeAny_mono ((F _ hKb (ns_of hns)).go callerA [] s₁ H ⟨[.ref a], []⟩ [.ref a] [.ref a] _ hr e0 (hbind s₁ (.ref a)) (.cons rfl .nil) (hsp H hO hS)) fun r s' h => ?_
    cases r with
    | error e => exact False.elim h
    | ok fl =>
      cases fl with
      | next => exact False.elim h
      | brk => exact False.elim h
      | cont => exact False.elim h
      | ret u =>
        obtain ⟨v, H', os, bare, un, hok', r', q⟩ := h
        obtain rfl : v = .bl true := q
        obtain rfl : u = Value.bool true := r'
        refine ⟨rfl, OldK.of_keep fun b o e => ?_, os, bare⟩
        rcases hO b with z | ⟨ob, xs, z⟩
        · exact un.keep b o e z (fun z => absurd (show b ∈ ([] : List Addr) from z) List.not_mem_nil) List.not_mem_nil
        · obtain ⟨e1, _⟩ := hok b _ z
          obtain ⟨e2, _⟩ := hok' b _ (un.frzs b ob _ z)
          rw [e] at e1
          cases e1
          exact e2
  cases hk : K.lookup a with
  | some o =>
    have e := KX a o hk
    rw [ha] at e
    cases e
    refine main (fun _ => none) (fun _ => .inl rfl) (.inr ⟨_, vs.toArray, _, hk, rfl, rfl, rfl, by rw [List.size_toArray, lenV]; exact hl, by simpa using rv⟩) (fun b u z => nomatch (show (none : Option HO) = some u from z)) (fun b z => absurd rfl z) fun z => absurd rfl z
  | none =>
    refine main (fun b => if b = a then some (.frz { cls := .type "list", data := .seq vs.toArray } (.lst (ns.map V.int))) else none) (fun b => ?_) (.inl (.inr ⟨{ cls := .type "list", data := .seq vs.toArray }, if_pos rfl⟩)) (fun b u z => ?_) (fun b z => ?_) fun _ => hk
    · by_cases hb : b = a
      · exact .inr ⟨_, _, if_pos hb⟩
      · exact .inl (if_neg hb)
    · by_cases hb : b = a
      · have z' := (if_pos hb).symm.trans z
        cases z'
        subst hb
        exact ⟨ha, by rw [List.length_map]; exact hl, vs, _, rv, ha⟩
      · have z' := (if_neg hb).symm.trans z
        cases z'
    · by_cases hb : b = a
      · exact hb
      · exact absurd (if_neg hb) z

theorem walk_go {l : PySem.W.OpenLaw} {n k : Nat} {q : Program} {loose : List Str} {XP : (Str → Option Value) → Heap → Prop} {YP : World → Heap → Prop} {d : DefRec} {K : Params → PySem.W.Frag} {sp : PySem.W.Frag → Sp} {x : Str}
    (hn : l.most = some n) (hn2 : n ≤ sizeLine) (hdf : d.params.defaults = []) (hr : Rm k callerA)
    (hY : ∀ (w : World) (h : Heap), YP w h → (K w.params).In h)
    (F : ∀ (w : World) (mg : Str → Option Value) (fa : Addr) (h : Heap), (K w.params).In h → h.Ns mainGlobals mg → mg d.name = some (.ref fa) →
      ∃ fd : FuncData, (∀ (s : Shared) (u : Value), BindsTo s fd ⟨[u], []⟩ [(x, u)]) ∧
        ∀ base : Heap, (K w.params).In base → base.Ns mainGlobals mg → Fg l.prog w (K w.params) mg base k fa fd [x] (sp (K w.params)))
    (hsp : ∀ (K : PySem.W.Frag) (H : Hp) (a : Addr) (ns : List Int), ns.length ≤ n → Only H → SqL K H a (ns.map V.int) → sp K [.ref a] H (fun v _ => v = .bl true) E0) :
    PySem.W.WalkO q loose XP YP l.row.toRowW d [] (fun f vs => PySem.call f vs) := by
  refine Att.attach_call hn hdf fun w s₀ s₁ mg mb fa o pm cd doc a vs ns G Y ho hd hcd hmg hobj hints hlen hg => ?_
  have KX := hY w _ Y
  obtain ⟨fd, hb, hF⟩ := F w mg fa _ KX G.T.g hmg
  exact law_go KX G.T.g G.T.b G.T.builtins G.T.nolimit hg hobj hints (Nat.le_trans hlen hn2) hr hF hb (fun H hO hS => hsp _ H a ns hlen hO hS)

def keyD : L2.Key → PyData
  | .inl i => .int i
  | .inr z => .str z
def flatV0 : V → Option PyData
  | .non => some .none
  | .bl b => some (.bool b)
  | .int i => some (.int i)
  | .str x => some (.str x)
  | _ => none
/-- the data of a dict's entries, all of them flat -/
def entsD : List (L2.Key × V) → Option (List (PyData × PyData))
  | [] => some []
  | (k, v) :: r => match flatV0 v, entsD r with
    | some d, some ds => some ((keyD k, d) :: ds)
    | _, _ => none
/-- what repr reads: data without dicts; dicts of flat things; tuples of both where no list stands beside a dict -/
inductive Dt (K : PySem.W.Frag) (H : Hp) : V → PyData → Prop
  | base {v : V} {d : PyData} : Dp K H v d → Dt K H v d
  | dic {a : Addr} {kvs : List (L2.Key × V)} {ds : List (PyData × PyData)} : H a = some (.dK kvs) → entsD kvs = some ds → Dt K H (.ref a) (.dict ds)
section
variable {X : Cx} {pins : List (Addr × Obj)} {σ : L2.St} {H : Hp} {s : Shared}
mutual
theorem dp_noDict {K : PySem.W.Frag} {H : Hp} : ∀ (d : PyData) (v : V), Dp K H v d → d.hasDict = false
  | .none, _, _ => by simp only [PyData.hasDict]
  | .bool _, _, _ => by simp only [PyData.hasDict]
  | .int _, _, _ => by simp only [PyData.hasDict]
  | .str _, _, _ => by simp only [PyData.hasDict]
  | .list ds, _, h => by
    cases h with
    | lst _ ha =>
      simp only [PyData.hasDict]
      exact dpAll_noDict ds _ ha
  | .tuple ds, _, h => by
    cases h with
    | tup _ ha =>
      simp only [PyData.hasDict]
      exact dpAll_noDict ds _ ha
  | .dict _, _, h => by cases h
theorem dpAll_noDict {K : PySem.W.Frag} {H : Hp} : ∀ (ds : List PyData) (vs : List V), DpAll K H vs ds → PyData.hasDictAll ds = false
  | [], _, _ => by simp only [PyData.hasDictAll]
  | d :: ds, _, h => by
    cases h with
    | cons h1 h2 => simp only [PyData.hasDictAll, dp_noDict d _ h1, dpAll_noDict ds _ h2, Bool.or_self]
end
mutual
theorem dp_mono {K : PySem.W.Frag} {H H' : Hp} (hl : ∀ a xs, SqL K H a xs → SqL K H' a xs) (ht : ∀ a xs, SqT K H a xs → SqT K H' a xs) : ∀ (d : PyData) (v : V), Dp K H v d → Dp K H' v d
  | .none, _, h => by cases h; exact .non
  | .bool b, _, h => by cases h; exact .bl b
  | .int i, _, h => by cases h; exact .int i
  | .str x, _, h => by cases h; exact .str x
  | .list ds, _, h => by
    cases h with
    | lst hs ha => exact .lst (hl _ _ hs) (dpAll_mono hl ht ds _ ha)
  | .tuple ds, _, h => by
    cases h with
    | tup hs ha => exact .tup (ht _ _ hs) (dpAll_mono hl ht ds _ ha)
  | .dict _, _, h => by cases h
theorem dpAll_mono {K : PySem.W.Frag} {H H' : Hp} (hl : ∀ a xs, SqL K H a xs → SqL K H' a xs) (ht : ∀ a xs, SqT K H a xs → SqT K H' a xs) : ∀ (ds : List PyData) (vs : List V), DpAll K H vs ds → DpAll K H' vs ds
  | [], _, h => by cases h; exact .nil
  | d :: ds, _, h => by
    cases h with
    | cons h1 h2 => exact .cons (dp_mono hl ht d _ h1) (dpAll_mono hl ht ds _ h2)
end
theorem same_t {K : PySem.W.Frag} {H H' : Hp} {a : Addr} {xs : List V} (e : Same H H') (h : SqT K H a xs) : SqT K H' a xs := by
  rcases h with (h | ⟨o, h⟩) | h
  · exact .inl (.inl (e _ _ h))
  · exact .inl (.inr ⟨o, e _ _ h⟩)
  · exact .inr h
theorem Dt.same {K : PySem.W.Frag} {H H' : Hp} {v : V} {d : PyData} (h : Dt K H v d) (e : Same H H') : Dt K H' v d := by
  cases h with
  | base h => exact .base (dp_mono (fun _ _ q => e.seq q) (fun _ _ q => same_t e q) _ _ h)
  | dic h1 h2 => exact .dic (e _ _ h1) h2
theorem flat_reads {h : Heap} {v : V} {u : Value} {d : PyData} (e : flatV0 v = some d) (r : RelV v u) : Reads h u d [] := by
  cases v with
  | non => cases e; cases r; exact .none
  | bl b => cases e; cases r; exact .bool b
  | int i => cases e; obtain ⟨t, rfl⟩ := r; exact .int i t
  | str x => cases e; obtain ⟨t, rfl⟩ := r; exact .str x t
  | byt _ => cases e
  | flt _ => cases e
  | ref _ => cases e
  | ty _ => cases e
theorem key_reads {h : Heap} {k : L2.Key} {u : Value} (e : keyIs k u = true) : Reads h u (keyD k) [] := by
  rcases keyIs_shape e with ⟨i, t, rfl, rfl⟩ | ⟨x, t, rfl, rfl⟩
  · exact .int i t
  · exact .str x t
theorem ents_read {P : Program} {w : World} {h : Heap} : ∀ {kvs : List (L2.Key × V)} {us : List (L2.Key × Value)} {es : List DictEntry} {ds : List (PyData × PyData)}, Pairs (mixKind P w) es us → KV kvs us → entsD kvs = some ds →
    ReadsAll h (es.map (·.key)) (ds.map (·.1)) [] ∧ ReadsAll h (es.map (·.val)) (ds.map (·.2)) []
  | [], _, _, _, hp, hk, e => by
    cases hk
    cases hp
    cases e
    exact ⟨.nil, .nil⟩
  | (k, v) :: r, _, _, _, hp, hk, e => by
    cases hk with
    | cons h1 h2 =>
      cases hp with
      | cons p1 p2 p3 =>
        unfold entsD at e
        cases e1 : flatV0 v with
        | none =>
          rw [e1] at e
          cases e
        | some d =>
          cases e2 : entsD r with
          | none =>
            rw [e1, e2] at e
            cases e
          | some ds =>
            rw [e1, e2] at e
            cases e
            obtain ⟨q1, q2⟩ := ents_read p3 h2 e2
            obtain ⟨ek, rv⟩ := h1
            have e1' : flatV0 (k, v).2 = some d := e1
            refine ⟨?_, ?_⟩
            · have z : Reads h _ (keyD k) [] := key_reads (k := k) (by
                have y := p1
                rw [mixKind_is] at y
                rw [← ek] at y
                exact y)
              exact ReadsAll.cons z q1
            · have z : Reads h _ d [] := flat_reads (u := _) e1' (p2.symm ▸ rv)
              exact ReadsAll.cons z q2
theorem Dt.reads {v : V} {u : Value} {d : PyData} (I : Inv X pins σ H s) (h : Dt X.K H v d) (r : RelV v u) : ∃ as, Reads s.heap u d as ∧ (d.hasDict = true → sysModules ∉ as) := by
  cases h with
  | base h =>
    obtain ⟨as, q⟩ := Dp.reads I d v u h r
    exact ⟨as, q, PyData.noDict_hsm (dp_noDict d v h)⟩
  | @dic a kvs ds h1 h2 =>
    obtain rfl : u = Value.ref a := r
    obtain ⟨hz, hs, us, rk, o, es, ep, ho, hx, hd, _, hp, _⟩ : kvs.length ≤ sizeLine ∧ (a == sysModules) = false ∧ ∃ vs, KV kvs vs ∧ s.heap.DictOf (mixKind X.prog X.w) a vs := I.hok a _ h1
    obtain ⟨q1, q2⟩ := ents_read (h := s.heap) hp rk h2
    refine ⟨_, Reads.dict ho hx.1 hd q1 q2, fun _ z => ?_⟩
    have z' : sysModules ∈ [a] := z
    have e := List.mem_singleton.mp z'
    rw [e, beq_self_eq_true] at hs
    cases hs
end
end GG

namespace DL
open PySem
def tabs : List Addr := []
end DL

set_option Elab.async false
set_option linter.all false
set_option maxRecDepth 100000
set_option maxHeartbeats 4000000
namespace DD
open PySem PySem.Spec PyProof.Rows L2 GG
/-- a def of the text by its name, with its promise -/
structure Df (P : Program) (w : World) (K : PySem.W.Frag) (mg : Str → Option Value) (base : Heap) (k : Nat) (nm : Str) (ps : List Str) (sp : Sp) : Prop where
  ex : ∃ f fd, Fg P w K mg base k f fd ps sp ∧ mg nm = some (.ref f) ∧ PySem.W.keepIn K (.ref f) = true ∧ Binds K fd ps []
section
variable {X : Cx} {k : Nat} {nm : Str} {ps : List Str} {sp : Sp} {p pos : Pos} {e : Expr} {es : List Expr} {t : TA}
theorem dcall (D : Df X.prog X.w X.K X.mg X.base k nm ps sp) (hr : Rm k X.A) (hg : Gl X nm) (ha : PA X (e :: es) t)
    (hdb : (nm == ("__debug__" : Str)) = false := by decide) (he : starEach (e :: es) X.env = (false, eval e X.env) :: starEach es X.env := by rfl) (hpl : (backTo pos (starEach es X.env)).any (·.1) = false := by rfl) :
    PE X (.Call (.Name nm p) (e :: es) [] pos) (tCall sp [] E0 t) := by
  obtain ⟨f, fd, F, hm, hk, hb⟩ := D.ex
  exact pcall F hr hg hm hk hb ha hdb he hpl
end

theorem same_upd {H : Hp} {p : Addr} {o : HO} (h : H p = none) : Same H (upd H p o) := fun b x e => by
  rw [upd_ne (ne_of_none e h)]
  exact e
theorem ne_new {H : Hp} {a p : Addr} {o : HO} (e : H a = some o) (n : H p = none) : a ≠ p := ne_of_none e n
/-- what stood stands, but at p and l -/
def But (p l : Addr) (H H' : Hp) : Prop := ∀ b o, b ≠ p → b ≠ l → H b = some o → H' b = some o
theorem But.refl (p l : Addr) (H : Hp) : But p l H H := fun _ _ _ _ h => h
theorem But.trans {p l : Addr} {H H1 H2 : Hp} (a : But p l H H1) (b : But p l H1 H2) : But p l H H2 := fun c o h1 h2 h => b c o h1 h2 (a c o h1 h2 h)
theorem But.of {p l : Addr} {H H' : Hp} (s : Same H H') : But p l H H' := fun b o _ _ h => s b o h
theorem But.left {p l : Addr} {H H' : Hp} {o : HO} (s : But p l H H') : But p l H (upd H' p o) := fun b u h1 h2 h => by
  rw [upd_ne h1]
  exact s b u h1 h2 h
theorem But.right {p l : Addr} {H H' : Hp} {o : HO} (s : But p l H H') : But p l H (upd H' l o) := fun b u h1 h2 h => by
  rw [upd_ne h2]
  exact s b u h1 h2 h
theorem sq {K : PySem.W.Frag} {H : Hp} {a : Addr} {xs : List V} (h : H a = some (.lst xs)) : SqL K H a xs := .inl (.inl h)
theorem sqt {K : PySem.W.Frag} {H : Hp} {a : Addr} {xs : List V} (h : H a = some (.tup xs)) : SqT K H a xs := .inl (.inl h)
theorem szl {n : Nat} (h : n ≤ 1000) : n < sizeLine := Nat.lt_of_le_of_lt h (by decide)
theorem szi {n : Nat} (h : n ≤ 1000) : n ≤ sizeLine := Nat.le_of_lt (szl h)
theorem But.seq {K : PySem.W.Frag} {p l a : Addr} {H H' : Hp} {xs : List V} (b : But p l H H') (h1 : a ≠ p) (h2 : a ≠ l) (h : SqL K H a xs) : SqL K H' a xs := by
  rcases h with (h | ⟨o, h⟩) | h
  · exact .inl (.inl (b _ _ h1 h2 h))
  · exact .inl (.inr ⟨o, b _ _ h1 h2 h⟩)
  · exact .inr h

open Classical in
/-- the heap without the things of S -/
noncomputable def Hd (S : Addr → Prop) (H : Hp) : Hp := fun b => if S b then none else H b
theorem hd_ne {S : Addr → Prop} {b : Addr} {H : Hp} (h : ¬ S b) : Hd S H b = H b := if_neg h
theorem hd_some {S : Addr → Prop} {b : Addr} {H : Hp} {o : HO} (h : Hd S H b = some o) : ¬ S b ∧ H b = some o := by
  unfold Hd at h
  by_cases z : S b
  · rw [if_pos z] at h
    cases h
  · rw [if_neg z] at h
    exact ⟨z, h⟩
theorem hd_sub (S : Addr → Prop) (H : Hp) : Same (Hd S H) H := fun b o h => (hd_some h).2
theorem But.hd {S : Addr → Prop} {p l : Addr} {H H' : Hp} (b : But p l H H') (sp : S p) (sl : S l) : Same (Hd S H) (Hd S H') := fun a o h => by
  obtain ⟨h1, h3⟩ := hd_some h
  rw [hd_ne h1]
  exact b a o (fun e => h1 (by rw [e]; exact sp)) (fun e => h1 (by rw [e]; exact sl)) h3
theorem hdS {S : Addr → Prop} {H H' : Hp} (s : Same H H') : Same (Hd S H) (Hd S H') := fun a o h => by
  obtain ⟨h1, h3⟩ := hd_some h
  rw [hd_ne h1]
  exact s a o h3
/-- something of S is changed -/
theorem hd_upd {S : Addr → Prop} {H : Hp} {a : Addr} {o : HO} (s : S a) : Same (Hd S H) (Hd S (upd H a o)) := fun b u h => by
  obtain ⟨h1, h3⟩ := hd_some h
  rw [hd_ne h1, upd_ne (fun e : b = a => h1 (by rw [e]; exact s))]
  exact h3
/-- the things of S stand -/
def Taken (H : Hp) (S : Addr → Prop) : Prop := ∀ b, S b → ∃ o, H b = some o
theorem Taken.same {H H' : Hp} {S : Addr → Prop} (t : Taken H S) (s : Same H H') : Taken H' S := fun b h => (t b h).imp fun o h => s _ _ h
theorem Taken.ne {H : Hp} {S : Addr → Prop} {q : Addr} (t : Taken H S) (n : H q = none) : ¬ S q := fun h => by
  obtain ⟨o, e⟩ := t q h
  rw [n] at e
  cases e
section
variable {K : PySem.W.Frag} {S : Addr → Prop} {σ : L2.St} {H : Hp}
/-- an expression gives data d, apart from S; nothing that stood changes -/
def EvP (K : PySem.W.Frag) (S : Addr → Prop) (te : TE) (σ : L2.St) (d : PyData) : Prop := ∀ H1, Taken H1 S → ∀ Q : VK, (∀ v H2, Same H1 H2 → Dp K (Hd S H2) v d → Q v H2) → te σ H1 Q
/-- the same for what may hold dicts -/
def EvT (K : PySem.W.Frag) (S : Addr → Prop) (te : TE) (σ : L2.St) (d : PyData) : Prop := ∀ H1, Taken H1 S → ∀ Q : VK, (∀ v H2, Same H1 H2 → Dt K (Hd S H2) v d → Q v H2) → te σ H1 Q
theorem EvP.t {te : TE} {d : PyData} (h : EvP K S te σ d) : EvT K S te σ d := fun H1 t Q q => h H1 t Q fun v H2 s hv => q v H2 s (.base hv)
inductive DtAll (K : PySem.W.Frag) (H : Hp) : List V → List PyData → Prop
  | nil : DtAll K H [] []
  | cons {v : V} {vs : List V} {d : PyData} {ds : List PyData} : Dt K H v d → DtAll K H vs ds → DtAll K H (v :: vs) (d :: ds)
theorem DtAll.len {H : Hp} : ∀ {vs : List V} {ds : List PyData}, DtAll K H vs ds → vs.length = ds.length
  | _, _, .nil => rfl
  | _, _, .cons _ h => by rw [List.length_cons, List.length_cons, DtAll.len h]
theorem DtAll.same {H H' : Hp} (s : Same H H') : ∀ {vs : List V} {ds : List PyData}, DtAll K H vs ds → DtAll K H' vs ds
  | _, _, .nil => .nil
  | _, _, .cons h t => .cons (h.same s) (t.same s)
theorem DtAll.append {H : Hp} : ∀ {vs us : List V} {ds es : List PyData}, DtAll K H vs ds → DtAll K H us es → DtAll K H (vs ++ us) (ds ++ es)
  | _, _, _, _, .nil, h => h
  | _, _, _, _, .cons h t, k => .cons h (t.append k)
theorem DtAll.mem {H : Hp} : ∀ {vs : List V} {ds : List PyData} {v : V}, DtAll K H vs ds → v ∈ vs → ∃ d, d ∈ ds ∧ Dt K H v d
  | _, _, _, .nil, h => absurd h List.not_mem_nil
  | _, _, _, .cons (d := d) h t, m => by
    rcases List.mem_cons.mp m with e | m
    · exact ⟨d, List.mem_cons_self, e ▸ h⟩
    · obtain ⟨d', h1, h2⟩ := t.mem m
      exact ⟨d', List.mem_cons_of_mem _ h1, h2⟩
end
theorem rd_lst {ta : TA} {σ : L2.St} {H : Hp} {Q : VK} (h : ta σ H fun xs H1 => xs.length ≤ sizeLine ∧ ∀ a, H1 a = none → Q (.ref a) (upd H1 a (.lst xs))) : tLst ta σ H Q := h
theorem rd_set {te : TE} {i : Nat} {u : TS} {D : Ends} {σ : L2.St} {H : Hp} (h : te σ H fun v H1 => u D (σ.set i (some v)) H1) : tSeq (tAsg te (gName i)) u D σ H := h
theorem rd_ret {te : TE} {D : Ends} {σ : L2.St} {H : Hp} (h : te σ H D.rt) : tRet te D σ H := h
theorem rd_op {r : R2} {ta tb : TE} {σ : L2.St} {H : Hp} {Q : VK} (h : ta σ H fun x H1 => tb σ H1 fun y H2 => r x y H2 Q) : tOp r ta tb σ H Q := h
theorem rd_cons {te : TE} {ta : TA} {σ : L2.St} {H : Hp} {Q : List V → Hp → Prop} (h : te σ H fun x H1 => ta σ H1 fun xs H2 => Q (x :: xs) H2) : tCons te ta σ H Q := h
theorem rd_nil {σ : L2.St} {H : Hp} {Q : List V → Hp → Prop} (h : Q [] H) : tNil σ H Q := h
theorem rd_call {sp : Sp} {ta : TA} {σ : L2.St} {H : Hp} {Q : VK} (h : ta σ H fun vs H1 => sp (vs ++ []) H1 Q E0) : tCall sp [] E0 ta σ H Q := h
theorem rd_cb {r : List V → Hp → VK → Prop} {ta : TA} {σ : L2.St} {H : Hp} {Q : VK} (h : ta σ H fun vs H1 => r vs H1 Q) : tCB r ta σ H Q := h
theorem rd_var {i : Nat} {v : V} {σ : L2.St} {H : Hp} {Q : VK} (e : σ[i]? = some (some v)) (h : Q v H) : tVar i σ H Q := ⟨v, e, h⟩
theorem rd_test {te : TE} {σ : L2.St} {H : Hp} {Q : Bool → Hp → Prop} (h : te σ H fun x H' => ∃ k, x = .bl k ∧ Q k H') : tTest te σ H Q := h
end DD

set_option Elab.async false
set_option linter.all false
set_option maxRecDepth 100000
set_option maxHeartbeats 4000000
namespace DD
open PySem PySem.Spec PyProof.Rows L2 GG
theorem pT {c : Prop} [Decidable c] {a b : Prop} (hc : c) (h : a) : ite c a b := (if_pos hc).mpr h
theorem pF {c : Prop} [Decidable c] {a b : Prop} (hc : ¬ c) (h : b) : ite c a b := (if_neg hc).mpr h
theorem rd_ifS {c : TT} {t u : TS} {D : Ends} {σ : L2.St} {H : Hp} (h : c σ H fun b H1 => if b = true then t D σ H1 else u D σ H1) : tIfS c t u D σ H := h
theorem rd_seq {u v : TS} {D : Ends} {σ : L2.St} {H : Hp} (h : u { D with nx := v D } σ H) : tSeq u v D σ H := h
section
variable {wi : TI} {J : It} {g : TG} {tt : TT} {tb : TS} {te : TE} {vs : List Nat} {σ : L2.St} {H H1 : Hp} {Q : VK} {D : Ends}
def ForOk (J : It) (g : TG) (tb : TS) (D : Ends) (σ : L2.St) (H1 : Hp) : Prop := ∃ W : Nat → Nat → L2.St → Hp → Prop, (∃ m, W 0 m σ H1) ∧ ∀ i m σ H, W i m σ H →
  (J.stop i H ∧ D.nx σ H) ∨ (J.go i H ∧ ∃ N : L2.St → Hp → Prop, (∀ σ' H', N σ' H' → ∃ m', m' < m ∧ W (i + 1) m' σ' H') ∧ ∀ x H', J.yld i H x H' → g x σ H' fun σ2 H2 => tb { D with nx := N, ct := N, bk := D.nx } σ2 H2)
theorem rd_for (h : wi σ H fun J H1 => ForOk J g tb D σ H1) : tFor wi g tb D σ H := h
/-- for, n turns: I by the turn -/
theorem for_in (n : Nat) (I : Nat → L2.St → Hp → Prop) (h0 : I 0 σ H1)
    (hstop : ∀ σ' H', I n σ' H' → J.stop n H' ∧ D.nx σ' H')
    (hgo : ∀ i σ' H', i < n → I i σ' H' → J.go i H' ∧ ∀ N : L2.St → Hp → Prop, (∀ σ2 H2, I (i + 1) σ2 H2 → N σ2 H2) → ∀ x H2, J.yld i H' x H2 → g x σ' H2 fun σ3 H3 => tb { D with nx := N, ct := N, bk := D.nx } σ3 H3) :
    ForOk J g tb D σ H1 := by
  refine ⟨fun i m σ' H' => i + m = n ∧ I i σ' H', ⟨n, Nat.zero_add n, h0⟩, fun i m σ' H' ⟨e, h⟩ => ?_⟩
  by_cases hm : m = 0
  · subst hm
    have e' : i = n := by omega
    subst e'
    exact .inl (hstop _ _ h)
  · obtain ⟨h1, h2⟩ := hgo i σ' H' (by omega) h
    exact .inr ⟨h1, fun σ2 H2 => I (i + 1) σ2 H2, fun σ2 H2 k => ⟨m - 1, by omega, by omega, k⟩, h2 _ fun _ _ k => k⟩
def LcOk (J : It) (g : TG) (tt : TT) (te : TE) (vs : List Nat) (Q : VK) (σ : L2.St) (H1 : Hp) : Prop := ∀ D, H1 D = none → ∃ W : Nat → Nat → Hp → Prop, (∃ m, W 0 m (upd H1 D (.lst []))) ∧ ∀ i m H, W i m H →
  (J.stop i H ∧ Q (.ref D) H) ∨ (J.go i H ∧ ∃ Nx : Hp → Prop, (∀ H', Nx H' → ∃ m', m' < m ∧ W (i + 1) m' H') ∧ ∀ x H', J.yld i H x H' → g x (wipe σ vs) H' fun σ2 H2 => wipe σ2 vs = wipe σ vs ∧ tt σ2 H2 fun b H3 =>
    if b = true then te σ2 H3 fun y H4 => ∃ acc, H4 D = some (.lst acc) ∧ acc.length < sizeLine ∧ Nx (upd H4 D (.lst (acc ++ [y]))) else Nx H3)
theorem rd_lc (h : wi σ H fun J H1 => LcOk J g tt te vs Q σ H1) : tLc wi g tt te vs σ H Q := h
/-- a comprehension, n turns: I by the new list, the turn, what is there -/
theorem lc_in (n : Nat) (hn : n ≤ 1000) (I : Addr → Nat → List V → Hp → Prop)
    (h0 : ∀ L, H1 L = none → I L 0 [] (upd H1 L (.lst [])))
    (hstop : ∀ L acc H', H' L = some (.lst acc) → I L n acc H' → J.stop n H' ∧ Q (.ref L) H')
    (hgo : ∀ L i acc H', i < n → H' L = some (.lst acc) → I L i acc H' → J.go i H' ∧ ∀ (P : VK) (R : Hp → Prop), (∀ y H2, H2 L = some (.lst acc) → I L (i + 1) (acc ++ [y]) (upd H2 L (.lst (acc ++ [y]))) → P y H2) → (∀ H2, H2 L = some (.lst acc) → I L (i + 1) acc H2 → R H2) →
      ∀ x H2, J.yld i H' x H2 → g x (wipe σ vs) H2 fun σ2 H3 => wipe σ2 vs = wipe σ vs ∧ tt σ2 H3 fun b H4 => if b = true then te σ2 H4 P else R H4) :
    LcOk J g tt te vs Q σ H1 := by
  refine fun L hL => ⟨fun i m H' => i + m = n ∧ ∃ acc, H' L = some (.lst acc) ∧ acc.length ≤ i ∧ I L i acc H', ⟨n, Nat.zero_add n, [], upd_same, Nat.zero_le _, h0 L hL⟩, fun i m H' ⟨e, acc, h1, h2, h3⟩ => ?_⟩
  by_cases hm : m = 0
  · subst hm
    have e' : i = n := by omega
    subst e'
    exact .inl (hstop L acc H' h1 h3)
  · obtain ⟨k1, k2⟩ := hgo L i acc H' (by omega) h1 h3
    refine .inr ⟨k1, fun H2 => ∃ acc', H2 L = some (.lst acc') ∧ acc'.length ≤ i + 1 ∧ I L (i + 1) acc' H2, fun H2 k => ⟨m - 1, by omega, by omega, k⟩, k2 _ _ (fun y H2 z1 z2 => ⟨acc, z1, szl (by omega), acc ++ [y], upd_same, by rw [List.length_append]; exact Nat.succ_le_succ h2, z2⟩) fun H2 z1 z2 => ⟨acc, z1, by omega, z2⟩⟩
theorem rd_rng1 {ta : TA} {R : It → Hp → Prop} (h : ta σ H fun vs H1 => ∃ j : Int, vs = [.int j] ∧ -(2 ^ 62) ≤ j ∧ j < 2 ^ 62 ∧ R (Itr 0 j.toNat) H1) : iRng1 ta σ H R := h
theorem rd_ilist {K : PySem.W.Frag} {tl : TE} {R : It → Hp → Prop} (h : tl σ H fun x H1 => ∃ a, x = .ref a ∧ (∃ xs, SqL K H1 a xs) ∧ R (Itl K a) H1) : iList K tl σ H R := h
theorem rd_or {t u : TT} {Q : Bool → Hp → Prop} (h : t σ H fun c H1 => if c = true then Q true H1 else u σ H1 Q) : tOr t u σ H Q := h
theorem rd_not {t : TT} {Q : Bool → Hp → Prop} (h : t σ H fun c H1 => Q (!c) H1) : tNot t σ H Q := h
theorem rd_tb {te : TE} {Q : Bool → Hp → Prop} (h : te σ H fun x H1 => ∃ c, x = .bl c ∧ Q c H1) : tB te σ H Q := h
theorem rd_gnn {K : PySem.W.Frag} {i j : Nat} {a : Addr} {v w : V} {Q : L2.St → Hp → Prop} (h : SqT K H a [v, w]) (q : Q ((σ.set i (some v)).set j (some w)) H) : gTup K 2 (gCons (gName i) (gCons (gName j) gNil)) (.ref a) σ H Q := ⟨a, _, rfl, h, rfl, _, _, rfl, _, _, rfl, rfl, q⟩
end
end DD

set_option Elab.async false
set_option linter.all false
set_option maxRecDepth 100000
set_option maxHeartbeats 4000000
namespace RPU
open PySem PySem.Spec PyProof.Rows L2
end RPU

set_option Elab.async false
set_option linter.all false
set_option maxRecDepth 100000
set_option maxHeartbeats 4000000
namespace PT
open PySem PySem.Spec PyProof.Rows L2 GG
/-- a tuple without a dict of its own -/
def PlT (K : PySem.W.Frag) (H : Hp) (a : Addr) (xs : List V) : Prop := (∃ o, H a = some (.frz o (.tup xs)) ∧ o.dict = none) ∨
  ∃ (o : Obj) (its : Array Value) (n : Nat), K.lookup a = some o ∧ o.cls = .type "tuple" ∧ o.dict = none ∧ o.data = .seq its n ∧ its.size ≤ sizeLine ∧ Vals xs its.toList
theorem PlT.sq {K : PySem.W.Frag} {H : Hp} {a : Addr} {xs : List V} (h : PlT K H a xs) : SqT K H a xs := by
  rcases h with ⟨o, h, _⟩ | ⟨o, its, n, h1, h2, _, h3, h4, h5⟩
  · exact .inl (.inr ⟨o, h⟩)
  · exact .inr ⟨o, its, n, h1, h2, h3, h4, h5⟩
theorem PlT.same {K : PySem.W.Frag} {H H' : Hp} {a : Addr} {xs : List V} (s : Same H H') (h : PlT K H a xs) : PlT K H' a xs := by
  rcases h with ⟨o, h, e⟩ | h
  · exact .inl ⟨o, s _ _ h, e⟩
  · exact .inr h
/-- a new tuple is there -/
abbrev NewT (H : Hp) (xs : List V) (Q : VK) : Prop := ∀ p o, H p = none → o.dict = none → Q (.ref p) (upd H p (.frz o (.tup xs)))
section
variable {X : Cx} {pins : List (Addr × Obj)} {σ : L2.St} {H : Hp} {s : Shared}
/-- laid: the tuple's object as it was pushed -/
theorem laidT (I : Inv X pins σ H s) {xs : List V} {us : List Value} (r : Vals xs us) (hz : xs.length ≤ sizeLine) {Q : VK} (q : NewT H xs Q) :
    EP X pins σ Q (.ref s.heap.objs.size) { s with heap := s.heap.push { cls := .type "tuple", data := .seq us.toArray } } := by
  have hg : (s.heap.push { cls := .type "tuple", data := .seq us.toArray }).get? s.heap.objs.size = some { cls := .type "tuple", data := .seq us.toArray } := Heap.get?_push_size _ rfl
  refine ⟨.ref s.heap.objs.size, _, I.laid (t' := s.toks) (o := .frz { cls := .type "tuple", data := .seq us.toArray } (.tup xs)) (fun b u e => Heap.get?_push_of_some _ e) (Nat.le_refl _) ?_, rfl, q _ _ (I.hok.fresh (Nat.le_refl _)) rfl⟩
  exact ⟨hg, hz, us, r, ⟨_, hg, rfl, _, rfl⟩⟩
end
section
variable {X : Cx} {pos : Pos} {es : List Expr} {t : TA}
def tTupP (t : TA) : TE := fun σ H Q => t σ H fun xs H1 => xs.length ≤ sizeLine ∧ NewT H1 xs Q
theorem pe_tupP {x1} (h : PA X es t) : PE X (.Tuple es x1 pos) (tTupP t) := by
  refine ⟨fun pins s σ H Q I hq => ?_⟩
  refine wpAny_Tuple_spliced (thn (h.run pos pins s σ H _ I hq) fun us s1 ⟨xs, H1, I1, r, z, q⟩ => ⟨by rw [← r.length]; exact z, ?_⟩)
  exact laidT I1 r z q
/-- tuple(xs) of a list, of a tuple -/
def rToP (K : PySem.W.Frag) : List V → Hp → VK → Prop := fun xs H Q => ∃ p ys, xs = [.ref p] ∧ ((SqL K H p ys ∧ NewT H ys Q) ∨ (SqT K H p ys ∧ Q (.ref p) H))
theorem call_tuple_ofP : CallR X (.type "tuple") (rToP X.K) := by
  intro pins s σ H xs us Q I r h
  obtain ⟨p, ys, rfl, h⟩ := h
  obtain ⟨u, rfl, rx⟩ := vals1 r
  cases rx
  rcases h with ⟨hq, q⟩ | ⟨hq, q⟩
  · obtain ⟨its, r', pl, hz⟩ := I.list hq
    have hlen := r'.length
    refine call_tuple_list pl.isList (fun h' kp => ?_) (by simp only [List.size_toArray] <;> omega)
    exact laidT (s := { s with heap := h' }) (I.kept (t' := s.toks) kp) r' hz q
  · exact call_tuple_of pins s σ H [.ref p] [Value.ref p] Q I (.cons rfl .nil) ⟨p, ys, rfl, .inr ⟨hq, q⟩⟩
def rCatP (K : PySem.W.Frag) : R2 := fun x y H Q => ∃ a b xs ys, x = .ref a ∧ y = .ref b ∧ SqT K H a xs ∧ SqT K H b ys ∧ xs.length + ys.length ≤ sizeLine ∧
  (xs = [] → Q (.ref b) H) ∧ (xs ≠ [] → ys = [] → Q (.ref a) H) ∧ (xs ≠ [] → ys ≠ [] → NewT H (xs ++ ys) Q)
theorem op_catP : OpR X (binaryOp .Add) (rCatP X.K) := by
  intro pins s σ H x y v u Q I rx ry h
  obtain ⟨a, b, xs, ys, rfl, rfl, ha, hb, hz, q0, q1, q2⟩ := h
  by_cases hx : xs = []
  · exact op_catA pins s σ H (.ref a) (.ref b) v u Q I rx ry ⟨a, b, xs, ys, rfl, rfl, ha, hb, hz, q0, q1, fun z => absurd hx z⟩
  · cases rx
    cases ry
    obtain ⟨its, r1, p1, _⟩ := I.tuple ha
    obtain ⟨its2, r2, p2, _⟩ := I.tuple hb
    refine HT.cat_tup p1 p2 (fun z => hx (r1.nil_iff.mp z)) (fun z => ⟨.ref a, H, I, rfl, q1 hx (r2.nil_iff.mp z)⟩) (fun z => ?_) (by rw [← r1.length, ← r2.length]; exact hz)
    exact laidT I (r1.append r2) (by rw [List.length_append]; exact hz) (q2 hx fun w => z (r2.nil_iff.mpr w))
def rSlP (K : PySem.W.Frag) : V → Option Int → Option Int → Hp → VK → Prop := fun x lo hi H Q => ∃ a xs, x = .ref a ∧ SqT K H a xs ∧
  (HT.sIx xs.length 0 lo = 0 ∧ HT.sIx xs.length xs.length hi = xs.length → Q (.ref a) H) ∧ (¬ (HT.sIx xs.length 0 lo = 0 ∧ HT.sIx xs.length xs.length hi = xs.length) → NewT H (cutV xs lo hi) Q)
theorem sl_tupP : SlR X (rSlP X.K) := by
  intro pins s σ H x v vl vu lo hi sl Q I rx hs pl pu h
  obtain ⟨a, xs, rfl, hx, q1, q2⟩ := h
  by_cases hw : HT.sIx xs.length 0 lo = 0 ∧ HT.sIx xs.length xs.length hi = xs.length
  · exact sl_tupA pins s σ H (.ref a) v vl vu lo hi sl Q I rx hs pl pu ⟨a, xs, rfl, hx, q1, fun z => absurd hw z⟩
  · cases rx
    obtain ⟨its, r, ht, hz⟩ := I.tuple hx
    have hlen : its.toArray.size = xs.length := by rw [List.size_toArray]; exact r.length.symm
    refine ⟨"tuple", _, PyProof.Rows.slot_tuple_getitem.lookup, ht.typeIs, ?_⟩
    refine HT.getItem_tuple_cut ht hs pl pu (by rw [hlen]; exact hw) ?_ (by rw [hlen]; exact hz)
    rw [hlen]
    exact laidT I ((r.drop (HT.sIx xs.length 0 lo)).take (HT.sIx xs.length xs.length hi - HT.sIx xs.length 0 lo)) (Nat.le_trans (cutV_length xs lo hi) hz) (q2 hw)
/-- the pairs of a plain tuple -/
theorem pairs_at {pins : List (Addr × Obj)} {σ : L2.St} {H : Hp} {s : Shared} (I : Inv X pins σ H s) : ∀ {ps : List Addr} {kvs : List (L2.Key × V)}, Paired (fun p kv => SqT X.K H p [kV kv.1, kv.2]) ps kvs →
    ∃ qs : List (Value × Value), ∃ prs : List (L2.Key × Value), KV kvs prs ∧ qs.length = ps.length ∧ prs.length = ps.length ∧ (∀ (j : Nat) (k v : Value), qs[j]? = some (k, v) → (∃ b : Addr, ps[j]? = some b ∧ IsTup s.heap b #[k, v]) ∧ ∃ kk, prs[j]? = some (kk, v) ∧ keyIs kk k = true)
  | _, _, .nil => ⟨[], [], .nil, rfl, rfl, fun j k v e => by simp at e⟩
  | _, _, .cons (a := p) (b := kv) h t => by
    obtain ⟨qs, prs, r, h1, h2, h3⟩ := pairs_at I t
    obtain ⟨its, rv, ht, _⟩ := I.tuple h
    obtain ⟨u, y, ei, ru, ry⟩ := vals2 rv
    subst ei
    refine ⟨(u, y) :: qs, (kv.1, y) :: prs, .cons ⟨rfl, ry⟩ r, by rw [List.length_cons, List.length_cons, h1], by rw [List.length_cons, List.length_cons, h2], fun j k v e => ?_⟩
    cases j with
    | zero =>
      have e' : (u, y) = (k, v) := Option.some.inj e
      cases e'
      exact ⟨⟨p, rfl, ht⟩, kv.1, rfl, kV_is (P := X.prog) (w := X.w) ru⟩
    | succ j =>
      obtain ⟨⟨b, e1, e2⟩, kk, e3, e4⟩ := h3 j k v (by simpa using e)
      exact ⟨⟨b, by simpa using e1, e2⟩, kk, by simpa using e3, e4⟩
/-- dict(t) of a tuple of pairs (key, value): later pairs win, the place is the first one's -/
def rDictT (K : PySem.W.Frag) : List V → Hp → VK → Prop := fun xs H Q => ∃ (a : Addr) (ps : List Addr) (kvs : List (L2.Key × V)), xs = [.ref a] ∧ PlT K H a (ps.map V.ref) ∧ Paired (fun p kv => SqT K H p [kV kv.1, kv.2]) ps kvs ∧
    ∀ p, H p = none → Q (.ref p) (upd H p (.dK (mergeK [] kvs)))
theorem call_dictT (hcalm : X.calm = true) : CallR X (.type "dict") (rDictT X.K) := by
  intro pins s σ H xs us Q I r q
  obtain ⟨a, ps, kvs, ex, hq, hp, q⟩ := q
  subst ex
  obtain ⟨u, eu, rx⟩ := vals1 r
  subst eu
  cases rx
  obtain ⟨qs, prs, rel, l1, l2, hpr⟩ := pairs_at I hp
  have plain : ∃ items : Array Value, PySem.PlainSeq "tuple" s.heap a items ∧ items.toList = ps.map Value.ref ∧ ps.length ≤ sizeLine := by
    rcases hq with ⟨o, h, e⟩ | ⟨o, its, n, h1, h2, e, h3, h4, h5⟩
    · obtain ⟨g, hz, its, rv, o', ho', hc', n, hd'⟩ := (show ObjOk X.prog X.w H s.heap a (.frz o (.tup (ps.map V.ref))) from I.hok a _ h)
      rw [g] at ho'
      cases ho'
      have ei := refs_at rv
      subst ei
      exact ⟨_, ⟨o, n, g, hc', e, hd'⟩, rfl, by rw [List.length_map] at hz; exact hz⟩
    · have ei := refs_at h5
      have hl : its.size = ps.length := by
        rw [← Array.length_toList, ei, List.length_map]
      exact ⟨its, ⟨o, n, I.kIn a o h1, h2, e, h3⟩, ei, by omega⟩
  obtain ⟨items, hps, hi, hz⟩ := plain
  have hsz : items.size = ps.length := by rw [← Array.length_toList, hi, List.length_map]
  have hget : ∀ (j : Nat) (b : Addr), ps[j]? = some b → items[j]? = some (.ref b) := fun j b e => by
    rw [← Array.getElem?_toList, hi, List.getElem?_map, e]
    rfl
  have P := PySem.PairArg.tuple (prog := X.prog) (w := X.w) a items (fun j => (ps[j]?).getD 0) qs
  refine PySem.call_dict_pairs (knd := mixKind X.prog X.w) (kvs := prs) P (I.ok.hd hcalm) ⟨hps, by rw [hsz, l1], fun j k v e => ?_⟩ ⟨by rw [l2, l1], fun j k v e => ?_⟩ (by rw [l1]; exact hz) fun h' tk hd' k => ?_
  · obtain ⟨⟨b, e1, e2⟩, _⟩ := hpr j k v e
    have e3 : (ps[j]?).getD 0 = b := by rw [e1]; rfl
    show items[j]? = some (Value.ref ((ps[j]?).getD 0)) ∧ PairAt s.heap ((ps[j]?).getD 0) k v
    rw [e3]
    exact ⟨hget j b e1, .inl e2⟩
  · obtain ⟨_, kk, e3, e4⟩ := hpr j k v e
    exact ⟨kk, e3, e4⟩
  · have hm : (s.heap.objs.size == sysModules) = false := beq_eq_false_iff_ne.mpr (Nat.ne_of_gt I.big)
    have hlen : (mergeK [] kvs).length ≤ sizeLine := by
      refine Nat.le_trans (length_mergeK kvs []) ?_
      rw [List.length_nil, Nat.zero_add, rel.length, l2]
      exact hz
    exact ⟨.ref s.heap.objs.size, upd H s.heap.objs.size (.dK (mergeK [] kvs)), I.laid (t' := tk) (fun b o e => k b o List.not_mem_nil e) (Nat.le_refl _) (show ObjOk X.prog X.w _ _ _ (.dK (mergeK [] kvs)) from ⟨hlen, hm, merged [] prs, KV.merge rel .nil, hd'⟩), rfl, q _ (I.hok.fresh (Nat.le_refl _))⟩
end
end PT

set_option Elab.async false
set_option linter.all false
set_option maxRecDepth 100000
set_option maxHeartbeats 4000000
namespace DX
open PySem PySem.Spec PyProof.Rows L2
mutual
/-- a value is this key -/
inductive Nk (K : PySem.W.Frag) (H : Hp) : NestedKey → V → Prop
  | none : Nk K H .none .non
  | bool (b : Bool) : Nk K H (.num (if b = true then 1 else 0)) (.bl b)
  | int (i : Int) : Nk K H (.num i) (.int i)
  | text (x : Str) : Nk K H (.text x) (.str x)
  | tup {a : Addr} {xs : List V} {ks : List NestedKey} : SqT K H a xs → NkAll K H ks xs → Nk K H (.tup ks) (.ref a)
inductive NkAll (K : PySem.W.Frag) (H : Hp) : List NestedKey → List V → Prop
  | nil : NkAll K H [] []
  | cons {k : NestedKey} {v : V} {ks : List NestedKey} {vs : List V} : Nk K H k v → NkAll K H ks vs → NkAll K H (k :: ks) (v :: vs)
end
section
variable {X : Cx} {pins : List (Addr × Obj)} {σ : L2.St} {H : Hp} {s : Shared}
end
mutual
theorem Nk.mono {K : PySem.W.Frag} {H H' : Hp} (ht : ∀ a xs, SqT K H a xs → SqT K H' a xs) : ∀ (k : NestedKey) (v : V), Nk K H k v → Nk K H' k v
  | .none, _, h => by cases h; exact .none
  | .num i, _, h => by
    cases h with
    | bool b => exact .bool b
    | int i => exact .int i
  | .text x, _, h => by cases h; exact .text x
  | .tup ks, _, h => by
    cases h with
    | tup e q => exact .tup (ht _ _ e) (NkAll.mono ht ks _ q)
theorem NkAll.mono {K : PySem.W.Frag} {H H' : Hp} (ht : ∀ a xs, SqT K H a xs → SqT K H' a xs) : ∀ (ks : List NestedKey) (vs : List V), NkAll K H ks vs → NkAll K H' ks vs
  | [], _, h => by cases h; exact .nil
  | k :: ks, _, h => by
    cases h with
    | cons h1 h2 => exact .cons (Nk.mono ht k _ h1) (NkAll.mono ht ks _ h2)
end
/-- a dict's entries: key, the key's address, value -/
abbrev Es := List (NestedKey × Addr × V)
abbrev XR (es : Es) (xs : List (NestedKey × Addr × Value)) : Prop := Paired (fun (p : NestedKey × Addr × V) (q : NestedKey × Addr × Value) => p.1 = q.1 ∧ p.2.1 = q.2.1 ∧ RelV p.2.2 q.2.2) es xs
def ent (w : World) (x : NestedKey × Addr × Value) : DictEntry := ⟨x.1.hash w, .ref x.2.1, x.2.2⟩
def dxP (w : World) (a : Addr) (es : Es) (h : Heap) : Prop := es.length ≤ sizeLine ∧ (a == sysModules) = false ∧ ∃ xs, XR es xs ∧ ∃ o arr ep, h.get? a = some o ∧ o.ExactDict ∧ o.data = .dict arr ep ∧ arr.toList = xs.map (ent w) ∧ (xs.map (·.1)).Nodup
def dxO (w : World) (a : Addr) (es : Es) : HO := .ext (dxP w a es)
def Ks (K : PySem.W.Frag) (H : Hp) (es : Es) : Prop := ∀ e, e ∈ es → Nk K H e.1 (.ref e.2.1) ∧ e.1.depth ≤ 8
theorem XR.len {es : Es} {xs : List (NestedKey × Addr × Value)} (h : XR es xs) : es.length = xs.length := Paired.length h
section
variable {X : Cx} {pins : List (Addr × Obj)} {σ : L2.St} {H : Hp} {s : Shared} {a b : Addr} {v : V} {u r : Value} {A : Around} {E : Value → Shared → Prop} {es : Es} {k : NestedKey}
end
section
variable {X : Cx} {o i e f value : Expr} {pos pos' : Pos} {td ty tv tk : TE}
end
end DX

set_option Elab.async false
set_option linter.all false
set_option maxRecDepth 100000
set_option maxHeartbeats 4000000
namespace DL
open PySem PySem.Spec PyProof.Rows L2 GG DD PT
mutual
/-- a value is this data, whatever is inside -/
inductive Da (K : PySem.W.Frag) (H : Hp) : V → PyData → Prop
  | non : Da K H .non .none
  | bl (b : Bool) : Da K H (.bl b) (.bool b)
  | int (i : Int) : Da K H (.int i) (.int i)
  | str (x : Str) : Da K H (.str x) (.str x)
  | lst {a : Addr} {xs : List V} {ds : List PyData} : H a = some (.lst xs) → DaAll K H xs ds → Da K H (.ref a) (.list ds)
  | tup {a : Addr} {xs : List V} {ds : List PyData} : PlT K H a xs → DaAll K H xs ds → Da K H (.ref a) (.tuple ds)
  | dic {a : Addr} {kvs : List (L2.Key × V)} {ds : List (PyData × PyData)} : H a = some (.dK kvs) → DaKv K H kvs ds → Da K H (.ref a) (.dict ds)
  | dct {a : Addr} {kvs : List (List L2.Key × V)} {ds : List (PyData × PyData)} : H a = some (.dT kvs) → kvs ≠ [] → DaKt K H kvs ds → Da K H (.ref a) (.dict ds)
inductive DaAll (K : PySem.W.Frag) (H : Hp) : List V → List PyData → Prop
  | nil : DaAll K H [] []
  | cons {v : V} {vs : List V} {d : PyData} {ds : List PyData} : Da K H v d → DaAll K H vs ds → DaAll K H (v :: vs) (d :: ds)
inductive DaKv (K : PySem.W.Frag) (H : Hp) : List (L2.Key × V) → List (PyData × PyData) → Prop
  | nil : DaKv K H [] []
  | cons {k : L2.Key} {v : V} {r : List (L2.Key × V)} {d : PyData} {ds : List (PyData × PyData)} : Da K H v d → DaKv K H r ds → DaKv K H ((k, v) :: r) ((keyD k, d) :: ds)
inductive DaKt (K : PySem.W.Frag) (H : Hp) : List (List L2.Key × V) → List (PyData × PyData) → Prop
  | nil : DaKt K H [] []
  | cons {k : List L2.Key} {v : V} {r : List (List L2.Key × V)} {d : PyData} {ds : List (PyData × PyData)} : Da K H v d → DaKt K H r ds → DaKt K H ((k, v) :: r) ((.tuple (k.map keyD), d) :: ds)
end
section
variable {K : PySem.W.Frag} {H H' : Hp}
mutual
theorem Da.same (s : Same H H') : ∀ (d : PyData) (v : V), Da K H v d → Da K H' v d
  | .none, _, h => by cases h; exact .non
  | .bool b, _, h => by cases h; exact .bl b
  | .int i, _, h => by cases h; exact .int i
  | .str x, _, h => by cases h; exact .str x
  | .list ds, _, h => by
    cases h with
    | lst hs ha => exact .lst (s _ _ hs) (DaAll.same s ds _ ha)
  | .tuple ds, _, h => by
    cases h with
    | tup hs ha => exact .tup (hs.same s) (DaAll.same s ds _ ha)
  | .dict ds, _, h => by
    cases h with
    | dic hs ha => exact .dic (s _ _ hs) (DaKv.same s ds _ ha)
    | dct hs hn ha => exact .dct (s _ _ hs) hn (DaKt.same s ds _ ha)
theorem DaAll.same (s : Same H H') : ∀ (ds : List PyData) (vs : List V), DaAll K H vs ds → DaAll K H' vs ds
  | [], _, h => by cases h; exact .nil
  | d :: ds, _, h => by
    cases h with
    | cons h1 h2 => exact .cons (Da.same s d _ h1) (DaAll.same s ds _ h2)
theorem DaKv.same (s : Same H H') : ∀ (ds : List (PyData × PyData)) (vs : List (L2.Key × V)), DaKv K H vs ds → DaKv K H' vs ds
  | [], _, h => by cases h; exact .nil
  | (k, d) :: ds, _, h => by
    cases h with
    | cons h1 h2 => exact .cons (Da.same s d _ h1) (DaKv.same s ds _ h2)
theorem DaKt.same (s : Same H H') : ∀ (ds : List (PyData × PyData)) (vs : List (List L2.Key × V)), DaKt K H vs ds → DaKt K H' vs ds
  | [], _, h => by cases h; exact .nil
  | (k, d) :: ds, _, h => by
    cases h with
    | cons h1 h2 => exact .cons (Da.same s d _ h1) (DaKt.same s ds _ h2)
end
theorem Da.of {v : V} {d : PyData} (h : Da K H v d) (s : Same H H') : Da K H' v d := Da.same s d v h
theorem DaAll.of {vs : List V} {ds : List PyData} (h : DaAll K H vs ds) (s : Same H H') : DaAll K H' vs ds := DaAll.same s ds vs h
theorem DaKv.of {vs : List (L2.Key × V)} {ds : List (PyData × PyData)} (h : DaKv K H vs ds) (s : Same H H') : DaKv K H' vs ds := DaKv.same s ds vs h
theorem DaKt.of {vs : List (List L2.Key × V)} {ds : List (PyData × PyData)} (h : DaKt K H vs ds) (s : Same H H') : DaKt K H' vs ds := DaKt.same s ds vs h
theorem DaAll.len : ∀ {vs : List V} {ds : List PyData}, DaAll K H vs ds → vs.length = ds.length
  | _, _, .nil => rfl
  | _, _, .cons _ h => by rw [List.length_cons, List.length_cons, DaAll.len h]
theorem DaAll.append : ∀ {vs us : List V} {ds es : List PyData}, DaAll K H vs ds → DaAll K H us es → DaAll K H (vs ++ us) (ds ++ es)
  | _, _, _, _, .nil, h => h
  | _, _, _, _, .cons h t, k => .cons h (t.append k)
theorem DaAll.get : ∀ {vs : List V} {ds : List PyData} {i : Nat} {v : V}, DaAll K H vs ds → vs[i]? = some v → ∃ d, ds[i]? = some d ∧ Da K H v d
  | _, _, _, _, .nil, e => by simp at e
  | _, _, 0, _, .cons h _, e => by
    simp at e
    subst e
    exact ⟨_, rfl, h⟩
  | _, _, i + 1, v, .cons _ t, e => by
    obtain ⟨d, h1, h2⟩ := t.get (i := i) (v := v) (by simpa using e)
    exact ⟨d, by simpa using h1, h2⟩
theorem DaAll.getD : ∀ {vs : List V} {ds : List PyData} {i : Nat} {d : PyData}, DaAll K H vs ds → ds[i]? = some d → ∃ v, vs[i]? = some v ∧ Da K H v d
  | _, _, _, _, .nil, e => by simp at e
  | _, _, 0, _, .cons h _, e => by
    simp at e
    subst e
    exact ⟨_, rfl, h⟩
  | _, _, i + 1, d, .cons _ t, e => by
    obtain ⟨v, h1, h2⟩ := t.getD (i := i) (d := d) (by simpa using e)
    exact ⟨v, by simpa using h1, h2⟩
theorem DaAll.take (n : Nat) : ∀ {vs : List V} {ds : List PyData}, DaAll K H vs ds → DaAll K H (vs.take n) (ds.take n) := by
  induction n with
  | zero => intro vs ds h; exact .nil
  | succ n ih =>
    intro vs ds h
    cases h with
    | nil => exact .nil
    | cons h t => exact .cons h (ih t)
theorem DaAll.drop (n : Nat) : ∀ {vs : List V} {ds : List PyData}, DaAll K H vs ds → DaAll K H (vs.drop n) (ds.drop n) := by
  induction n with
  | zero => intro vs ds h; exact h
  | succ n ih =>
    intro vs ds h
    cases h with
    | nil => exact .nil
    | cons h t => exact ih t
end

mutual
/-- the key that a value is -/
def kN : PyData → Option NestedKey
  | .none => some .none
  | .bool b => some (.num (if b = true then 1 else 0))
  | .int i => some (.num i)
  | .str x => some (.text x)
  | .tuple ds => (kNs ds).map .tup
  | .list _ => none
  | .dict _ => none
def kNs : List PyData → Option (List NestedKey)
  | [] => some []
  | d :: ds => (kN d).bind fun k => (kNs ds).map (k :: ·)
end
mutual
theorem nk_da {K : PySem.W.Frag} {H : Hp} : ∀ (d : PyData) (v : V) (k : NestedKey), Da K H v d → kN d = some k → DX.Nk K H k v
  | .none, _, k, h, e => by
    cases h
    simp only [kN, Option.some.injEq] at e
    subst e
    exact .none
  | .bool b, _, k, h, e => by
    cases h
    simp only [kN, Option.some.injEq] at e
    subst e
    exact .bool b
  | .int i, _, k, h, e => by
    cases h
    simp only [kN, Option.some.injEq] at e
    subst e
    exact .int i
  | .str x, _, k, h, e => by
    cases h
    simp only [kN, Option.some.injEq] at e
    subst e
    exact .text x
  | .tuple ds, _, k, h, e => by
    cases h with
    | tup h1 h2 =>
      rw [kN, Option.map_eq_some_iff] at e
      obtain ⟨ks, e1, rfl⟩ := e
      exact .tup h1.sq (nks_da ds _ ks h2 e1)
  | .list ds, _, k, h, e => by
    simp only [kN] at e
    cases e
  | .dict ds, _, k, h, e => by
    simp only [kN] at e
    cases e
theorem nks_da {K : PySem.W.Frag} {H : Hp} : ∀ (ds : List PyData) (vs : List V) (ks : List NestedKey), DaAll K H vs ds → kNs ds = some ks → DX.NkAll K H ks vs
  | [], _, ks, h, e => by
    cases h
    simp only [kNs, Option.some.injEq] at e
    subst e
    exact .nil
  | d :: ds, _, ks, h, e => by
    cases h with
    | cons h1 h2 =>
      rw [kNs, Option.bind_eq_some_iff] at e
      obtain ⟨k, e1, e2⟩ := e
      rw [Option.map_eq_some_iff] at e2
      obtain ⟨ks', e3, rfl⟩ := e2
      exact .cons (nk_da d _ k h1 e1) (nks_da ds _ ks' h2 e3)
end
/-- the entries of a dict whose keys are tuples, to depth 8 -/
inductive DaX (K : PySem.W.Frag) (H : Hp) : DX.Es → List (PyData × PyData) → Prop
  | nil : DaX K H [] []
  | cons {k : NestedKey} {b : Addr} {v : V} {es : DX.Es} {dk d : PyData} {kvs : List (PyData × PyData)} : Da K H (.ref b) dk → kN dk = some k → k.depth ≤ 8 → Da K H v d → DaX K H es kvs → DaX K H ((k, b, v) :: es) ((dk, d) :: kvs)
theorem DaX.of {K : PySem.W.Frag} {H H' : Hp} {es : DX.Es} {kvs : List (PyData × PyData)} (h : DaX K H es kvs) (s : Same H H') : DaX K H' es kvs := by
  induction h with
  | nil => exact .nil
  | cons h1 h2 h3 h4 _ ih => exact .cons (h1.of s) h2 h3 (h4.of s) ih
theorem DaX.ks {K : PySem.W.Frag} {H : Hp} {es : DX.Es} {kvs : List (PyData × PyData)} (h : DaX K H es kvs) : DX.Ks K H es := by
  induction h with
  | nil => exact fun e he => absurd he List.not_mem_nil
  | cons h1 h2 h3 _ _ ih =>
    intro e he
    rcases List.mem_cons.mp he with rfl | he
    · exact ⟨nk_da _ _ _ h1 h2, h3⟩
    · exact ih e he
theorem DaX.len {K : PySem.W.Frag} {H : Hp} {es : DX.Es} {kvs : List (PyData × PyData)} (h : DaX K H es kvs) : es.length = kvs.length := by
  induction h with
  | nil => rfl
  | cons _ _ _ _ _ ih => rw [List.length_cons, List.length_cons, ih]

/-- what a slot holds: nothing that is known; data; a list of one's own (it may change); a dict of one's own; the deck -/
inductive DV where
  | un
  | dat (d : PyData)
  | own (ds : List PyData)
  | arg (a : Addr) (ds : List PyData)
  | argd (a : Addr) (kvs : List (PyData × PyData))
  | owd (kvs : List (PyData × PyData))
  | owt (kvs : List (PyData × PyData))
  | owx (w : World) (kvs : List (PyData × PyData))
  | lkd (a : Addr) (o : HO) (kvs : List (PyData × PyData))
  | lkk (a : Addr) (o : HO) (kvs : List (PyData × PyData))
  | deck
  | exc (a : Addr)
  | obj (a : Addr)
/-- what stands in an object of the store: data, another object, the deck -/
inductive OV where
  | d (x : PyData)
  | o (a : Addr)
  | dk
/-- an object of the store: a list, a dict (flat keys), an instance -/
inductive OB where
  | lst (xs : List OV)
  | dic (kvs : List (L2.Key × OV))
  | ins (C : Addr) (fs : List (Str × OV))
/-- the store: things that several may change -/
abbrev OS := Addr → Option OB
/-- what goes on beside the slots: the draws so far, the store -/
structure GS where
  n : Nat
  ob : OS
@[reducible] def GS.on (g : GS) (n : Nat) : GS := ⟨n, g.ob⟩
/-- no objects -/
@[reducible] def g0 (n : Nat) : GS := ⟨n, fun _ => none⟩
structure DSt where
  sl : List DV
  n : GS
/-- the deck, if there is one; objects that may be changed -/
structure Wo where
  dk : Option (Addr × Addr)
  ob : Addr → Prop
/-- no objects -/
def Wo.pl (W : Wo) : Wo := ⟨W.dk, fun _ => False⟩
def MuD : Option (Addr × Addr) → Addr → Prop
  | none => fun _ => False
  | some (p, l) => fun b => b = p ∨ b = l
/-- what may change under data: the deck, the tables of code objects -/
def Mu (W : Wo) (b : Addr) : Prop := (MuD W.dk b ∨ W.ob b) ∨ b ∈ tabs
/-- the deck at p, its cells at l, n draws so far -/
structure Deck (H : Hp) (p l : Addr) (n : Nat) : Prop where
  at_ : ∃ (m : Int) (cs : List Int), H p = some (.lst [.ref l, .int m, .int (n : Int)]) ∧ H l = some (.lst (cs.map V.int)) ∧ 0 ≤ m ∧ m < 2147483647 ∧ cs.length ≤ 64
  ne : l ≠ p
def DkD : Option (Addr × Addr) → Hp → Nat → Prop
  | none => fun _ _ => True
  | some (p, l) => fun H n => Deck H p l n
def TbOk (H : Hp) : Prop := ∀ t ∈ tabs, GxR.TabG H t
structure DkOk (W : Wo) (H : Hp) (n : Nat) : Prop where
  dk : DkD W.dk H n
  tb : TbOk H
  mo : ∀ b, W.ob b → ∃ o, H b = some o
theorem TbOk.same {H H' : Hp} (t : TbOk H) (s : Same H H') : TbOk H' := fun b hb => by
  obtain ⟨ps, h1, h2⟩ := t b hb
  exact ⟨ps, s _ _ h1, h2⟩
def ButW (W : Wo) (H H' : Hp) : Prop := ∀ b o, ¬ Mu W b → H b = some o → H' b = some o
theorem ButW.refl (W : Wo) (H : Hp) : ButW W H H := fun _ _ _ h => h
theorem ButW.trans {W : Wo} {H H1 H2 : Hp} (a : ButW W H H1) (b : ButW W H1 H2) : ButW W H H2 := fun c o h1 h => b c o h1 (a c o h1 h)
theorem ButW.of {W : Wo} {H H' : Hp} (s : Same H H') : ButW W H H' := fun b o _ h => s b o h
theorem Deck.same {H H' : Hp} {p l : Addr} {n : Nat} (d : Deck H p l n) (s : Same H H') : Deck H' p l n := by
  obtain ⟨⟨m, cs, h1, h2, h3⟩, h4⟩ := d
  exact ⟨⟨m, cs, s _ _ h1, s _ _ h2, h3⟩, h4⟩
theorem DkOk.same {W : Wo} {H H' : Hp} {n : Nat} (d : DkOk W H n) (s : Same H H') : DkOk W H' n := by
  refine ⟨?_, d.tb.same s, fun b hb => (d.mo b hb).elim fun o h => ⟨o, s _ _ h⟩⟩
  obtain ⟨W, M⟩ := W
  obtain ⟨d, _, _⟩ := d
  cases W with
  | none => trivial
  | some w => exact Deck.same d s
theorem DkOk.taken {W : Wo} {H : Hp} {n : Nat} {b : Addr} (d : DkOk W H n) (h : Mu W b) : ∃ o, H b = some o := by
  rcases h with (h | h) | h
  · obtain ⟨W, M⟩ := W
    obtain ⟨d, _, _⟩ := d
    cases W with
    | none => exact h.elim
    | some w =>
      obtain ⟨⟨m, cs, h1, h2, _⟩, _⟩ := d
      rcases h with rfl | rfl
      · exact ⟨_, h1⟩
      · exact ⟨_, h2⟩
  · exact d.mo b h
  · obtain ⟨ps, h1, _⟩ := d.tb b h
    exact ⟨_, h1⟩
theorem DkOk.upd' {W : Wo} {H : Hp} {n : Nat} {a : Addr} {o : HO} (d : DkOk W H n) (h1 : ¬ MuD W.dk a) (h2 : a ∉ tabs) : DkOk W (upd H a o) n := by
  refine ⟨?_, fun t ht => ?_, fun b hb => ?_⟩
  · obtain ⟨W, M⟩ := W
    obtain ⟨d, _, _⟩ := d
    cases W with
    | none => trivial
    | some w =>
      obtain ⟨⟨m, cs, k1, k2, k3⟩, k4⟩ := d
      exact ⟨⟨m, cs, by rw [upd_ne (fun e => h1 (.inl e.symm))]; exact k1, by rw [upd_ne (fun e => h1 (.inr e.symm))]; exact k2, k3⟩, k4⟩
  · obtain ⟨ps, k1, k2⟩ := d.tb t ht
    have ne : t ≠ a := fun e => h2 (by rw [← e]; exact ht)
    exact ⟨ps, by rw [upd_ne ne]; exact k1, k2⟩
  · by_cases e : b = a
    · subst e
      exact ⟨o, upd_same⟩
    · obtain ⟨u, hu⟩ := d.mo b hb
      exact ⟨u, by rw [upd_ne e]; exact hu⟩
theorem DkOk.upd {W : Wo} {H : Hp} {n : Nat} {a : Addr} {o : HO} (d : DkOk W H n) (h : ¬ Mu W a) : DkOk W (upd H a o) n := d.upd' (fun z => h (.inl (.inl z))) fun z => h (.inr z)
/-- what is given at the call: the written part, the deck, what the callers hide, the heap at the call -/
structure KX where
  fr : PySem.W.Frag
  W : Wo
  B0 : Addr → Prop
  H0 : Hp
  G0 : V → PyData → Prop
  Z0 : Addr → HO → Prop
instance : Coe KX PySem.W.Frag := ⟨KX.fr⟩
/-- what stays fixed in a def's body -/
structure DC where
  K : KX
  /-- what is hidden beyond the callers' own things -/
  ex : (Addr → Prop) → Addr → Prop
  sub : ∀ (p : Addr → Prop) (b : Addr), p b → ex p b
  /-- data to be kept -/
  G : V → PyData → Prop
  /-- hidden things that are as they are -/
  Z : Addr → HO → Prop
  gsub : ∀ v d, K.G0 v d → G v d
  zsub : ∀ a o, K.Z0 a o → Z a o
/-- at the call -/
@[reducible] def DC.base (K : KX) : DC := ⟨K, fun p => p, fun _ _ h => h, K.G0, K.Z0, fun _ _ h => h, fun _ _ h => h⟩
@[reducible] def DC.W (C : DC) : Wo := C.K.W
@[reducible] def DC.H0 (C : DC) : Hp := C.K.H0
/-- hidden from all data -/
@[reducible] def DC.S0 (C : DC) : Addr → Prop := C.ex C.K.B0
def isOwn : DV → Bool
  | .own _ => true
  | .arg _ _ => true
  | .argd _ _ => true
  | .owd _ => true
  | .owt _ => true
  | .owx _ _ => true
  | _ => false
/-- hidden now: the callers' things, the deck, one's own -/
def Sof (C : DC) (σ : L2.St) (s : DSt) : Addr → Prop := fun b => C.S0 b ∨ Mu C.W b ∨ (∃ (i : Nat) (dv : DV), s.sl[i]? = some dv ∧ isOwn dv = true ∧ σ[i]? = some (some (V.ref b))) ∨ ∃ o, s.n.ob b = some o
/-- what stands in an object -/
def OvOk (K : PySem.W.Frag) (W : Wo) (Hh : Hp) (v : V) : OV → Prop
  | .d x => Da K Hh v x
  | .o a => v = .ref a
  | .dk => ∃ p l, W.dk = some (p, l) ∧ v = .ref p
inductive OvAll (K : PySem.W.Frag) (W : Wo) (Hh : Hp) : List V → List OV → Prop
  | nil : OvAll K W Hh [] []
  | cons {v : V} {x : OV} {vs : List V} {xs : List OV} : OvOk K W Hh v x → OvAll K W Hh vs xs → OvAll K W Hh (v :: vs) (x :: xs)
inductive OvKv (K : PySem.W.Frag) (W : Wo) (Hh : Hp) {κ : Type} : List (κ × V) → List (κ × OV) → Prop
  | nil : OvKv K W Hh [] []
  | cons {k : κ} {v : V} {x : OV} {vs : List (κ × V)} {xs : List (κ × OV)} : OvOk K W Hh v x → OvKv K W Hh vs xs → OvKv K W Hh ((k, v) :: vs) ((k, x) :: xs)
/-- an object of the store stands at a -/
def ObOk (K : PySem.W.Frag) (W : Wo) (Hh H : Hp) (a : Addr) : OB → Prop
  | .lst xs => ∃ vs, H a = some (.lst vs) ∧ OvAll K W Hh vs xs
  | .dic kvs => ∃ es, H a = some (.dK es) ∧ OvKv K W Hh es kvs
  | .ins Cx fs => ∃ dx es, H a = some (.ins Cx dx es) ∧ OvKv K W Hh es fs
theorem OvOk.of {K : PySem.W.Frag} {W W' : Wo} {H H' : Hp} {v : V} {x : OV} (h : OvOk K W H v x) (s : Same H H') (hW : W'.dk = W.dk) : OvOk K W' H' v x := by
  cases x with
  | d x => exact Da.of h s
  | o a => exact h
  | dk =>
    obtain ⟨p, l, h1, h2⟩ := h
    exact ⟨p, l, hW.trans h1, h2⟩
theorem OvAll.of {K : PySem.W.Frag} {W W' : Wo} {H H' : Hp} {vs : List V} {xs : List OV} (h : OvAll K W H vs xs) (s : Same H H') (hW : W'.dk = W.dk) : OvAll K W' H' vs xs := by
  induction h with
  | nil => exact .nil
  | cons h1 _ ih => exact .cons (h1.of s hW) ih
theorem OvKv.of {K : PySem.W.Frag} {W W' : Wo} {H H' : Hp} {κ : Type} {vs : List (κ × V)} {xs : List (κ × OV)} (h : OvKv K W H vs xs) (s : Same H H') (hW : W'.dk = W.dk) : OvKv K W' H' vs xs := by
  induction h with
  | nil => exact .nil
  | cons h1 _ ih => exact .cons (h1.of s hW) ih
theorem ObOk.of {K : PySem.W.Frag} {W W' : Wo} {Hh Hh' H H' : Hp} {a : Addr} {o : OB} (h : ObOk K W Hh H a o) (s : Same Hh Hh') (hW : W'.dk = W.dk) (hH : ∀ u, H a = some u → H' a = some u) : ObOk K W' Hh' H' a o := by
  cases o with
  | lst xs =>
    obtain ⟨vs, h1, h2⟩ := h
    exact ⟨vs, hH _ h1, h2.of s hW⟩
  | dic kvs =>
    obtain ⟨vs, h1, h2⟩ := h
    exact ⟨vs, hH _ h1, h2.of s hW⟩
  | ins Cx fs =>
    obtain ⟨dx, vs, h1, h2⟩ := h
    exact ⟨dx, vs, hH _ h1, h2.of s hW⟩
theorem ObOk.taken {K : PySem.W.Frag} {W : Wo} {Hh H : Hp} {a : Addr} {o : OB} (h : ObOk K W Hh H a o) : ∃ u, H a = some u := by
  cases o with
  | lst xs => exact h.elim fun _ h => ⟨_, h.1⟩
  | dic kvs => exact h.elim fun _ h => ⟨_, h.1⟩
  | ins Cx fs => exact h.elim fun _ h => h.elim fun _ h => ⟨_, h.1⟩
/-- an object of the store: it stands there; it is not the deck, no table; it is the callers' to be changed, or new; it is nobody's own -/
structure StOk (C : DC) (σ : L2.St) (H : Hp) (s : DSt) (a : Addr) (o : OB) : Prop where
  at_ : ObOk C.K C.W (Hd (Sof C σ s) H) H a o
  nd : ¬ MuD C.W.dk a
  nt : a ∉ tabs
  of_ : C.W.ob a ∨ (C.H0 a = none ∧ ¬ C.S0 a)
  no : ∀ (i : Nat) (dv : DV), s.sl[i]? = some dv → isOwn dv = true → σ[i]? ≠ some (some (V.ref a))
def SlotOk (C : DC) (S : Addr → Prop) (H : Hp) (sl : Option V) : DV → Prop
  | .un => True
  | .dat d => ∃ v, sl = some v ∧ Da C.K (Hd S H) v d
  | .own ds => ∃ a vs, sl = some (.ref a) ∧ H a = some (.lst vs) ∧ DaAll C.K (Hd S H) vs ds
  | .arg a ds => ∃ vs, sl = some (.ref a) ∧ H a = some (.lst vs) ∧ DaAll C.K (Hd S H) vs ds
  | .argd a kvs => ∃ es, sl = some (.ref a) ∧ H a = some (.dK es) ∧ DaKv C.K (Hd S H) es kvs
  | .owd kvs => ∃ a es, sl = some (.ref a) ∧ H a = some (.dK es) ∧ DaKv C.K (Hd S H) es kvs
  | .owt kvs => ∃ a es, sl = some (.ref a) ∧ H a = some (.dT es) ∧ DaKt C.K (Hd S H) es kvs
  | .owx w kvs => ∃ a es, sl = some (.ref a) ∧ H a = some (DX.dxO w a es) ∧ DaX C.K (Hd S H) es kvs
  | .lkd a o kvs => sl = some (.ref a) ∧ C.Z a o ∧ ∃ od es, o = .frz od (.dT es) ∧ DaKt C.K (Hd S H) es kvs
  | .lkk a o kvs => sl = some (.ref a) ∧ C.Z a o ∧ ∃ od es, o = .frz od (.dK es) ∧ DaKv C.K (Hd S H) es kvs
  | .deck => ∃ p l, C.W.dk = some (p, l) ∧ sl = some (.ref p)
  | .exc a => sl = some (.ref a)
  | .obj a => sl = some (.ref a)
structure Rl (C : DC) (σ : L2.St) (H : Hp) (s : DSt) : Prop where
  len : σ.length = s.sl.length
  slots : ∀ (i : Nat) (dv : DV), s.sl[i]? = some dv → ∃ sl : Option V, σ[i]? = some sl ∧ SlotOk C (Sof C σ s) H sl dv
  nd : ∀ (i j : Nat) (a : Addr) (dv ev : DV), s.sl[i]? = some dv → s.sl[j]? = some ev → isOwn dv = true → isOwn ev = true → σ[i]? = some (some (V.ref a)) → σ[j]? = some (some (V.ref a)) → i = j
  fr : ∀ (i : Nat) (a : Addr) (dv : DV), s.sl[i]? = some dv → isOwn dv = true → σ[i]? = some (some (V.ref a)) → C.H0 a = none ∧ ¬ C.S0 a ∧ ¬ Mu C.W a
  dk : DkOk C.W H s.n.n
  but : ButW C.W C.H0 H
  tk : Taken H C.S0
  gh : ∀ v d, C.G v d → Da C.K (Hd (Sof C σ s) H) v d
  fz : ∀ a o, C.Z a o → C.S0 a ∧ ¬ Mu C.W a ∧ H a = some o
  ob : ∀ a o, s.n.ob a = some o → StOk C σ H s a o
theorem hd_mono {S S' : Addr → Prop} {H : Hp} (h : ∀ b, S' b → S b) : Same (Hd S H) (Hd S' H) := fun a o e => by
  obtain ⟨h1, h3⟩ := hd_some e
  rw [hd_ne fun z => h1 (h _ z)]
  exact h3
theorem hd_step {S : Addr → Prop} {H H' : Hp} (h : ∀ b o, ¬ S b → H b = some o → H' b = some o) : Same (Hd S H) (Hd S H') := fun a o e => by
  obtain ⟨h1, h3⟩ := hd_some e
  rw [hd_ne h1]
  exact h _ _ h1 h3
theorem SlotOk.move {C C' : DC} {S S' : Addr → Prop} {H H' : Hp} {sl : Option V} {dv : DV} (h : SlotOk C S H sl dv) (hK : C'.K = C.K) (hW : C'.W = C.W) (s : Same (Hd S H) (Hd S' H')) (o : ∀ a, isOwn dv = true → sl = some (.ref a) → ∀ u, H a = some u → H' a = some u) (hZ : ∀ a o, C.Z a o → C'.Z a o := by exact fun _ _ h => h) : SlotOk C' S' H' sl dv := by
  cases dv with
  | un => trivial
  | dat d =>
    obtain ⟨v, h1, h2⟩ := h
    exact ⟨v, h1, hK ▸ h2.of s⟩
  | own ds =>
    obtain ⟨a, vs, h1, h2, h3⟩ := h
    exact ⟨a, vs, h1, o a rfl h1 _ h2, hK ▸ h3.of s⟩
  | arg b ds =>
    obtain ⟨vs, h1, h2, h3⟩ := h
    exact ⟨vs, h1, o b rfl h1 _ h2, hK ▸ h3.of s⟩
  | argd b kvs =>
    obtain ⟨vs, h1, h2, h3⟩ := h
    exact ⟨vs, h1, o b rfl h1 _ h2, hK ▸ h3.of s⟩
  | owd kvs =>
    obtain ⟨a, vs, h1, h2, h3⟩ := h
    exact ⟨a, vs, h1, o a rfl h1 _ h2, hK ▸ h3.of s⟩
  | owt kvs =>
    obtain ⟨a, vs, h1, h2, h3⟩ := h
    exact ⟨a, vs, h1, o a rfl h1 _ h2, hK ▸ h3.of s⟩
  | owx w kvs =>
    obtain ⟨a, vs, h1, h2, h3⟩ := h
    exact ⟨a, vs, h1, o a rfl h1 _ h2, hK ▸ h3.of s⟩
  | lkd a ob kvs =>
    obtain ⟨h1, h2, od, es, h3, h4⟩ := h
    exact ⟨h1, hZ a ob h2, od, es, h3, hK ▸ h4.of s⟩
  | lkk a ob kvs =>
    obtain ⟨h1, h2, od, es, h3, h4⟩ := h
    exact ⟨h1, hZ a ob h2, od, es, h3, hK ▸ h4.of s⟩
  | deck =>
    obtain ⟨p, l, h1, h2⟩ := h
    exact ⟨p, l, by rw [hW]; exact h1, h2⟩
  | exc a => exact h
  | obj a => exact h
section
variable {C : DC} {σ : L2.St} {H : Hp} {s : DSt}
theorem Rl.own_at (R : Rl C σ H s) {i : Nat} {a : Addr} {dv : DV} (h : s.sl[i]? = some dv) (ho : isOwn dv = true) (e : σ[i]? = some (some (V.ref a))) : ∃ o, H a = some o := by
  obtain ⟨sl, h1, h2⟩ := R.slots i dv h
  rw [e] at h1
  cases h1
  cases dv with
  | own ds =>
    obtain ⟨b, vs, e1, e2, _⟩ := h2
    cases e1
    exact ⟨_, e2⟩
  | arg b ds =>
    obtain ⟨vs, e1, e2, _⟩ := h2
    cases e1
    exact ⟨_, e2⟩
  | argd b ds =>
    obtain ⟨vs, e1, e2, _⟩ := h2
    cases e1
    exact ⟨_, e2⟩
  | owd ds =>
    obtain ⟨b, vs, e1, e2, _⟩ := h2
    cases e1
    exact ⟨_, e2⟩
  | owt ds =>
    obtain ⟨b, vs, e1, e2, _⟩ := h2
    cases e1
    exact ⟨_, e2⟩
  | owx w ds =>
    obtain ⟨b, vs, e1, e2, _⟩ := h2
    cases e1
    exact ⟨_, e2⟩
  | _ => cases ho
theorem Rl.ob_at (R : Rl C σ H s) {a : Addr} {o : OB} (h : s.n.ob a = some o) : ∃ u, H a = some u := (R.ob a o h).at_.taken
theorem Rl.taken (R : Rl C σ H s) : Taken H (Sof C σ s) := fun b hb => by
  rcases hb with hb | hb | ⟨i, dv, h1, h2, h3⟩ | ⟨o, h1⟩
  · exact R.tk b hb
  · exact R.dk.taken hb
  · exact R.own_at h1 h2 h3
  · exact R.ob_at h1
/-- the store stands, where its objects stand and what is hidden is hidden -/
theorem StOk.move {C' : DC} {σ' : L2.St} {H' : Hp} {s' : DSt} {a : Addr} {o : OB} (h : StOk C σ H s a o) (hK : C'.K.fr = C.K.fr) (hW : C'.W = C.W) (hs : Same (Hd (Sof C σ s) H) (Hd (Sof C' σ' s') H')) (hH : ∀ u, H a = some u → H' a = some u)
    (h0 : C.H0 a = none → ¬ C.S0 a → C'.H0 a = none ∧ ¬ C'.S0 a) (hn : ∀ (i : Nat) (dv : DV), s'.sl[i]? = some dv → isOwn dv = true → σ'[i]? = some (some (V.ref a)) → False) : StOk C' σ' H' s' a o :=
  ⟨by rw [hK]; exact h.at_.of hs (by rw [hW]) hH, by rw [hW]; exact h.nd, h.nt, h.of_.elim (fun z => .inl (by rw [hW]; exact z)) fun z => .inr (h0 z.1 z.2), fun i dv h1 h2 h3 => hn i dv h1 h2 h3⟩
theorem Rl.new (R : Rl C σ H s) {a : Addr} (na : H a = none) : ¬ Sof C σ s a ∧ C.H0 a = none := by
  have h1 : ¬ Sof C σ s a := R.taken.ne na
  refine ⟨h1, ?_⟩
  cases e : C.H0 a with
  | none => rfl
  | some o =>
    have := R.but a o (fun z => h1 (.inr (.inl z))) e
    rw [na] at this
    cases this
theorem mu_pl {W : Wo} {b : Addr} (h : Mu W.pl b) : Mu W b := h.elim (fun z => z.elim (fun z => .inl (.inl z)) fun z => z.elim) .inr
theorem ButW.pl {W : Wo} {H H' : Hp} (b : ButW W.pl H H') : ButW W H H' := fun c o h1 h2 => b c o (fun z => h1 (mu_pl z)) h2
theorem DkOk.pl {W : Wo} {H : Hp} {n : Nat} (d : DkOk W H n) : DkOk W.pl H n := ⟨d.dk, d.tb, fun _ z => z.elim⟩
theorem DkOk.unpl {W : Wo} {H H' : Hp} {n n' : Nat} (d : DkOk W H n) (b : ButW W.pl H H') (d' : DkOk W.pl H' n') : DkOk W H' n' := ⟨d'.dk, d'.tb, fun c hc => by
  by_cases z : Mu W.pl c
  · exact d'.taken z
  · obtain ⟨o, h⟩ := d.mo c hc
    exact ⟨o, b c o z h⟩⟩
/-- the heap goes on: all but the deck stands -/
theorem Rl.step (R : Rl C σ H s) {H' : Hp} {n' : Nat} (b : ButW C.W.pl H H') (d : DkOk C.W.pl H' n') : Rl C σ H' ⟨s.sl, s.n.on n'⟩ := by
  have hs : Same (Hd (Sof C σ s) H) (Hd (Sof C σ s) H') := hd_step fun c o h1 h2 => b c o (fun z => h1 (.inr (.inl (mu_pl z)))) h2
  refine ⟨R.len, fun i dv h => ?_, R.nd, R.fr, R.dk.unpl b d, R.but.trans b.pl, fun c hc => ?_, fun v x h => (R.gh v x h).of hs, fun a o h => ⟨(R.fz a o h).1, (R.fz a o h).2.1, b.pl a o (R.fz a o h).2.1 (R.fz a o h).2.2⟩, fun a o h => ?_⟩
  · obtain ⟨sl, h1, h2⟩ := R.slots i dv h
    exact ⟨sl, h1, h2.move rfl rfl hs fun a ho e u hu => b.pl a u (R.fr i a dv h ho (e ▸ h1)).2.2 hu⟩
  · by_cases z : Mu C.W.pl c
    · exact d.taken z
    · obtain ⟨o, h⟩ := R.tk c hc
      exact ⟨o, b c o z h⟩
  · exact (R.ob a o h).move rfl rfl hs (fun u hu => b a u (fun z => z.elim (fun z => z.elim (R.ob a o h).nd id) (R.ob a o h).nt) hu) (fun x y => ⟨x, y⟩) fun i dv h1 h2 h3 => (R.ob a o h).no i dv h1 h2 h3
theorem Rl.ext (R : Rl C σ H s) {H' : Hp} (e : Same H H') : Rl C σ H' s := R.step (ButW.of e) (R.dk.pl.same e)
/-- what is hidden stays hidden or is told, when one slot gets data -/
theorem sof_set {i : Nat} {v : Option V} {dv : DV} (ho : isOwn dv = false) (b : Addr) (h : Sof C (σ.set i v) ⟨s.sl.set i dv, s.n⟩ b) : Sof C σ s b := by
  rcases h with h | h | ⟨j, ev, h1, h2, h3⟩ | h
  · exact .inl h
  · exact .inr (.inl h)
  · by_cases e : i = j
    · subst e
      dsimp only at h1
      rw [List.getElem?_set] at h1
      by_cases hl : i < s.sl.length
      · rw [if_pos rfl, if_pos hl] at h1
        cases h1
        rw [ho] at h2
        cases h2
      · rw [if_pos rfl, if_neg hl] at h1
        cases h1
    · dsimp only at h1
      rw [List.getElem?_set_ne e] at h1 h3
      exact .inr (.inr (.inl ⟨j, ev, h1, h2, h3⟩))
  · exact .inr (.inr (.inr h))
theorem Rl.set (R : Rl C σ H s) {i : Nat} {v : V} {d : PyData} (h : Da C.K (Hd (Sof C σ s) H) v d) : Rl C (σ.set i (some v)) H ⟨s.sl.set i (.dat d), s.n⟩ := by
  have hs : Same (Hd (Sof C σ s) H) (Hd (Sof C (σ.set i (some v)) ⟨s.sl.set i (.dat d), s.n⟩) H) := hd_mono fun b z => sof_set (s := s) rfl b z
  have key : ∀ {j : Nat} {dv : DV}, (s.sl.set i (.dat d))[j]? = some dv → isOwn dv = true → i ≠ j ∧ s.sl[j]? = some dv := fun {j dv} h1 h2 => by
    by_cases e : i = j
    · subst e
      rw [List.getElem?_set] at h1
      by_cases hl : i < s.sl.length
      · rw [if_pos rfl, if_pos hl] at h1
        cases h1
        cases h2
      · rw [if_pos rfl, if_neg hl] at h1
        cases h1
    · rw [List.getElem?_set_ne e] at h1
      exact ⟨e, h1⟩
  refine ⟨by rw [List.length_set, List.length_set]; exact R.len, fun j dv h1 => ?_, fun j k a dv ev h1 h2 h3 h4 h5 h6 => ?_, fun j a dv h1 h2 h3 => ?_, R.dk, R.but, R.tk, fun x y z => (R.gh x y z).of hs, R.fz, fun a o h => (R.ob a o h).move rfl rfl hs (fun _ u => u) (fun x y => ⟨x, y⟩) fun j ev h1 h2 h3 => by
    obtain ⟨n1, e1⟩ := key h1 h2
    rw [List.getElem?_set_ne n1] at h3
    exact (R.ob a o h).no j ev e1 h2 h3⟩
  · by_cases e : i = j
    · subst e
      have hl : i < s.sl.length := by
        have := (List.getElem?_eq_some_iff.mp h1).1
        rw [List.length_set] at this
        exact this
      have h1' : some (DV.dat d) = some dv := by rw [← h1, List.getElem?_set, if_pos rfl, if_pos hl]
      cases h1'
      exact ⟨some v, by rw [List.getElem?_set, if_pos rfl, if_pos (by rw [R.len]; exact hl)], v, rfl, h.of hs⟩
    · rw [List.getElem?_set_ne e] at h1 ⊢
      obtain ⟨sl, e1, e2⟩ := R.slots j dv h1
      exact ⟨sl, e1, e2.move rfl rfl hs fun _ _ _ _ u => u⟩
  · obtain ⟨n1, e1⟩ := key h1 h3
    obtain ⟨n2, e2⟩ := key h2 h4
    rw [List.getElem?_set_ne n1] at h5
    rw [List.getElem?_set_ne n2] at h6
    exact R.nd j k a dv ev e1 e2 h3 h4 h5 h6
  · obtain ⟨n1, e1⟩ := key h1 h2
    rw [List.getElem?_set_ne n1] at h3
    exact R.fr j a dv e1 h2 h3
/-- a slot gets a new list -/
theorem Rl.setOwn (R : Rl C σ H s) {i : Nat} {a : Addr} {o : HO} {dv : DV} (na : H a = none) (hi : i < s.sl.length) (ho : isOwn dv = true)
    (hn : ∀ S' : Addr → Prop, Same (Hd (Sof C σ s) H) (Hd S' (upd H a o)) → SlotOk C S' (upd H a o) (some (.ref a)) dv) : Rl C (σ.set i (some (.ref a))) (upd H a o) ⟨s.sl.set i dv, s.n⟩ := by
  obtain ⟨n1, n2⟩ := R.new na
  have sub : ∀ b, Sof C (σ.set i (some (.ref a))) ⟨s.sl.set i dv, s.n⟩ b → Sof C σ s b ∨ b = a := fun b h => by
    rcases h with h | h | ⟨j, ev, h1, h2, h3⟩ | h
    · exact .inl (.inl h)
    · exact .inl (.inr (.inl h))
    · by_cases e : i = j
      · subst e
        rw [List.getElem?_set, if_pos rfl, if_pos (by rw [R.len]; exact hi)] at h3
        cases h3
        exact .inr rfl
      · dsimp only at h1
        rw [List.getElem?_set_ne e] at h1 h3
        exact .inl (.inr (.inr (.inl ⟨j, ev, h1, h2, h3⟩)))
    · exact .inl (.inr (.inr (.inr h)))
  have hs : Same (Hd (Sof C σ s) H) (Hd (Sof C (σ.set i (some (.ref a))) ⟨s.sl.set i dv, s.n⟩) (upd H a o)) := fun b u e => by
    obtain ⟨h1, h3⟩ := hd_some e
    have hb : b ≠ a := ne_of_none h3 na
    rw [hd_ne (fun z => (sub b z).elim h1 hb), upd_ne hb]
    exact h3
  have key : ∀ {j : Nat} {ev : DV} {c : Addr}, (s.sl.set i dv)[j]? = some ev → isOwn ev = true → (σ.set i (some (.ref a)))[j]? = some (some (V.ref c)) → (j = i ∧ c = a) ∨ (j ≠ i ∧ c ≠ a ∧ s.sl[j]? = some ev ∧ σ[j]? = some (some (V.ref c))) := fun {j ev c} h1 h2 h3 => by
    by_cases e : i = j
    · subst e
      rw [List.getElem?_set, if_pos rfl, if_pos (by rw [R.len]; exact hi)] at h3
      cases h3
      exact .inl ⟨rfl, rfl⟩
    · rw [List.getElem?_set_ne e] at h1 h3
      obtain ⟨u, hu⟩ := R.own_at h1 h2 h3
      exact .inr ⟨fun z => e z.symm, ne_of_none hu na, h1, h3⟩
  refine ⟨by rw [List.length_set, List.length_set]; exact R.len, fun j ev h1 => ?_, fun j k c ev fv h1 h2 h3 h4 h5 h6 => ?_, fun j c ev h1 h2 h3 => ?_, R.dk.same (same_upd na), R.but.trans (ButW.of (same_upd na)), R.tk.same (same_upd na), fun x y z => (R.gh x y z).of hs, fun b u h => ⟨(R.fz b u h).1, (R.fz b u h).2.1, by rw [upd_ne (ne_of_none (R.fz b u h).2.2 na)]; exact (R.fz b u h).2.2⟩, fun b u h => ?ob⟩
  case ob =>
    obtain ⟨w, hw⟩ := R.ob_at h
    refine (R.ob b u h).move rfl rfl hs (fun x hx => by rw [upd_ne (ne_of_none hx na)]; exact hx) (fun x y => ⟨x, y⟩) fun j ev h1 h2 h3 => ?_
    rcases key h1 h2 h3 with ⟨_, q⟩ | ⟨_, _, q3, q4⟩
    · exact ne_of_none hw na q
    · exact (R.ob b u h).no j ev q3 h2 q4
  · by_cases e : i = j
    · subst e
      rw [List.getElem?_set, if_pos rfl, if_pos hi] at h1
      cases h1
      exact ⟨some (.ref a), by rw [List.getElem?_set, if_pos rfl, if_pos (by rw [R.len]; exact hi)], hn _ hs⟩
    · rw [List.getElem?_set_ne e] at h1 ⊢
      obtain ⟨sl, e1, e2⟩ := R.slots j ev h1
      exact ⟨sl, e1, e2.move rfl rfl hs fun c hc ec u hu => by rw [upd_ne (ne_of_none hu na)]; exact hu⟩
  · rcases key h1 h3 h5 with ⟨rfl, rfl⟩ | ⟨q1, q2, q3, q4⟩
    · rcases key h2 h4 h6 with ⟨rfl, _⟩ | ⟨_, q2, _, _⟩
      · rfl
      · exact absurd rfl q2
    · rcases key h2 h4 h6 with ⟨_, rfl⟩ | ⟨r1, r2, r3, r4⟩
      · exact absurd rfl q2
      · exact R.nd j k c ev fv q3 r3 h3 h4 q4 r4
  · rcases key h1 h2 h3 with ⟨rfl, rfl⟩ | ⟨q1, q2, q3, q4⟩
    · exact ⟨n2, fun z => n1 (.inl z), fun z => n1 (.inr (.inl z))⟩
    · exact R.fr j c ev q3 h2 q4
/-- one's own thing at slot i changes -/
theorem Rl.mut (R : Rl C σ H s) {i : Nat} {a : Addr} {o : HO} {dv ev : DV} (h0 : s.sl[i]? = some dv) (hd : isOwn dv = true) (ho : isOwn ev = true) (e0 : σ[i]? = some (some (V.ref a)))
    (hn : Same (Hd (Sof C σ s) H) (Hd (Sof C σ ⟨s.sl.set i ev, s.n⟩) (upd H a o)) → SlotOk C (Sof C σ ⟨s.sl.set i ev, s.n⟩) (upd H a o) (some (.ref a)) ev) : Rl C σ (upd H a o) ⟨s.sl.set i ev, s.n⟩ := by
  have hi : i < s.sl.length := (List.getElem?_eq_some_iff.mp h0).1
  obtain ⟨f1, f2, f3⟩ := R.fr i a dv h0 hd e0
  have key : ∀ {j : Nat} {fv : DV}, (s.sl.set i ev)[j]? = some fv → isOwn fv = true → ∃ gv, s.sl[j]? = some gv ∧ isOwn gv = true := fun {j fv} h1 h2 => by
    by_cases e : i = j
    · subst e
      exact ⟨dv, h0, hd⟩
    · rw [List.getElem?_set_ne e] at h1
      exact ⟨fv, h1, h2⟩
  have sub : ∀ b, Sof C σ ⟨s.sl.set i ev, s.n⟩ b → Sof C σ s b := fun b h => by
    rcases h with h | h | ⟨j, fv, h1, h2, h3⟩ | h
    · exact .inl h
    · exact .inr (.inl h)
    · obtain ⟨gv, g1, g2⟩ := key h1 h2
      exact .inr (.inr (.inl ⟨j, gv, g1, g2, h3⟩))
    · exact .inr (.inr (.inr h))
  have sa : Sof C σ s a := .inr (.inr (.inl ⟨i, dv, h0, hd, e0⟩))
  have hs : Same (Hd (Sof C σ s) H) (Hd (Sof C σ ⟨s.sl.set i ev, s.n⟩) (upd H a o)) := fun b u e => by
    obtain ⟨h1, h3⟩ := hd_some e
    have hb : b ≠ a := fun z => h1 (z ▸ sa)
    rw [hd_ne (fun z => h1 (sub b z)), upd_ne hb]
    exact h3
  refine ⟨by rw [List.length_set]; exact R.len, fun j fv h1 => ?_, fun j k c fv gv h1 h2 h3 h4 h5 h6 => ?_, fun j c fv h1 h2 h3 => ?_, R.dk.upd f3, fun b u hb hu => ?_, fun b hb => ?_, fun x y z => (R.gh x y z).of hs, fun b u h => ⟨(R.fz b u h).1, (R.fz b u h).2.1, by rw [upd_ne (fun z : b = a => f2 (z ▸ (R.fz b u h).1))]; exact (R.fz b u h).2.2⟩, fun b u h => (R.ob b u h).move rfl rfl hs (fun x hx => by rw [upd_ne (fun z : b = a => (R.ob b u h).no i dv h0 hd (z ▸ e0))]; exact hx) (fun x y => ⟨x, y⟩) fun j fv h1 h2 h3 => by
    obtain ⟨gv, g1, g2⟩ := key h1 h2
    exact (R.ob b u h).no j gv g1 g2 h3⟩
  · by_cases e : i = j
    · subst e
      rw [List.getElem?_set, if_pos rfl, if_pos hi] at h1
      cases h1
      exact ⟨some (.ref a), e0, hn hs⟩
    · rw [List.getElem?_set_ne e] at h1
      obtain ⟨sl, e1, e2⟩ := R.slots j fv h1
      refine ⟨sl, e1, e2.move rfl rfl hs fun c hc ec u hu => ?_⟩
      have hca : c ≠ a := fun z => by
        subst z
        rw [ec] at e1
        exact e (R.nd i j c dv fv h0 h1 hd hc e0 e1)
      rw [upd_ne hca]
      exact hu
  · obtain ⟨gv', g1, g2⟩ := key h1 h3
    obtain ⟨gw, k1, k2⟩ := key h2 h4
    exact R.nd j k c _ _ g1 k1 g2 k2 h5 h6
  · obtain ⟨gv, g1, g2⟩ := key h1 h2
    exact R.fr j c _ g1 g2 h3
  · have hba : b ≠ a := fun z => by
      subst z
      rw [f1] at hu
      cases hu
    rw [upd_ne hba]
    exact R.but b u hb hu
  · by_cases e : b = a
    · subst e
      exact absurd hb f2
    · rw [upd_ne e]
      exact R.tk b hb
/-- one's own thing becomes data -/
theorem Rl.freeze (R : Rl C σ H s) {i : Nat} {dv : DV} {d : PyData} (h0 : s.sl[i]? = some dv) (hd : (∃ ds, dv = .own ds ∧ d = .list ds) ∨ (∃ kvs, dv = .owd kvs ∧ d = .dict kvs) ∨ ∃ kvs, dv = .owt kvs ∧ d = .dict kvs ∧ kvs ≠ []) : Rl C σ H ⟨s.sl.set i (.dat d), s.n⟩ := by
  obtain ⟨sl, e1, e2⟩ := R.slots i dv h0
  have fin : ∀ a : Addr, isOwn dv = true → sl = some (.ref a) → Da C.K (Hd (Sof C σ ⟨s.sl.set i (.dat d), s.n⟩) H) (.ref a) d → Rl C σ H ⟨s.sl.set i (.dat d), s.n⟩ := fun a hdv es hda => by
    subst es
    have hset : σ.set i (some (.ref a)) = σ := by
      apply List.ext_getElem?
      intro j
      rw [List.getElem?_set]
      by_cases e : i = j
      · subst e
        rw [if_pos rfl, e1]
        rw [if_pos (List.getElem?_eq_some_iff.mp e1).1]
      · rw [if_neg e]
    have hs : Same (Hd (Sof C σ s) H) (Hd (Sof C σ ⟨s.sl.set i (.dat d), s.n⟩) H) := hd_mono fun b z => by
      have := sof_set (C := C) (σ := σ) (s := s) (i := i) (v := some (.ref a)) (dv := .dat d) rfl b
      rw [hset] at this
      exact this z
    have hi : i < s.sl.length := (List.getElem?_eq_some_iff.mp h0).1
    have key : ∀ {j : Nat} {fv : DV}, (s.sl.set i (.dat d))[j]? = some fv → isOwn fv = true → s.sl[j]? = some fv := fun {j fv} h1 h2 => by
      by_cases e : i = j
      · subst e
        rw [List.getElem?_set, if_pos rfl, if_pos hi] at h1
        cases h1
        cases h2
      · rw [List.getElem?_set_ne e] at h1
        exact h1
    refine ⟨by rw [List.length_set]; exact R.len, fun j fv h1 => ?_, fun j k c fv gv h1 h2 h3 h4 h5 h6 => R.nd j k c _ _ (key h1 h3) (key h2 h4) h3 h4 h5 h6, fun j c fv h1 h2 h3 => R.fr j c _ (key h1 h2) h2 h3, R.dk, R.but, R.tk, fun x y z => (R.gh x y z).of hs, R.fz, fun b u h => (R.ob b u h).move rfl rfl hs (fun _ u => u) (fun x y => ⟨x, y⟩) fun j fv h1 h2 h3 => (R.ob b u h).no j fv (key h1 h2) h2 h3⟩
    by_cases e : i = j
    · subst e
      rw [List.getElem?_set, if_pos rfl, if_pos hi] at h1
      cases h1
      exact ⟨_, e1, _, rfl, hda⟩
    · rw [List.getElem?_set_ne e] at h1
      obtain ⟨sl, q1, q2⟩ := R.slots j fv h1
      exact ⟨sl, q1, q2.move rfl rfl hs fun _ _ _ _ u => u⟩
  have hna : ∀ a : Addr, isOwn dv = true → sl = some (.ref a) → ¬ Sof C σ ⟨s.sl.set i (.dat d), s.n⟩ a := fun a hdv es z => by
    subst es
    have hi : i < s.sl.length := (List.getElem?_eq_some_iff.mp h0).1
    obtain ⟨f1, f2, f3⟩ := R.fr i a dv h0 hdv e1
    rcases z with z | z | ⟨j, ev, z1, z2, z3⟩ | ⟨o, z⟩
    · exact f2 z
    · exact f3 z
    · by_cases e : i = j
      · subst e
        dsimp only at z1
        rw [List.getElem?_set, if_pos rfl, if_pos hi] at z1
        cases z1
        cases z2
      · dsimp only at z1
        rw [List.getElem?_set_ne e] at z1
        exact e (R.nd i j a dv ev h0 z1 hdv z2 e1 z3)
    · exact (R.ob a o z).no i dv h0 hdv e1
  have hsub : ∀ a : Addr, sl = some (.ref a) → Same (Hd (Sof C σ s) H) (Hd (Sof C σ ⟨s.sl.set i (.dat d), s.n⟩) H) := fun a es => hd_mono fun b z => by
    subst es
    rcases z with z | z | ⟨j, ev, z1, z2, z3⟩ | z
    · exact .inl z
    · exact .inr (.inl z)
    · by_cases e : i = j
      · subst e
        dsimp only at z1
        rw [List.getElem?_set, if_pos rfl, if_pos (List.getElem?_eq_some_iff.mp h0).1] at z1
        cases z1
        cases z2
      · dsimp only at z1
        rw [List.getElem?_set_ne e] at z1
        exact .inr (.inr (.inl ⟨j, ev, z1, z2, z3⟩))
    · exact .inr (.inr (.inr z))
  rcases hd with ⟨ds, rfl, rfl⟩ | ⟨kvs, rfl, rfl⟩ | ⟨kvs, rfl, rfl, hne⟩
  · obtain ⟨a, vs, rfl, h2, h3⟩ := e2
    exact fin a rfl rfl (.lst (by rw [hd_ne (hna a rfl rfl)]; exact h2) (h3.of (hsub a rfl)))
  · obtain ⟨a, vs, rfl, h2, h3⟩ := e2
    exact fin a rfl rfl (.dic (by rw [hd_ne (hna a rfl rfl)]; exact h2) (h3.of (hsub a rfl)))
  · obtain ⟨a, vs, rfl, h2, h3⟩ := e2
    exact fin a rfl rfl (.dct (by rw [hd_ne (hna a rfl rfl)]; exact h2) (fun z => by
      subst z
      cases h3
      exact hne rfl) (h3.of (hsub a rfl)))
end
end DL

set_option Elab.async false
set_option linter.all false
set_option maxRecDepth 100000
set_option maxHeartbeats 4000000
namespace DL
open PySem PySem.Spec PyProof.Rows L2 GG DD PT
abbrev DE := DSt → (PyData → DSt → Prop) → Prop
abbrev DT := DSt → (Bool → DSt → Prop) → Prop
abbrev DA := DSt → (List PyData → DSt → Prop) → Prop
abbrev DX := DSt → (List DV → DSt → Prop) → Prop
def XE (C : DC) (te : TE) (s : DSt) (P : PyData → DSt → Prop) : Prop := ∀ (σ : L2.St) (H : Hp) (Q : VK), Rl C σ H s → (∀ v H' d s', P d s' → Rl C σ H' s' → Da C.K (Hd (Sof C σ s') H') v d → Q v H') → te σ H Q
def RE (K : KX) (te : TE) (de : DE) : Prop := ∀ C : DC, C.K = K → ∀ s P, de s P → XE C te s P
def XT (C : DC) (tt : TT) (s : DSt) (P : Bool → DSt → Prop) : Prop := ∀ (σ : L2.St) (H : Hp) (Q : Bool → Hp → Prop), Rl C σ H s → (∀ b H' s', P b s' → Rl C σ H' s' → Q b H') → tt σ H Q
def RT (K : KX) (tt : TT) (dt : DT) : Prop := ∀ C : DC, C.K = K → ∀ s P, dt s P → XT C tt s P
def XA (C : DC) (ta : TA) (s : DSt) (P : List PyData → DSt → Prop) : Prop := ∀ (σ : L2.St) (H : Hp) (Q : List V → Hp → Prop), Rl C σ H s → (∀ vs H' ds s', P ds s' → Rl C σ H' s' → DaAll C.K (Hd (Sof C σ s') H') vs ds → Q vs H') → ta σ H Q
def RA (K : KX) (ta : TA) (da : DA) : Prop := ∀ C : DC, C.K = K → ∀ s P, da s P → XA C ta s P
/-- a list that is read: data, or one's own -/
def XL (C : DC) (te : TE) (s : DSt) (P : List PyData → DSt → Prop) : Prop := ∀ (σ : L2.St) (H : Hp) (Q : VK), Rl C σ H s → (∀ a vs H' ds s', P ds s' → Rl C σ H' s' → H' a = some (.lst vs) → DaAll C.K (Hd (Sof C σ s') H') vs ds → Q (.ref a) H') → te σ H Q
def RL (K : KX) (te : TE) (dl : DA) : Prop := ∀ C : DC, C.K = K → ∀ s P, dl s P → XL C te s P
/-- a tuple that is read -/
def XU (C : DC) (te : TE) (s : DSt) (P : List PyData → DSt → Prop) : Prop := ∀ (σ : L2.St) (H : Hp) (Q : VK), Rl C σ H s → (∀ a vs H' ds s', P ds s' → Rl C σ H' s' → SqT C.K H' a vs → DaAll C.K (Hd (Sof C σ s') H') vs ds → Q (.ref a) H') → te σ H Q
def RU (K : KX) (te : TE) (dl : DA) : Prop := ∀ C : DC, C.K = K → ∀ s P, dl s P → XU C te s P
/-- a new list -/
def XF (C : DC) (te : TE) (s : DSt) (P : List PyData → DSt → Prop) : Prop := ∀ (σ : L2.St) (H : Hp) (Q : VK), Rl C σ H s → (∀ a vs H' ds s', P ds s' → Rl C σ H' s' → H' a = none → DaAll C.K (Hd (Sof C σ s') H') vs ds → Q (.ref a) (upd H' a (.lst vs))) → te σ H Q
def RF (K : KX) (te : TE) (dl : DA) : Prop := ∀ C : DC, C.K = K → ∀ s P, dl s P → XF C te s P
def DC.keep (C : DC) (v : V) (d : PyData) : DC := { C with G := fun x y => C.G x y ∨ (x = v ∧ y = d), gsub := fun x y h => .inl (C.gsub x y h) }
section
variable {C : DC} {σ : L2.St} {H : Hp} {s : DSt} {v : V} {d : PyData}
theorem Rl.keep (R : Rl C σ H s) (h : Da C.K (Hd (Sof C σ s) H) v d) : Rl (C.keep v d) σ H s :=
  ⟨R.len, R.slots, R.nd, R.fr, R.dk, R.but, R.tk, fun x y z => z.elim (R.gh x y) fun e => by
    obtain ⟨rfl, rfl⟩ := e
    exact h, R.fz, fun a o h => ⟨(R.ob a o h).at_, (R.ob a o h).nd, (R.ob a o h).nt, (R.ob a o h).of_, (R.ob a o h).no⟩⟩
theorem Rl.kept (R : Rl (C.keep v d) σ H s) : Rl C σ H s ∧ Da C.K (Hd (Sof C σ s) H) v d :=
  ⟨⟨R.len, R.slots, R.nd, R.fr, R.dk, R.but, R.tk, fun x y z => R.gh x y (.inl z), R.fz, fun a o h => ⟨(R.ob a o h).at_, (R.ob a o h).nd, (R.ob a o h).nt, (R.ob a o h).of_, (R.ob a o h).no⟩⟩, R.gh v d (.inr ⟨rfl, rfl⟩)⟩
/-- a new object is seen by data -/
theorem Rl.see (R : Rl C σ H s) {p : Addr} {o : HO} (np : H p = none) : Hd (Sof C σ s) (upd H p o) p = some o := by
  rw [hd_ne (R.new np).1]
  exact upd_same
theorem Rl.kp (R : Rl C σ H s) {p : Addr} {o : HO} (np : H p = none) : Same (Hd (Sof C σ s) H) (Hd (Sof C σ s) (upd H p o)) := hdS (same_upd np)
end
variable {K : KX}
def dC (d : PyData) : DE := fun s P => P d s
theorem re_int {i : Int} : RE K (tC (.int i)) (dC (.int i)) := fun C _ s P h σ H Q R q => q _ H _ s h R (.int i)
theorem re_str {x : Str} : RE K (tC (.str x)) (dC (.str x)) := fun C _ s P h σ H Q R q => q _ H _ s h R (.str x)
theorem re_bl {b : Bool} : RE K (tC (.bl b)) (dC (.bool b)) := fun C _ s P h σ H Q R q => q _ H _ s h R (.bl b)
theorem re_non : RE K (tC .non) (dC .none) := fun C _ s P h σ H Q R q => q _ H _ s h R .non
def dVar (i : Nat) : DE := fun s P => match s.sl[i]? with
  | some (.dat d) => P d s
  | _ => False
theorem re_var {i : Nat} : RE K (tVar i) (dVar i) := fun C _ s P h σ H Q R q => by
  unfold dVar at h
  split at h
  · rename_i d e
    obtain ⟨sl, h1, v, rfl, h3⟩ := R.slots i _ e
    exact ⟨v, h1, q v H d s h R h3⟩
  · exact h.elim
/-- a list in a slot, data or one's own -/
def dListVar (i : Nat) : DA := fun s P => match s.sl[i]? with
  | some (.dat (.list ds)) => P ds s
  | some (.own ds) => P ds s
  | some (.arg _ ds) => P ds s
  | _ => False
theorem da_list {K : PySem.W.Frag} {S : Addr → Prop} {H : Hp} {v : V} {ds : List PyData} (h : Da K (Hd S H) v (.list ds)) : ∃ a vs, v = .ref a ∧ H a = some (.lst vs) ∧ DaAll K (Hd S H) vs ds := by
  cases h with
  | lst h1 h2 => exact ⟨_, _, rfl, (hd_some h1).2, h2⟩
theorem da_tup {K : PySem.W.Frag} {S : Addr → Prop} {H : Hp} {v : V} {ds : List PyData} (h : Da K (Hd S H) v (.tuple ds)) : ∃ a vs, v = .ref a ∧ SqT K H a vs ∧ DaAll K (Hd S H) vs ds := by
  cases h with
  | tup h1 h2 => exact ⟨_, _, rfl, (h1.same (hd_sub S H)).sq, h2⟩
theorem list_at {C : DC} {σ : L2.St} {H : Hp} {s : DSt} (R : Rl C σ H s) {i : Nat} {P : List PyData → DSt → Prop} (h : dListVar i s P) : ∃ a vs ds, σ[i]? = some (some (V.ref a)) ∧ P ds s ∧ H a = some (.lst vs) ∧ DaAll C.K (Hd (Sof C σ s) H) vs ds := by
  unfold dListVar at h
  split at h
  · rename_i ds e
    obtain ⟨sl, h1, v, rfl, h3⟩ := R.slots i _ e
    obtain ⟨a, vs, rfl, h4, h5⟩ := da_list h3
    exact ⟨a, vs, ds, h1, h, h4, h5⟩
  · rename_i ds e
    obtain ⟨sl, h1, a, vs, rfl, h4, h5⟩ := R.slots i _ e
    exact ⟨a, vs, ds, h1, h, h4, h5⟩
  · rename_i a ds e
    obtain ⟨sl, h1, vs, rfl, h4, h5⟩ := R.slots i _ e
    exact ⟨a, vs, ds, h1, h, h4, h5⟩
  · exact h.elim
theorem rl_var {i : Nat} : RL K (tVar i) (dListVar i) := fun C _ s P h σ H Q R q => by
  obtain ⟨a, vs, ds, h1, h2, h4, h5⟩ := list_at R h
  exact ⟨_, h1, q a vs H ds s h2 R h4 h5⟩
def dAsL (de : DE) : DA := fun s P => de s fun d s1 => match d with
  | .list ds => P ds s1
  | _ => False
def dAsU (de : DE) : DA := fun s P => de s fun d s1 => match d with
  | .tuple ds => P ds s1
  | _ => False
theorem ru_of {te : TE} {de : DE} (h : RE K te de) : RU K te (dAsU de) := fun C hC s P hd σ H Q R q => h C hC s _ hd σ H Q R fun v H' d s' hp R' hv => by
  cases d with
  | tuple ds =>
    obtain ⟨a, vs, rfl, h4, h5⟩ := da_tup hv
    exact q a vs H' ds s' hp R' h4 h5
  | _ => exact hp.elim
/-- a new list as data -/
def dNewL (dl : DA) : DE := fun s P => dl s fun ds s1 => P (.list ds) s1
theorem re_new {te : TE} {dl : DA} (h : RF K te dl) : RE K te (dNewL dl) := fun C hC s P hd σ H Q R q => h C hC s _ hd σ H Q R fun a vs H' ds s' hp R' na hv =>
  q _ _ _ s' hp (R'.ext (same_upd na)) (.lst (R'.see na) (hv.of (R'.kp na)))
theorem rl_new {te : TE} {dl : DA} (h : RF K te dl) : RL K te dl := fun C hC s P hd σ H Q R q => h C hC s _ hd σ H Q R fun a vs H' ds s' hp R' na hv =>
  q a vs _ ds s' hp (R'.ext (same_upd na)) upd_same (hv.of (R'.kp na))
def dNil : DA := fun s P => P [] s
def dCons (de : DE) (da : DA) : DA := fun s P => de s fun d s1 => da s1 fun ds s2 => P (d :: ds) s2
theorem ra_nil : RA K tNil dNil := fun C _ s P h σ H Q R q => q [] H [] s h R .nil
theorem ra_cons {te : TE} {ta : TA} {de : DE} {da : DA} (h1 : RE K te de) (h2 : RA K ta da) : RA K (tCons te ta) (dCons de da) := fun C hC s P hd σ H Q R q =>
  rd_cons (h1 C hC s _ hd σ H _ R fun v H1 d s1 hd1 R1 hv => h2 (C.keep v d) hC s1 _ hd1 σ H1 _ (R1.keep hv) fun vs H2 ds s2 hp R2 hvs => by
    obtain ⟨R3, hv3⟩ := R2.kept
    exact q (v :: vs) H2 (d :: ds) s2 hp R3 (.cons hv3 hvs))
def dTup (da : DA) : DE := fun s P => da s fun ds s1 => ds.length ≤ 1000000 ∧ P (.tuple ds) s1
theorem sz6 : 1000000 ≤ sizeLine := by decide
theorem rd_tupP {ta : TA} {σ : L2.St} {H : Hp} {Q : VK} (h : ta σ H fun xs H1 => xs.length ≤ sizeLine ∧ NewT H1 xs Q) : tTupP ta σ H Q := h
theorem re_tup {ta : TA} {da : DA} (h : RA K ta da) : RE K (tTupP ta) (dTup da) := fun C hC s P hd σ H Q R q =>
  rd_tupP (h C hC s _ hd σ H _ R fun vs H1 ds s1 hp R1 hv => ⟨by rw [hv.len]; exact Nat.le_trans hp.1 sz6, fun a o na e => q _ _ _ s1 hp.2 (R1.ext (same_upd na)) (.tup (.inl ⟨o, R1.see na, e⟩) (hv.of (R1.kp na)))⟩)
def dLst (da : DA) : DA := fun s P => da s fun ds s1 => ds.length ≤ 1000000 ∧ P ds s1
theorem rf_lst {ta : TA} {da : DA} (h : RA K ta da) : RF K (tLst ta) (dLst da) := fun C hC s P hd σ H Q R q =>
  rd_lst (h C hC s _ hd σ H _ R fun vs H1 ds s1 hp R1 hv => ⟨by rw [hv.len]; exact Nat.le_trans hp.1 sz6, fun a na => q a vs H1 ds s1 hp.2 R1 na hv⟩)
abbrev D2 := PyData → PyData → (PyData → Prop) → Prop
def RO (K : PySem.W.Frag) (r : R2) (ro : D2) : Prop := ∀ (S : Addr → Prop) (H : Hp) (x y : V) (d e : PyData) (P : PyData → Prop) (Q : VK), Taken H S → Da K (Hd S H) x d → Da K (Hd S H) y e → ro d e P → (∀ v H' f, P f → Same H H' → Da K (Hd S H') v f → Q v H') → r x y H Q
def dOp (ro : D2) (da db : DE) : DE := fun s P => da s fun d s1 => db s1 fun e s2 => ro d e fun f => P f s2
theorem re_op {r : R2} {ro : D2} {ta tb : TE} {da db : DE} (ho : RO K r ro) (h1 : RE K ta da) (h2 : RE K tb db) : RE K (tOp r ta tb) (dOp ro da db) := fun C hC s P hd σ H Q R q =>
  rd_op (h1 C hC s _ hd σ H _ R fun v H1 d s1 hd1 R1 hv => h2 (C.keep v d) hC s1 _ hd1 σ H1 _ (R1.keep hv) fun w H2 e s2 hp R2 hw => by
    obtain ⟨R3, hv3⟩ := R2.kept
    subst hC
    exact ho _ H2 v w d e _ Q R3.taken hv3 hw hp fun u H3 f hf s23 hu => q u H3 f s2 hf (R3.ext s23) hu)
/-- ints to an int -/
def oI (c : Int → Int → Prop) (g : Int → Int → Int) : D2 := fun d e P => match d, e with
  | .int i, .int j => c i j ∧ P (.int (g i j))
  | _, _ => False
theorem ro_I {c : Int → Int → Prop} {g : Int → Int → Int} : RO K (rI c fun i j => .int (g i j)) (oI c g) := fun S H x y d e P Q _ hx hy h q => by
  unfold oI at h
  split at h
  · cases hx
    cases hy
    exact ⟨_, _, rfl, rfl, h.1, q _ H _ h.2 (Same.refl _) (.int _)⟩
  · exact h.elim
def oI0 (g : Int → Int → Int) : D2 := fun d e P => match d, e with
  | .int i, .int j => P (.int (g i j))
  | _, _ => False
theorem ro_I0 {g : Int → Int → Int} : RO K (rI0 fun i j => .int (g i j)) (oI0 g) := fun S H x y d e P Q _ hx hy h q => by
  unfold oI0 at h
  split at h
  · cases hx
    cases hy
    exact ⟨_, _, rfl, rfl, q _ H _ h (Same.refl _) (.int _)⟩
  · exact h.elim
def oCatS : D2 := fun d e P => match d, e with
  | .str i, .str j => i.length + j.length ≤ 1000000 ∧ P (.str (i ++ j))
  | _, _ => False
theorem ro_catS : RO K (fun x y H Q => ∃ i j, x = .str i ∧ y = .str j ∧ i.length + j.length ≤ sizeLine ∧ Q (.str (i ++ j)) H) oCatS := fun S H x y d e P Q _ hx hy h q => by
  unfold oCatS at h
  split at h
  · cases hx
    cases hy
    exact ⟨_, _, rfl, rfl, Nat.le_trans h.1 sz6, q _ H _ h.2 (Same.refl _) (.str _)⟩
  · exact h.elim
/-- == of flat things -/
def flatD : PyData → Option V
  | .none => some .non
  | .bool b => some (.bl b)
  | .int i => some (.int i)
  | .str x => some (.str x)
  | _ => none
theorem flat_v {H : Hp} {v x : V} {d : PyData} (h : Da K H v d) (e : flatD d = some x) : v = x := by
  cases d with
  | none => cases h; cases e; rfl
  | bool b => cases h; cases e; rfl
  | int i => cases h; cases e; rfl
  | str z => cases h; cases e; rfl
  | _ => cases e
def oEq (neg : Bool) : D2 := fun d e P => match flatD d, flatD e with
  | some x, some y => scal x y = true ∧ P (.bool (if neg then !decide (x = y) else decide (x = y)))
  | _, _ => False
theorem ro_eq : RO K rEq (oEq false) := fun S H x y d e P Q _ hx hy h q => by
  unfold oEq at h
  split at h
  · rename_i a b e1 e2
    obtain rfl := flat_v hx e1
    obtain rfl := flat_v hy e2
    exact ⟨h.1, q _ H _ h.2 (Same.refl _) (.bl _)⟩
  · exact h.elim
theorem ro_ne : RO K rNe (oEq true) := fun S H x y d e P Q _ hx hy h q => by
  unfold oEq at h
  split at h
  · rename_i a b e1 e2
    obtain rfl := flat_v hx e1
    obtain rfl := flat_v hy e2
    exact ⟨h.1, q _ H _ h.2 (Same.refl _) (.bl _)⟩
  · exact h.elim
mutual
/-- data without a dict, as the library has it -/
theorem Da.dp {H : Hp} : ∀ (d : PyData) (v : V), d.hasDict = false → Da K H v d → Dp K H v d
  | .none, _, _, h => by cases h; exact .non
  | .bool b, _, _, h => by cases h; exact .bl b
  | .int i, _, _, h => by cases h; exact .int i
  | .str x, _, _, h => by cases h; exact .str x
  | .list ds, _, n, h => by
    cases h with
    | lst hs ha => exact .lst (sq hs) (DaAll.dp ds _ (by simpa only [PyData.hasDict] using n) ha)
  | .tuple ds, _, n, h => by
    cases h with
    | tup hs ha => exact .tup hs.sq (DaAll.dp ds _ (by simpa only [PyData.hasDict] using n) ha)
  | .dict ds, _, n, h => by simp only [PyData.hasDict] at n; cases n
theorem DaAll.dp {H : Hp} : ∀ (ds : List PyData) (vs : List V), PyData.hasDictAll ds = false → DaAll K H vs ds → DpAll K H vs ds
  | [], _, _, h => by cases h; exact .nil
  | d :: ds, _, n, h => by
    cases h with
    | cons h1 h2 =>
      simp only [PyData.hasDictAll, Bool.or_eq_false_iff] at n
      exact .cons (Da.dp d _ n.1 h1) (DaAll.dp ds _ n.2 h2)
end
/-- == of data without dicts -/
def oEqD (neg : Bool) : D2 := fun d e P => d.hasDict = false ∧ e.hasDict = false ∧ SeqAt.shaped d = true ∧ SeqAt.shaped e = true ∧ P (.bool (if neg then !PyData.eqv d e else PyData.eqv d e))
theorem dp_hd {S : Addr → Prop} {H : Hp} {v : V} {d : PyData} (n : d.hasDict = false) (h : Da K (Hd S H) v d) : Dp K H v d := (h.of (hd_sub S H)).dp d v n
theorem ro_neD : RO K (rNeD K) (oEqD true) := fun S H x y d e P Q _ hx hy h q => ⟨d, e, dp_hd h.1 hx, dp_hd h.2.1 hy, h.2.2.1, h.2.2.2.1, q _ H _ h.2.2.2.2 (Same.refl _) (.bl _)⟩
/-- is None -/
def isNoneD : PyData → Bool
  | .none => true
  | _ => false
def oIsN (neg : Bool) : D2 := fun d e P => match e with
  | .none => P (.bool (if neg then !isNoneD d else isNoneD d))
  | _ => False
theorem da_none {H : Hp} {v : V} {d : PyData} (h : Da K H v d) : decide (v = .non) = isNoneD d := by
  cases h <;> rfl
theorem ro_isN : RO K (fun x y H Q => y = .non ∧ Q (.bl (decide (x = .non))) H) (oIsN false) := fun S H x y d e P Q _ hx hy h q => by
  unfold oIsN at h
  split at h
  · cases hy
    refine ⟨rfl, q _ H _ h (Same.refl _) ?_⟩
    rw [da_none hx]
    exact .bl _
  · exact h.elim
theorem ro_notN : RO K (fun x y H Q => y = .non ∧ Q (.bl (!decide (x = .non))) H) (oIsN true) := fun S H x y d e P Q _ hx hy h q => by
  unfold oIsN at h
  split at h
  · cases hy
    refine ⟨rfl, q _ H _ h (Same.refl _) ?_⟩
    rw [da_none hx]
    exact .bl _
  · exact h.elim
/-- t + u of tuples -/
def oCatU : D2 := fun d e P => match d, e with
  | .tuple a, .tuple b => a.length + b.length ≤ 1000000 ∧ P (.tuple (a ++ b))
  | _, _ => False
theorem see_of {S : Addr → Prop} {H : Hp} {p : Addr} {o : HO} (T : Taken H S) (np : H p = none) : Hd S (upd H p o) p = some o := by
  rw [hd_ne (T.ne np)]
  exact upd_same
theorem ro_catU : RO K (rCatP K) oCatU := fun S H x y d e P Q T hx hy h q => by
  unfold oCatU at h
  split at h
  · rename_i ds es
    obtain ⟨a, vs, rfl, h1, h2⟩ := da_tup hx
    obtain ⟨b, us, rfl, h3, h4⟩ := da_tup hy
    refine ⟨a, b, vs, us, rfl, rfl, h1, h3, by rw [h2.len, h4.len]; exact Nat.le_trans h.1 sz6, fun e => ?_, fun _ e => ?_, fun _ _ p o np eo => ?_⟩
    · subst e
      cases h2
      exact q _ H _ h.2 (Same.refl _) hy
    · subst e
      cases h4
      rw [List.append_nil] at h
      exact q _ H _ h.2 (Same.refl _) hx
    · exact q _ _ _ h.2 (same_upd np) (.tup (.inl ⟨o, see_of T np, eo⟩) ((h2.append h4).of (hdS (same_upd np))))
  · exact h.elim
/-- o[i] -/
def oIxL : D2 := fun d e P => match d, e with
  | .list a, .int i => ∃ x, atI a i = some x ∧ P x
  | _, _ => False
theorem atI_da {H : Hp} {vs : List V} {ds : List PyData} (h : DaAll K H vs ds) {i : Int} {x : PyData} (e : atI ds i = some x) : ∃ v, atI vs i = some v ∧ Da K H v x := by
  unfold atI at e ⊢
  rw [h.len]
  obtain ⟨j, e1, e2⟩ := Option.bind_eq_some_iff.mp e
  obtain ⟨v, h1, h2⟩ := h.getD e2
  exact ⟨v, by rw [e1]; exact h1, h2⟩
theorem ro_ixL : RO K (rIxL K) oIxL := fun S H x y d e P Q T hx hy h q => by
  unfold oIxL at h
  split at h
  · rename_i ds i
    obtain ⟨a, vs, rfl, h1, h2⟩ := da_list hx
    cases hy
    obtain ⟨z, e1, hp⟩ := h
    obtain ⟨v, e2, hv⟩ := atI_da h2 e1
    exact ⟨a, vs, i, v, rfl, rfl, sq h1, e2, q _ H _ hp (Same.refl _) hv⟩
  · exact h.elim
def oIxU : D2 := fun d e P => match d, e with
  | .tuple a, .int i => ∃ x, atI a i = some x ∧ P x
  | _, _ => False
theorem ro_ixU : RO K (rIxT K) oIxU := fun S H x y d e P Q T hx hy h q => by
  unfold oIxU at h
  split at h
  · rename_i ds i
    obtain ⟨a, vs, rfl, h1, h2⟩ := da_tup hx
    cases hy
    obtain ⟨z, e1, hp⟩ := h
    obtain ⟨v, e2, hv⟩ := atI_da h2 e1
    exact ⟨a, vs, i, v, rfl, rfl, h1, e2, q _ H _ hp (Same.refl _) hv⟩
  · exact h.elim
def oIxS : D2 := fun d e P => match d, e with
  | .str z, .int i => z.length ≤ 1000000 ∧ ∃ c, atI z.cps.toList i = some c ∧ P (.str ⟨#[c]⟩)
  | _, _ => False
theorem ro_ixS : RO K rIxS oIxS := fun S H x y d e P Q T hx hy h q => by
  unfold oIxS at h
  split at h
  · cases hx
    cases hy
    obtain ⟨hz, c, e1, hp⟩ := h
    exact ⟨_, _, c, rfl, rfl, Nat.le_trans hz sz6, e1, q _ H _ hp (Same.refl _) (.str _)⟩
  · exact h.elim
/-- the list in slot i by an index that may draw -/
def dIxVar (i : Nat) (db : DE) : DE := fun s P => (match s.sl[i]? with
  | some (.dat _) => True
  | some (.own _) => True
  | _ => False) ∧ db s fun e s1 => match e with
  | .int k => dListVar i s1 fun a s2 => ∃ x, atI a k = some x ∧ P x s2
  | _ => False
theorem re_ixVar {i : Nat} {tb : TE} {db : DE} (h : RE K tb db) : RE K (tOp (rIxL K) (tVar i) tb) (dIxVar i db) := fun C hC s P hd σ H Q R q => by
  have hsl : ∃ v, σ[i]? = some (some v) := by
    have h0 := hd.1
    split at h0
    · rename_i e
      obtain ⟨sl, h1, v, rfl, h3⟩ := R.slots i _ e
      exact ⟨v, h1⟩
    · rename_i e
      obtain ⟨sl, h1, a, vs, rfl, h3⟩ := R.slots i _ e
      exact ⟨_, h1⟩
    · exact h0.elim
  obtain ⟨v, e⟩ := hsl
  exact rd_op (rd_var e (h C hC s _ hd.2 σ H _ R fun w H1 d s1 hp R1 hw => by
    cases d with
    | int k =>
      cases hw
      obtain ⟨a, vs, ds, e1, ⟨x, ex, hp⟩, e3, e4⟩ := list_at R1 hp
      rw [e] at e1
      cases e1
      obtain ⟨u, e5, e6⟩ := atI_da e4 ex
      exact ⟨a, vs, k, u, rfl, rfl, sq e3, e5, q u H1 x s1 hp R1 e6⟩
    | _ => exact hp.elim))
def DO := DSt → (Option Int → DSt → Prop) → Prop
def RP (K : KX) (to : TO) (d : DO) : Prop := ∀ C : DC, C.K = K → ∀ s P, d s P → ∀ (σ : L2.St) (H : Hp) (Q : Option Int → Hp → Prop), Rl C σ H s → (∀ o H' s', P o s' → Rl C σ H' s' → Q o H') → to σ H Q
def dNoP : DO := fun s P => P none s
def dPart (de : DE) : DO := fun s P => de s fun d s1 => match d with
  | .int i => P (some i) s1
  | _ => False
theorem rp_no : RP K tNoPart dNoP := fun C _ s P h σ H Q R q => q none H s h R
theorem rp_of {te : TE} {de : DE} (h : RE K te de) : RP K (tPart te) (dPart de) := fun C hC s P hd σ H Q R q => h C hC s _ hd σ H _ R fun v H1 d s1 hp R1 hv => by
  cases d with
  | int i =>
    cases hv
    exact ⟨i, rfl, q _ H1 s1 hp R1⟩
  | _ => exact hp.elim
def cutD (xs : List PyData) (lo hi : Option Int) : List PyData := (xs.drop (HT.sIx xs.length 0 lo)).take (HT.sIx xs.length xs.length hi - HT.sIx xs.length 0 lo)
theorem cut_da {H : Hp} {vs : List V} {ds : List PyData} (h : DaAll K H vs ds) (lo hi : Option Int) : DaAll K H (cutV vs lo hi) (cutD ds lo hi) := by
  unfold cutV cutD
  rw [h.len]
  exact (h.drop _).take _
/-- xs[lo:hi] of a tuple -/
def dSlU (de : DE) (d1 d2 : DO) : DE := fun s P => de s fun d s1 => d1 s1 fun lo s2 => d2 s2 fun hi s3 => match d with
  | .tuple ds => P (.tuple (cutD ds lo hi)) s3
  | _ => False
theorem re_slU {te : TE} {tl th : TO} {de : DE} {d1 d2 : DO} (h : RE K te de) (h1 : RP K tl d1) (h2 : RP K th d2) : RE K (tSl (rSlP K) te tl th) (dSlU de d1 d2) := fun C hC s P hd σ H Q R q =>
  h C hC s _ hd σ H _ R fun v H1 d s1 hd1 R1 hv => h1 (C.keep v d) hC s1 _ hd1 σ H1 _ (R1.keep hv) fun lo H2 s2 hd2 R2 => h2 (C.keep v d) hC s2 _ hd2 σ H2 _ R2 fun hi H3 s3 hp R3 => by
    obtain ⟨R4, hv4⟩ := R3.kept
    cases d with
    | tuple ds =>
      obtain ⟨a, vs, rfl, k1, k2⟩ := da_tup hv4
      subst hC
      refine ⟨a, vs, rfl, k1, fun e => ?_, fun _ p o np eo => q _ _ _ s3 hp (R4.ext (same_upd np)) (.tup (.inl ⟨o, R4.see np, eo⟩) ((cut_da k2 lo hi).of (R4.kp np)))⟩
      have e' : cutD ds lo hi = ds := by
        unfold cutD
        rw [← k2.len, e.1, e.2, List.drop_zero, Nat.sub_zero, k2.len, List.take_length]
      have hp' : P (.tuple (cutD ds lo hi)) s3 := hp
      rw [e'] at hp'
      exact q _ H3 _ s3 hp' R4 hv4
    | _ => exact hp.elim
/-- len of a list that is read, of a tuple, of a text -/
def dLenL (dl : DA) : DE := fun s P => dl s fun ds s1 => P (.int ds.length) s1
def rLn (K : PySem.W.Frag) : List V → Hp → VK → Prop := fun xs H Q => ∃ p ys, xs = [.ref p] ∧ (SqL K H p ys ∨ SqT K H p ys) ∧ Q (.int ys.length) H
theorem re_lenL {te : TE} {dl : DA} (h : RL K te dl) : RE K (tCB (rLn K) (tCons te tNil)) (dLenL dl) := fun C hC s P hd σ H Q R q =>
  rd_cb (rd_cons (h C hC s _ hd σ H _ R fun a vs H1 ds s1 hp R1 e hv => rd_nil ⟨a, vs, rfl, .inl (sq e), by rw [hv.len]; exact q _ H1 _ s1 hp R1 (.int _)⟩))
theorem re_lenU {te : TE} {dl : DA} (h : RU K te dl) : RE K (tCB (rLn K) (tCons te tNil)) (dLenL dl) := fun C hC s P hd σ H Q R q =>
  rd_cb (rd_cons (h C hC s _ hd σ H _ R fun a vs H1 ds s1 hp R1 e hv => rd_nil ⟨a, vs, rfl, .inr (hC ▸ e), by rw [hv.len]; exact q _ H1 _ s1 hp R1 (.int _)⟩))
/-- of a list or a tuple, data -/
def dLenD (de : DE) : DE := fun s P => de s fun d s1 => match d with
  | .list ds => P (.int ds.length) s1
  | .tuple ds => P (.int ds.length) s1
  | _ => False
theorem re_lenD {te : TE} {de : DE} (h : RE K te de) : RE K (tCB (rLn K) (tCons te tNil)) (dLenD de) := fun C hC s P hd σ H Q R q =>
  rd_cb (rd_cons (h C hC s _ hd σ H _ R fun v H1 d s1 hp R1 hv => by
    cases d with
    | list ds =>
      obtain ⟨a, vs, rfl, k1, k2⟩ := da_list hv
      exact rd_nil ⟨a, vs, rfl, .inl (sq k1), by rw [k2.len]; exact q _ H1 _ s1 hp R1 (.int _)⟩
    | tuple ds =>
      obtain ⟨a, vs, rfl, k1, k2⟩ := da_tup hv
      exact rd_nil ⟨a, vs, rfl, .inr (hC ▸ k1), by rw [k2.len]; exact q _ H1 _ s1 hp R1 (.int _)⟩
    | _ => exact hp.elim))
def dTupOf (dl : DA) : DE := fun s P => dl s fun ds s1 => P (.tuple ds) s1
theorem re_tupL {te : TE} {dl : DA} (h : RL K te dl) : RE K (tCB (rToP K) (tCons te tNil)) (dTupOf dl) := fun C hC s P hd σ H Q R q =>
  rd_cb (rd_cons (h C hC s _ hd σ H _ R fun a vs H1 ds s1 hp R1 e hv => rd_nil ⟨a, vs, rfl, .inl ⟨sq e, fun p o np eo => q _ _ _ s1 hp (R1.ext (same_upd np)) (.tup (.inl ⟨o, R1.see np, eo⟩) (hv.of (R1.kp np)))⟩⟩))
theorem DaAll.rep {H : Hp} {vs : List V} {ds : List PyData} (h : DaAll K H vs ds) : ∀ n : Nat, DaAll K H (List.replicate n vs).flatten (List.replicate n ds).flatten
  | 0 => .nil
  | n + 1 => by
    rw [List.replicate_succ, List.replicate_succ, List.flatten_cons, List.flatten_cons]
    exact h.append (h.rep n)
def dAndV (da db : DE) : DE := fun s P => da s fun d s1 => match d with
  | .bool c => if c = true then db s1 P else P (.bool false) s1
  | _ => False
theorem re_and {ta tb : TE} {da db : DE} (h1 : RE K ta da) (h2 : RE K tb db) : RE K (tAndV ta tb) (dAndV da db) := fun C hC s P hd σ H Q R q =>
  h1 C hC s _ hd σ H _ R fun v H1 d s1 hp R1 hv => by
    cases d with
    | bool c =>
      cases hv
      refine ⟨c, rfl, ?_⟩
      cases c with
      | true => exact pT rfl (h2 C hC s1 _ (by simpa using hp) σ H1 _ R1 q)
      | false => exact pF (by decide) (q _ H1 _ s1 (by simpa using hp) R1 (.bl _))
    | _ => exact hp.elim
def dNotV (da : DE) : DE := fun s P => da s fun d s1 => match d with
  | .bool c => P (.bool (!c)) s1
  | _ => False
theorem re_not {ta : TE} {da : DE} (h1 : RE K ta da) : RE K (tNotV ta) (dNotV da) := fun C hC s P hd σ H Q R q =>
  h1 C hC s _ hd σ H _ R fun v H1 d s1 hp R1 hv => by
    cases d with
    | bool c =>
      cases hv
      exact ⟨c, rfl, q _ H1 _ s1 hp R1 (.bl _)⟩
    | _ => exact hp.elim
def dB (de : DE) : DT := fun s P => de s fun d s1 => match d with
  | .bool c => P c s1
  | _ => False
theorem rt_test {te : TE} {de : DE} (h : RE K te de) : RT K (tTest te) (dB de) := fun C hC s P hd σ H Q R q =>
  rd_test (h C hC s _ hd σ H _ R fun v H1 d s1 hp R1 hv => by
    cases d with
    | bool c =>
      cases hv
      exact ⟨c, rfl, q _ H1 s1 hp R1⟩
    | _ => exact hp.elim)
theorem rt_val {te : TE} {de : DE} (h : RE K te de) : RT K (tB te) (dB de) := fun C hC s P hd σ H Q R q =>
  rd_tb (h C hC s _ hd σ H _ R fun v H1 d s1 hp R1 hv => by
    cases d with
    | bool c =>
      cases hv
      exact ⟨c, rfl, q _ H1 s1 hp R1⟩
    | _ => exact hp.elim)
def dOr (a b : DT) : DT := fun s P => a s fun c s1 => if c = true then P true s1 else b s1 P
def dNot (a : DT) : DT := fun s P => a s fun c s1 => P (!c) s1
theorem rt_or {ta tb : TT} {da db : DT} (h1 : RT K ta da) (h2 : RT K tb db) : RT K (tOr ta tb) (dOr da db) := fun C hC s P hd σ H Q R q =>
  rd_or (h1 C hC s _ hd σ H _ R fun c H1 s1 hp R1 => by
    cases c with
    | true => exact pT rfl (q _ H1 s1 (by simpa using hp) R1)
    | false => exact pF (by decide) (h2 C hC s1 _ (by simpa using hp) σ H1 _ R1 q))
theorem rt_not {ta : TT} {da : DT} (h1 : RT K ta da) : RT K (tNot ta) (dNot da) := fun C hC s P hd σ H Q R q =>
  rd_not (h1 C hC s _ hd σ H _ R fun c H1 s1 hp R1 => q _ H1 s1 hp R1)
def dIfE (c : DT) (da db : DE) : DE := fun s P => c s fun b s1 => if b = true then da s1 P else db s1 P
theorem re_if {tc : TT} {ta tb : TE} {dc : DT} {da db : DE} (hc : RT K tc dc) (h1 : RE K ta da) (h2 : RE K tb db) : RE K (tIf tc ta tb) (dIfE dc da db) := fun C hC s P hd σ H Q R q =>
  hc C hC s _ hd σ H _ R fun c H1 s1 hp R1 => by
    cases c with
    | true => exact pT rfl (h1 C hC s1 _ (by simpa using hp) σ H1 _ R1 q)
    | false => exact pF (by decide) (h2 C hC s1 _ (by simpa using hp) σ H1 _ R1 q)
end DL

set_option Elab.async false
set_option linter.all false
set_option maxRecDepth 100000
set_option maxHeartbeats 4000000
namespace DL
open PySem PySem.Spec PyProof.Rows L2 GG DD PT
variable {K : KX}
def ArgOk (K : PySem.W.Frag) (W : Wo) (S : Addr → Prop) (H : Hp) (v : V) : DV → Prop
  | .dat d => Da K (Hd S H) v d
  | .deck => ∃ p l, W.dk = some (p, l) ∧ v = .ref p
  | .obj a => v = .ref a
  | _ => False
inductive ArgsOk (K : PySem.W.Frag) (W : Wo) (S : Addr → Prop) (H : Hp) : List V → List DV → Prop
  | nil : ArgsOk K W S H [] []
  | cons {v : V} {vs : List V} {a : DV} {as : List DV} : ArgOk K W S H v a → ArgsOk K W S H vs as → ArgsOk K W S H (v :: vs) (a :: as)
theorem ArgsOk.len {K : PySem.W.Frag} {W : Wo} {S : Addr → Prop} {H : Hp} : ∀ {vs : List V} {as : List DV}, ArgsOk K W S H vs as → vs.length = as.length
  | _, _, .nil => rfl
  | _, _, .cons _ h => by rw [List.length_cons, List.length_cons, ArgsOk.len h]
theorem ArgsOk.pl {K : PySem.W.Frag} {W : Wo} {S : Addr → Prop} {H : Hp} {vs : List V} {as : List DV} (h : ArgsOk K W S H vs as) : ArgsOk K W.pl S H vs as := by
  induction h with
  | nil => exact .nil
  | @cons v vs a as h1 _ ih => exact .cons (by cases a <;> exact h1) ih
/-- what a def does, by data: its arguments, the draws so far, what is wished -/
abbrev FD := List DV → Nat → (PyData → Nat → Prop) → Prop
/-- the promise of a def that does F and has m parameters -/
def spOf (K : PySem.W.Frag) (m : Nat) (F : FD) : Sp := fun vs H Q _ => vs.length = m ∧ ∃ (W : Wo) (S0 : Addr → Prop) (n : Nat) (as : List DV) (P : PyData → Nat → Prop), Taken H S0 ∧ DkOk W H n ∧ (∀ b, Mu W b → S0 b) ∧ ArgsOk K W S0 H vs as ∧ F as n P ∧
  ∀ v H' d n', P d n' → DkOk W H' n' → ButW W H H' → Da K (Hd S0 H') v d → Q v H'
def XX (C : DC) (ta : TA) (s : DSt) (P : List DV → DSt → Prop) : Prop := ∀ (σ : L2.St) (H : Hp) (Q : List V → Hp → Prop), Rl C σ H s → (∀ vs H' as s', P as s' → Rl C σ H' s' → ArgsOk C.K C.W (Sof C σ s') H' vs as → Q vs H') → ta σ H Q
def RX (K : KX) (ta : TA) (dx : DX) : Prop := ∀ C : DC, C.K = K → ∀ s P, dx s P → XX C ta s P
def xNil : DX := fun s P => P [] s
def xCons (de : DE) (da : DX) : DX := fun s P => de s fun d s1 => da s1 fun ds s2 => P (.dat d :: ds) s2
/-- the deck, from slot i -/
def xDeck (i : Nat) (da : DX) : DX := fun s P => match s.sl[i]? with
  | some .deck => da s fun ds s2 => P (.deck :: ds) s2
  | _ => False
theorem rx_nil : RX K tNil xNil := fun C _ s P h σ H Q R q => q [] H [] s h R .nil
theorem rx_cons {te : TE} {ta : TA} {de : DE} {da : DX} (h1 : RE K te de) (h2 : RX K ta da) : RX K (tCons te ta) (xCons de da) := fun C hC s P hd σ H Q R q =>
  rd_cons (h1 C hC s _ hd σ H _ R fun v H1 d s1 hd1 R1 hv => h2 (C.keep v d) hC s1 _ hd1 σ H1 _ (R1.keep hv) fun vs H2 ds s2 hp R2 hvs => by
    obtain ⟨R3, hv3⟩ := R2.kept
    exact q (v :: vs) H2 (.dat d :: ds) s2 hp R3 (.cons hv3 hvs))
theorem rx_deck {i : Nat} {ta : TA} {da : DX} (h2 : RX K ta da) : RX K (tCons (tVar i) ta) (xDeck i da) := fun C hC s P hd σ H Q R q => by
  unfold xDeck at hd
  split at hd
  · rename_i e
    obtain ⟨sl, h1, p, l, hW, rfl⟩ := R.slots i _ e
    exact rd_cons (rd_var h1 (h2 C hC s _ hd σ H _ R fun vs H2 ds s2 hp R2 hvs => q (.ref p :: vs) H2 (.deck :: ds) s2 hp R2 (.cons ⟨p, l, hW, rfl⟩ hvs)))
  · exact hd.elim
def dCall (m : Nat) (F : FD) (da : DX) : DE := fun s P => da s fun as s1 => as.length = m ∧ F as s1.n.n fun d n' => P d ⟨s1.sl, s1.n.on n'⟩
theorem re_call {m : Nat} {F : FD} {ta : TA} {da : DX} (h : RX K ta da) : RE K (tCall (spOf K m F) [] E0 ta) (dCall m F da) := fun C hC s P hd σ H Q R q =>
  rd_call (h C hC s _ hd σ H _ R fun vs H1 as s1 hp R1 hv => by
    subst hC
    refine ⟨by rw [List.append_nil, hv.len]; exact hp.1, C.W.pl, Sof C σ s1, s1.n.n, as, _, R1.taken, R1.dk.pl, fun b hb => .inr (.inl (mu_pl hb)), by rw [List.append_nil]; exact hv.pl, hp.2, fun v H' d n' hP hD hB hda => ?_⟩
    exact q v H' d ⟨s1.sl, s1.n.on n'⟩ hP (R1.step hB hD) hda)
structure DEnds where
  nx : DSt → Prop
  rt : PyData → DSt → Prop
  bk : DSt → Prop := fun _ => False
  ct : DSt → Prop := fun _ => False
  /-- an object is returned -/
  ro : Addr → DSt → Prop := fun _ _ => False
abbrev DS := DEnds → DSt → Prop
structure EndsOk (C : DC) (E : DEnds) (D : Ends) : Prop where
  nx : ∀ σ H s, E.nx s → Rl C σ H s → D.nx σ H
  rt : ∀ σ v H d s, E.rt d s → Rl C σ H s → Da C.K (Hd (Sof C σ s) H) v d → D.rt v H
  bk : ∀ σ H s, E.bk s → Rl C σ H s → D.bk σ H
  ct : ∀ σ H s, E.ct s → Rl C σ H s → D.ct σ H
  ro : ∀ σ H a s, E.ro a s → Rl C σ H s → D.rt (.ref a) H
def RS (K : KX) (t : TS) (d : DS) : Prop := ∀ C : DC, C.K = K → ∀ (E : DEnds) (s : DSt), d E s → ∀ (σ : L2.St) (H : Hp) (D : Ends), Rl C σ H s → EndsOk C E D → t D σ H
def dNext : DS := fun E s => E.nx s
theorem rs_next : RS K tNext dNext := fun C _ E s h σ H D R o => o.nx σ H s h R
def dSeq (a b : DS) : DS := fun E s => a { E with nx := b E } s
theorem rs_seq {a b : TS} {da db : DS} (h1 : RS K a da) (h2 : RS K b db) : RS K (tSeq a b) (dSeq da db) := fun C hC E s h σ H D R o =>
  rd_seq (h1 C hC _ s h σ H _ R ⟨fun σ' H' s' h' R' => h2 C hC E s' h' σ' H' D R' o, o.rt, o.bk, o.ct, o.ro⟩)
def dSet (de : DE) (i : Nat) : DS := fun E s => de s fun d s1 => E.nx ⟨s1.sl.set i (.dat d), s1.n⟩
theorem rs_set {te : TE} {i : Nat} {de : DE} (h : RE K te de) : RS K (tAsg te (gName i)) (dSet de i) := fun C hC E s hd σ H D R o =>
  h C hC s _ hd σ H _ R fun v H1 d s1 hp R1 hv => o.nx _ H1 _ hp (R1.set hv)
/-- a new list as one's own -/
def dSetO (dl : DA) (i : Nat) : DS := fun E s => dl s fun ds s1 => i < s1.sl.length ∧ E.nx ⟨s1.sl.set i (.own ds), s1.n⟩
theorem rs_setO {te : TE} {i : Nat} {dl : DA} (h : RF K te dl) : RS K (tAsg te (gName i)) (dSetO dl i) := fun C hC E s hd σ H D R o =>
  h C hC s _ hd σ H _ R fun a vs H1 ds s1 hp R1 na hv => o.nx _ _ _ hp.2 (R1.setOwn na hp.1 rfl fun S' hs => ⟨a, vs, rfl, upd_same, hv.of hs⟩)
def dIf (c : DT) (a b : DS) : DS := fun E s => c s fun b' s1 => if b' = true then a E s1 else b E s1
theorem rs_if {tc : TT} {a b : TS} {dc : DT} {da db : DS} (hc : RT K tc dc) (h1 : RS K a da) (h2 : RS K b db) : RS K (tIfS tc a b) (dIf dc da db) := fun C hC E s hd σ H D R o =>
  rd_ifS (hc C hC s _ hd σ H _ R fun c H1 s1 hp R1 => by
    cases c with
    | true => exact pT rfl (h1 C hC E s1 (by simpa using hp) σ H1 D R1 o)
    | false => exact pF (by decide) (h2 C hC E s1 (by simpa using hp) σ H1 D R1 o))
def dRet (de : DE) : DS := fun E s => de s E.rt
theorem rs_ret {te : TE} {de : DE} (h : RE K te de) : RS K (tRet te) (dRet de) := fun C hC E s hd σ H D R o =>
  rd_ret (h C hC s _ hd σ H _ R fun v H1 d s1 hp R1 hv => o.rt σ v H1 d s1 hp R1 hv)
def dDrop (de : DE) : DS := fun E s => de s fun _ s1 => E.nx s1
theorem rs_drop {te : TE} {de : DE} (h : RE K te de) : RS K (tDrop te) (dDrop de) := fun C hC E s hd σ H D R o =>
  h C hC s _ hd σ H _ R fun v H1 d s1 hp R1 hv => o.nx σ H1 s1 hp R1
/-- one's own thing is data from here on -/
def dFreeze (i : Nat) (b : DS) : DS := fun E s => match s.sl[i]? with
  | some (.own ds) => b E ⟨s.sl.set i (.dat (.list ds)), s.n⟩
  | some (.owd kvs) => b E ⟨s.sl.set i (.dat (.dict kvs)), s.n⟩
  | some (.owt kvs) => kvs ≠ [] ∧ b E ⟨s.sl.set i (.dat (.dict kvs)), s.n⟩
  | some (.dat _) => b E s
  | _ => False
theorem rs_freeze {i : Nat} {t : TS} {b : DS} (h : RS K t b) : RS K t (dFreeze i b) := fun C hC E s hd σ H D R o => by
  unfold dFreeze at hd
  split at hd
  · rename_i ds e
    exact h C hC E _ hd σ H D (R.freeze e (.inl ⟨ds, rfl, rfl⟩)) o
  · rename_i kvs e
    exact h C hC E _ hd σ H D (R.freeze e (.inr (.inl ⟨kvs, rfl, rfl⟩))) o
  · rename_i kvs e
    exact h C hC E _ hd.2 σ H D (R.freeze e (.inr (.inr ⟨kvs, rfl, rfl, hd.1⟩))) o
  · exact h C hC E s hd σ H D R o
  · exact hd.elim
/-- a, b = x, y -/
def dPar (i j : Nat) (da : DA) : DS := fun E s => da s fun ds s1 => match ds with
  | [d, e] => E.nx ⟨(s1.sl.set i (.dat d)).set j (.dat e), s1.n⟩
  | _ => False
theorem rs_par {i j : Nat} {ta : TA} {da : DA} (h : RA K ta da) : RS K (tPar i j ta) (dPar i j da) := fun C hC E s hd σ H D R o =>
  h C hC s _ hd σ H _ R fun vs H1 ds s1 hp R1 hv => by
    match ds, hp, hv with
    | [d, e], hp, .cons (v := v) h1 (.cons (v := w) h2 .nil) =>
      have R2 := (R1.keep (v := w) h2).set (i := i) h1
      obtain ⟨R3, h3⟩ := R2.kept
      exact ⟨v, w, rfl, o.nx _ H1 _ hp (R3.set h3)⟩
theorem rl_start {K : PySem.W.Frag} {W : Wo} {S0 : Addr → Prop} {H : Hp} {n : Nat} {vs : List V} {as : List DV} (m : Nat) (T : Taken H S0) (dk : DkOk W H n) (hm : ∀ b, Mu W b → S0 b) (ha : ArgsOk K W S0 H vs as) :
    Rl (DC.base ⟨K, W, S0, H, fun _ _ => False, fun _ _ => False⟩) (vs.map some ++ List.replicate m none) H ⟨as ++ List.replicate m .un, g0 n⟩ := by
  have no : ∀ {vs : List V} {as : List DV}, ArgsOk K W S0 H vs as → ∀ (i : Nat) (dv : DV), (as ++ List.replicate m .un)[i]? = some dv → isOwn dv = true → False := by
    intro vs as ha
    induction ha with
    | nil =>
      intro i dv h ho
      rw [List.nil_append] at h
      have := List.eq_of_mem_replicate (List.mem_of_getElem? h)
      subst this
      cases ho
    | @cons v vs a as h1 h2 ih =>
      intro i dv h ho
      cases i with
      | zero =>
        simp at h
        subst h
        cases a <;> first | exact h1.elim | cases ho
      | succ i => exact ih i dv (by simpa using h) ho
  have sof : ∀ b, Sof (DC.base ⟨K, W, S0, H, fun _ _ => False, fun _ _ => False⟩) (vs.map some ++ List.replicate m none) ⟨as ++ List.replicate m .un, g0 n⟩ b → S0 b := fun b h => by
    rcases h with h | h | ⟨i, dv, h1, h2, h3⟩ | ⟨o, h⟩
    · exact h
    · exact hm b h
    · exact (no ha i dv h1 h2).elim
    · cases h
  refine ⟨?_, ?_, fun i j a dv ev h1 _ h3 => (no ha i dv h1 h3).elim, fun i a dv h1 h2 => (no ha i dv h1 h2).elim, dk, ButW.refl _ _, T, fun _ _ h => h.elim, fun _ _ h => h.elim, fun _ _ h => by cases h⟩
  · rw [List.length_append, List.length_append, List.length_map, List.length_replicate, List.length_replicate, ha.len]
  · have hs := hd_mono (S := S0) (S' := Sof (DC.base ⟨K, W, S0, H, fun _ _ => False, fun _ _ => False⟩) (vs.map some ++ List.replicate m none) ⟨as ++ List.replicate m .un, g0 n⟩) (H := H) sof
    generalize Sof (DC.base ⟨K, W, S0, H, fun _ _ => False, fun _ _ => False⟩) (vs.map some ++ List.replicate m none) ⟨as ++ List.replicate m .un, g0 n⟩ = S at hs ⊢
    clear sof
    induction ha with
    | nil =>
      intro i dv h
      rw [List.nil_append] at h
      have := List.eq_of_mem_replicate (List.mem_of_getElem? h)
      subst this
      have hi : i < m := by
        have := (List.getElem?_eq_some_iff.mp h).1
        rw [List.length_replicate] at this
        exact this
      exact ⟨none, by simp [hi], trivial⟩
    | @cons v vs a as h1 h2 ih =>
      intro i dv h
      cases i with
      | zero =>
        simp at h
        subst h
        refine ⟨some v, by simp, ?_⟩
        cases a with
        | dat d => exact ⟨v, rfl, Da.of h1 hs⟩
        | deck =>
          obtain ⟨p, l, e1, e2⟩ := h1
          exact ⟨p, l, e1, by rw [e2]⟩
        | obj b => exact congrArg some h1
        | _ => exact h1.elim
      | succ i =>
        obtain ⟨sl, q1, q2⟩ := ih i dv (by simpa using h)
        exact ⟨sl, by simpa using q1, q2⟩
/-- a def's body, by data -/
def bodyD (d : DS) (m : Nat) : FD := fun as n P => d { nx := fun s => P .none s.n.n, rt := fun v s => P v s.n.n } ⟨as ++ List.replicate m .un, g0 n⟩
theorem body_ok {K : PySem.W.Frag} {d : DS} {N : List Str} {k : Nat} {vs : List V} {H : Hp} {Q : VK} {X : TS → Prop} (h : ∀ W B H0 G0 Z0, ∃ t, X t ∧ RS ⟨K, W, B, H0, G0, Z0⟩ t d) (hsp : spOf K k (bodyD d (N.length - k)) vs H Q E0) : ∃ t, X t ∧ t { nx := fun _ H' => Q .non H', rt := Q } (L2.start N vs) H := by
  obtain ⟨hl, W, S0, n, as, P, T, dk, hm, ha, hF, q⟩ := hsp
  obtain ⟨t, hX, h⟩ := h W S0 H (fun _ _ => False) (fun _ _ => False)
  refine ⟨t, hX, ?_⟩
  unfold L2.start
  rw [hl]
  refine h (DC.base ⟨K, W, S0, H, fun _ _ => False, fun _ _ => False⟩) rfl _ _ hF _ H _ (rl_start _ T dk hm ha) ⟨fun σ H' s hp R => ?_, fun σ v H' d s hp R hv => ?_, fun _ _ _ h => h.elim, fun _ _ _ h => h.elim, fun _ _ _ _ h => h.elim⟩
  · exact q _ H' _ _ hp R.dk R.but .non
  · exact q v H' d s.n.n hp R.dk R.but (hv.of (hd_mono fun b hb => .inl hb))
section
variable {P : Program} {w : World} {K : PySem.W.Frag} {mg : Str → Option Value} {base : Heap} {k : Nat} {f : Addr} {fd : FuncData} {ps : List Str}
/-- a def does what its body does -/
theorem okd {x qual : Str} {st : Stmt} {N : List Str} {d : DS} {m : Nat} (hm : ps.length = m) (F : L2.Fun K x qual st f fd) (S : FnScope N ps (defScope st))
    (body : ∀ (cdv : Value) (A : Around) (outer : List Env) (s : Shared) (H : Hp), Rm k (A.deeper (envOfC qual (defScope st) s.heap.objs.size f cdv)) → ∀ W B H0 G0 Z0,
      ∃ t, PSs (cxOf CX0 P w K mg base N qual (defScope st) f cdv A outer s H E0).nox (defBody st) t ∧ RS ⟨K, W, B, H0, G0, Z0⟩ t d) :
    Fg P w K mg base (k + 1) f fd ps (spOf K m (bodyD d (N.length - m))) :=
  okg F S (fun vs H Q h => by rw [h.1]; exact hm.symm) fun cdv A outer s H vs Q hr h => body_ok (body cdv A outer s H hr) h
end
end DL

set_option Elab.async false
set_option linter.all false
set_option maxRecDepth 100000
set_option maxHeartbeats 4000000
namespace DL
open PySem PySem.Spec PyProof.Rows L2 GG DD PT
def DC.more (C : DC) (G' : V → PyData → Prop) : DC := { C with G := fun x y => C.G x y ∨ G' x y, gsub := fun x y h => .inl (C.gsub x y h) }
section
variable {C : DC} {σ : L2.St} {H : Hp} {s : DSt}
theorem Rl.more (R : Rl C σ H s) {G' : V → PyData → Prop} (h : ∀ v d, G' v d → Da C.K (Hd (Sof C σ s) H) v d) : Rl (C.more G') σ H s :=
  ⟨R.len, R.slots, R.nd, R.fr, R.dk, R.but, R.tk, fun x y z => z.elim (R.gh x y) (h x y), R.fz, fun a o h => ⟨(R.ob a o h).at_, (R.ob a o h).nd, (R.ob a o h).nt, (R.ob a o h).of_, (R.ob a o h).no⟩⟩
theorem Rl.less {G' : V → PyData → Prop} (R : Rl (C.more G') σ H s) : Rl C σ H s := ⟨R.len, R.slots, R.nd, R.fr, R.dk, R.but, R.tk, fun x y z => R.gh x y (.inl z), R.fz, fun a o h => ⟨(R.ob a o h).at_, (R.ob a o h).nd, (R.ob a o h).nt, (R.ob a o h).of_, (R.ob a o h).no⟩⟩
end
/-- data, or (w) a tuple of data that was made on the way -/
def DaF (w : Bool) (K : PySem.W.Frag) (S : Addr → Prop) (H : Hp) (v : V) (d : PyData) : Prop := Da K (Hd S H) v d ∨ (w = true ∧ ∃ a vs ds, v = .ref a ∧ d = .tuple ds ∧ SqT K H a vs ∧ DaAll K (Hd S H) vs ds)
theorem DaF.da {K : PySem.W.Frag} {S : Addr → Prop} {H : Hp} {v : V} {d : PyData} (h : DaF false K S H v d) : Da K (Hd S H) v d := h.elim id fun z => by cases z.1
theorem DaF.tup {w : Bool} {K : PySem.W.Frag} {S : Addr → Prop} {H : Hp} {v : V} {ds : List PyData} (h : DaF w K S H v (.tuple ds)) : ∃ a vs, v = .ref a ∧ SqT K H a vs ∧ DaAll K (Hd S H) vs ds := by
  rcases h with h | ⟨_, a, vs, es, e1, e2, h1, h2⟩
  · exact da_tup h
  · cases e2
    exact ⟨a, vs, e1, h1, h2⟩
/-- an iterator yields these items, as long as the data of G' stands -/
def ItOk (w : Bool) (K : KX) (G' : V → PyData → Prop) (Z' : Addr → HO → Prop) (J : It) (items : List PyData) : Prop := ∀ C : DC, C.K = K → (∀ v d, G' v d → C.G v d) → (∀ a o, Z' a o → C.Z a o) → ∀ (σ : L2.St) (H : Hp) (s : DSt), Rl C σ H s → J.stop items.length H ∧
  ∀ (i : Nat) (d : PyData), items[i]? = some d → J.go i H ∧ ∀ x H', J.yld i H x H' → Rl C σ H' s ∧ Same H H' ∧ DaF w C.K (Sof C σ s) H' x d
def XI (w : Bool) (C : DC) (wi : TI) (s : DSt) (P : List PyData → DSt → Prop) : Prop := ∀ (σ : L2.St) (H : Hp) (R0 : It → Hp → Prop), Rl C σ H s → (∀ J H' items s' G' Z', P items s' → Rl (C.more G') σ H' s' → (∀ a o, Z' a o → C.Z a o) → ItOk w C.K G' Z' J items → R0 J H') → wi σ H R0
def RI (w : Bool) (K : KX) (wi : TI) (di : DA) : Prop := ∀ C : DC, C.K = K → ∀ s P, di s P → XI w C wi s P
variable {K : KX}
theorem ri_list {te : TE} {de : DE} (h : RE K te de) : RI false K (iList K te) (dAsL de) := fun C hC s P hd σ H R0 R q =>
  rd_ilist (h C hC s _ hd σ H _ R fun v H1 d s1 hp R1 hv => by
    cases d with
    | list ds =>
      obtain ⟨a, vs, rfl, k1, k2⟩ := da_list hv
      refine ⟨a, rfl, ⟨vs, sq k1⟩, q _ H1 ds s1 (fun x y => x = .ref a ∧ y = .list ds) (fun _ _ => False) hp (R1.more fun x y z => by
        obtain ⟨rfl, rfl⟩ := z
        exact hv) (fun _ _ z => z.elim) ?_⟩
      intro C' hK hG _ σ' H' s' R'
      obtain ⟨b, us, e, k3, k4⟩ := da_list (R'.gh _ _ (hG _ _ ⟨rfl, rfl⟩))
      cases e
      refine ⟨⟨us, sq k3, by rw [k4.len]; exact Nat.le_refl _⟩, fun i d hi => ?_⟩
      obtain ⟨u, hu, hud⟩ := k4.getD hi
      refine ⟨⟨us, u, sq k3, hu⟩, fun x H2 hy => ?_⟩
      obtain ⟨rfl, hy⟩ := hy
      have e := hy us (sq k3)
      rw [hu] at e
      cases e
      exact ⟨R', Same.refl _, .inl hud⟩
    | _ => exact hp.elim)
theorem ri_tup {te : TE} {de : DE} (h : RE K te de) : RI false K (iTup K te) (dAsU de) := fun C hC s P hd σ H R0 R q => by
  refine h C hC s _ hd σ H _ R fun v H1 d s1 hp R1 hv => ?_
  cases d with
  | tuple ds =>
    obtain ⟨a, vs, rfl, k1, k2⟩ := da_tup hv
    subst hC
    refine ⟨a, rfl, ⟨vs, k1⟩, q _ H1 ds s1 (fun x y => x = .ref a ∧ y = .tuple ds) (fun _ _ => False) hp (R1.more fun x y z => by
      obtain ⟨rfl, rfl⟩ := z
      exact hv) (fun _ _ z => z.elim) ?_⟩
    intro C' hK hG _ σ' H' s' R'
    obtain ⟨b, us, e, k3, k4⟩ := da_tup (R'.gh _ _ (hG _ _ ⟨rfl, rfl⟩))
    cases e
    rw [hK] at k3
    refine ⟨⟨us, k3, by rw [k4.len]; exact Nat.le_refl _⟩, fun i d hi => ?_⟩
    obtain ⟨u, hu, hud⟩ := k4.getD hi
    refine ⟨⟨us, u, k3, hu⟩, fun x H2 hy => ?_⟩
    obtain ⟨rfl, hy⟩ := hy
    have e := hy us k3
    rw [hu] at e
    cases e
    exact ⟨R', Same.refl _, .inl hud⟩
  | _ => exact hp.elim
def rngD (lo : Int) (n : Nat) : List PyData := (List.range n).map fun k => .int (lo + (k : Nat))
theorem it_rng (lo : Int) (n : Nat) : ItOk false K (fun _ _ => False) (fun _ _ => False) (Itr lo n) (rngD lo n) := fun C hK hG _ σ H s R => by
  unfold rngD
  refine ⟨by rw [List.length_map, List.length_range]; exact Nat.le_refl n, fun i d hi => ?_⟩
  rw [List.getElem?_map] at hi
  have hlt : i < n := by
    cases e : (List.range n)[i]? with
    | none => rw [e] at hi; cases hi
    | some k =>
      have := (List.getElem?_eq_some_iff.mp e).1
      rw [List.length_range] at this
      exact this
  rw [List.getElem?_range hlt] at hi
  cases hi
  refine ⟨hlt, fun x H' hy => ?_⟩
  obtain ⟨rfl, rfl⟩ := hy
  exact ⟨R, Same.refl _, .inl (.int _)⟩
def dRng1 (de : DE) : DA := fun s P => de s fun d s1 => match d with
  | .int j => -(2 ^ 62) ≤ j ∧ j < 2 ^ 62 ∧ P (rngD 0 j.toNat) s1
  | _ => False
theorem ri_rng1 {te : TE} {de : DE} (h : RE K te de) : RI false K (iRng1 (tCons te tNil)) (dRng1 de) := fun C hC s P hd σ H R0 R q =>
  rd_rng1 (rd_cons (h C hC s _ hd σ H _ R fun v H1 d s1 hp R1 hv => by
    cases d with
    | int j =>
      cases hv
      exact rd_nil ⟨j, rfl, hp.1, hp.2.1, q _ H1 _ s1 (fun _ _ => False) (fun _ _ => False) hp.2.2 (R1.more fun _ _ z => z.elim) (fun _ _ z => z.elim) (it_rng 0 _)⟩
    | _ => exact hp.elim))
/-- enumerate(xs) -/
def enumD (ds : List PyData) : List PyData := ds.zipIdx.map fun p => .tuple [.int (p.2 : Nat), p.1]
theorem enum_get {ds : List PyData} {i : Nat} {d : PyData} (h : (enumD ds)[i]? = some d) : ∃ x, ds[i]? = some x ∧ d = .tuple [.int (i : Nat), x] := by
  unfold enumD at h
  rw [List.getElem?_map, List.getElem?_zipIdx] at h
  cases e : ds[i]? with
  | none => rw [e] at h; cases h
  | some x =>
    rw [e] at h
    exact ⟨x, rfl, by simpa using h.symm⟩
theorem enum_len {ds : List PyData} : (enumD ds).length = ds.length := by unfold enumD; rw [List.length_map, List.length_zipIdx]
abbrev DG := PyData → (DSt → Prop) → DSt → Prop
def RG (w : Bool) (K : KX) (g : TG) (dg : DG) : Prop := ∀ C : DC, C.K = K → ∀ (d : PyData) (N : DSt → Prop) (s : DSt), dg d N s → ∀ (σ : L2.St) (H : Hp) (v : V) (N0 : L2.St → Hp → Prop), Rl C σ H s → DaF w C.K (Sof C σ s) H v d → (∀ σ' s', N s' → Rl C σ' H s' → N0 σ' H) → g v σ H N0
def gdN (i : Nat) : DG := fun d N s => N ⟨s.sl.set i (.dat d), s.n⟩
theorem rg_name {i : Nat} : RG false K (gName i) (gdN i) := fun C hC d N s h σ H v N0 R hv q => q _ _ h (R.set hv.da)
abbrev DGs := List PyData → (DSt → Prop) → DSt → Prop
def RGs (K : KX) (g : TGs) (dg : DGs) : Prop := ∀ C : DC, C.K = K → ∀ (ds : List PyData) (N : DSt → Prop) (s : DSt), dg ds N s → ∀ (σ : L2.St) (H : Hp) (vs : List V) (N0 : L2.St → Hp → Prop), Rl C σ H s → DaAll C.K (Hd (Sof C σ s) H) vs ds → (∀ σ' s', N s' → Rl C σ' H s' → N0 σ' H) → g vs σ H N0
def gdNil : DGs := fun ds N s => ds = [] ∧ N s
def gdCons (a : DG) (b : DGs) : DGs := fun ds N s => match ds with
  | d :: r => a d (fun s1 => b r N s1) s
  | [] => False
theorem rgs_nil : RGs K gNil gdNil := fun C hC ds N s h σ H vs N0 R hv q => by
  obtain ⟨rfl, h⟩ := h
  cases hv
  exact ⟨rfl, q _ _ h R⟩
def pairG (vs : List V) (ds : List PyData) : V → PyData → Prop := fun x y => ∃ i : Nat, vs[i]? = some x ∧ ds[i]? = some y
theorem pair_da {H : Hp} : ∀ {vs : List V} {ds : List PyData}, DaAll K H vs ds → ∀ x y, pairG vs ds x y → Da K H x y := fun h x y ⟨i, h1, h2⟩ => by
  obtain ⟨d, e, hd⟩ := h.get h1
  rw [h2] at e
  cases e
  exact hd
theorem da_pair {H : Hp} : ∀ {vs : List V} {ds : List PyData}, vs.length = ds.length → (∀ x y, pairG vs ds x y → Da K H x y) → DaAll K H vs ds
  | [], [], _, _ => .nil
  | v :: vs, d :: ds, hl, h => .cons (h v d ⟨0, rfl, rfl⟩) (da_pair (by simpa using hl) fun x y ⟨i, h1, h2⟩ => h x y ⟨i + 1, by simpa using h1, by simpa using h2⟩)
  | [], _ :: _, hl, _ => by cases hl
  | _ :: _, [], hl, _ => by cases hl
theorem rgs_cons {t : TG} {u : TGs} {a : DG} {b : DGs} (h1 : RG false K t a) (h2 : RGs K u b) : RGs K (gCons t u) (gdCons a b) := fun C hC ds N s h σ H vs N0 R hv q => by
  cases hv with
  | nil => exact h.elim
  | @cons v r d ds' hv hr =>
    refine ⟨v, r, rfl, ?_⟩
    refine h1 (C.more (pairG r ds')) hC d _ s h σ H v _ (R.more (pair_da hr)) (.inl hv) fun σ' s' hn R' => ?_
    refine h2 C hC ds' N s' hn σ' H r N0 R'.less (da_pair hr.len fun x y z => R'.gh x y (.inr z)) q
def gdTup (n : Nat) (g : DGs) : DG := fun d N s => match d with
  | .tuple ds => ds.length = n ∧ g ds N s
  | _ => False
theorem rg_tup {w : Bool} {n : Nat} {t : TGs} {g : DGs} (h : RGs K t g) : RG w K (gTup K n t) (gdTup n g) := fun C hC d N s hd σ H v N0 R hv q => by
  cases d with
  | tuple ds =>
    obtain ⟨a, vs, rfl, k1, k2⟩ := hv.tup
    exact ⟨a, vs, rfl, hC ▸ k1, by rw [k2.len]; exact hd.1, h C hC ds N s hd.2 σ H vs N0 R k2 q⟩
  | _ => exact hd.elim
def dLoop (g : DG) (b : DS) (E : DEnds) : List PyData → DSt → Prop
  | [], s => E.nx s
  | d :: ds, s => g d (fun s1 => b { nx := fun s2 => dLoop g b E ds s2, rt := E.rt, ro := E.ro, ct := fun s2 => dLoop g b E ds s2, bk := E.nx } s1) s
def dFor (di : DA) (g : DG) (b : DS) : DS := fun E s => di s fun items s1 => dLoop g b E items s1
theorem rs_for {w : Bool} {wi : TI} {g : TG} {tb : TS} {di : DA} {dg : DG} {db : DS} (hi : RI w K wi di) (hg : RG w K g dg) (hb : RS K tb db) : RS K (tFor wi g tb) (dFor di dg db) := fun C hC E s hd σ H D R o =>
  rd_for (hi C hC s _ hd σ H _ R fun J H1 items s1 G' Z' hp R1 hZ ok => by
    refine for_in items.length (fun i σ' H' => ∃ s', Rl (C.more G') σ' H' s' ∧ dLoop dg db E (items.drop i) s') ⟨s1, R1, hp⟩ (fun σ' H' ⟨s', R', h⟩ => ?_) fun i σ' H' hlt ⟨s', R', h⟩ => ?_
    · rw [List.drop_length] at h
      exact ⟨(ok (C.more G') rfl (fun _ _ z => .inr z) hZ σ' H' s' R').1, o.nx _ _ _ h R'.less⟩
    · obtain ⟨d, hd⟩ : ∃ d, items[i]? = some d := ⟨_, List.getElem?_eq_getElem hlt⟩
      obtain ⟨k1, k2⟩ := (ok (C.more G') rfl (fun _ _ z => .inr z) hZ σ' H' s' R').2 i d hd
      refine ⟨k1, fun N hN x H2 hy => ?_⟩
      obtain ⟨R2, s2, hx⟩ := k2 x H2 hy
      have e : items.drop i = d :: items.drop (i + 1) := by
        rw [List.drop_eq_getElem_cons hlt]
        rw [List.getElem?_eq_getElem hlt] at hd
        rw [Option.some.inj hd]
      rw [e] at h
      refine hg (C.more G') hC d _ s' h σ' H2 x _ R2 hx fun σ3 s3 h3 R3 => ?_
      exact hb (C.more G') hC _ s3 h3 σ3 H2 _ R3 ⟨fun σ4 H4 s4 h4 R4 => hN σ4 H4 ⟨s4, R4, h4⟩, fun σ4 v H4 d4 s4 h4 R4 hv => o.rt σ4 v H4 d4 s4 h4 R4.less hv, fun σ4 H4 s4 h4 R4 => o.nx σ4 H4 s4 h4 R4.less, fun σ4 H4 s4 h4 R4 => hN σ4 H4 ⟨s4, R4, h4⟩, fun σ4 H4 a s4 h4 R4 => o.ro σ4 H4 a s4 h4 R4.less⟩)
end DL

set_option Elab.async false
set_option linter.all false
set_option maxRecDepth 100000
set_option maxHeartbeats 4000000
namespace DL
open PySem PySem.Spec PyProof.Rows L2 GG DD PT
variable {K : KX}
section
variable {C : DC} {σ : L2.St} {H : Hp} {s : DSt}
/-- other slots over the same heap -/
theorem Rl.rewire {σ2 : L2.St} {δ2 : List DV} (R : Rl C σ H s) (hl : σ2.length = δ2.length)
    (h : ∀ (i : Nat) (dv : DV), δ2[i]? = some dv → (s.sl[i]? = some dv ∧ σ[i]? = σ2[i]?) ∨ (isOwn dv = false ∧ ∃ sl : Option V, σ2[i]? = some sl ∧ SlotOk C (Sof C σ s) H sl dv)) : Rl C σ2 H ⟨δ2, s.n⟩ ∧ Same (Hd (Sof C σ s) H) (Hd (Sof C σ2 ⟨δ2, s.n⟩) H) := by
  have key : ∀ {i : Nat} {dv : DV}, δ2[i]? = some dv → isOwn dv = true → s.sl[i]? = some dv ∧ σ[i]? = σ2[i]? := fun {i dv} h1 h2 => by
    rcases h i dv h1 with q | ⟨q, _⟩
    · exact q
    · rw [h2] at q
      cases q
  have hs : Same (Hd (Sof C σ s) H) (Hd (Sof C σ2 ⟨δ2, s.n⟩) H) := hd_mono fun b z => by
    rcases z with z | z | ⟨i, dv, z1, z2, z3⟩ | z
    · exact .inl z
    · exact .inr (.inl z)
    · obtain ⟨q1, q2⟩ := key z1 z2
      exact .inr (.inr (.inl ⟨i, dv, q1, z2, q2.trans z3⟩))
    · exact .inr (.inr (.inr z))
  refine ⟨⟨hl, fun i dv h1 => ?_, fun i j a dv ev h1 h2 h3 h4 h5 h6 => ?_, fun i a dv h1 h2 h3 => ?_, R.dk, R.but, R.tk, fun x y z => (R.gh x y z).of hs, R.fz, fun a o h => (R.ob a o h).move rfl rfl hs (fun _ u => u) (fun x y => ⟨x, y⟩) fun i dv h1 h2 h3 => by
    obtain ⟨q1, q2⟩ := key h1 h2
    exact (R.ob a o h).no i dv q1 h2 (q2.trans h3)⟩, hs⟩
  · rcases h i dv h1 with ⟨q1, q2⟩ | ⟨_, sl, q1, q2⟩
    · obtain ⟨sl, e1, e2⟩ := R.slots i dv q1
      exact ⟨sl, q2 ▸ e1, e2.move rfl rfl hs fun _ _ _ _ u => u⟩
    · exact ⟨sl, q1, q2.move rfl rfl hs fun _ _ _ _ u => u⟩
  · obtain ⟨q1, q2⟩ := key h1 h3
    obtain ⟨q3, q4⟩ := key h2 h4
    exact R.nd i j a dv ev q1 q3 h3 h4 (q2.trans h5) (q4.trans h6)
  · obtain ⟨q1, q2⟩ := key h1 h2
    exact R.fr i a dv q1 h2 (q2.trans h3)
def DC.hide (C : DC) (L : Addr) : DC := { C with ex := fun p b => C.ex p b ∨ b = L, sub := fun p b h => .inl (C.sub p b h) }
theorem sof_hide {L b : Addr} {δ : DSt} : Sof (C.hide L) σ δ b ↔ Sof C σ δ b ∨ b = L := by
  constructor
  · rintro ((h | h) | h | h)
    · exact .inl (.inl h)
    · exact .inr h
    · exact .inl (.inr (.inl h))
    · exact .inl (.inr (.inr h))
  · rintro ((h | h | h) | h)
    · exact .inl (.inl h)
    · exact .inr (.inl h)
    · exact .inr (.inr h)
    · exact .inl (.inr h)
/-- a new thing, hidden -/
theorem Rl.hidden (R : Rl C σ H s) {L : Addr} {o : HO} (nL : H L = none) : Rl (C.hide L) σ (upd H L o) s := by
  obtain ⟨n1, n2⟩ := R.new nL
  have hs : Same (Hd (Sof C σ s) H) (Hd (Sof (C.hide L) σ s) (upd H L o)) := fun b u e => by
    obtain ⟨h1, h3⟩ := hd_some e
    have hb : b ≠ L := ne_of_none h3 nL
    rw [hd_ne (fun z => (sof_hide.mp z).elim h1 hb), upd_ne hb]
    exact h3
  refine ⟨R.len, fun i dv h => ?_, R.nd, fun i a dv h1 h2 h3 => ?_, R.dk.same (same_upd nL), R.but.trans (ButW.of (same_upd nL)), fun b hb => ?_, fun x y z => (R.gh x y z).of hs, fun b u h => ⟨.inl (R.fz b u h).1, (R.fz b u h).2.1, by rw [upd_ne (ne_of_none (R.fz b u h).2.2 nL)]; exact (R.fz b u h).2.2⟩, fun b u h => (R.ob b u h).move rfl rfl hs (fun x hx => by rw [upd_ne (ne_of_none hx nL)]; exact hx) (fun x y => ⟨x, fun z => z.elim y fun z => by
    obtain ⟨w, hw⟩ := R.ob_at h
    exact ne_of_none hw nL z⟩) (R.ob b u h).no⟩
  · obtain ⟨sl, e1, e2⟩ := R.slots i dv h
    exact ⟨sl, e1, e2.move rfl rfl hs fun a ho ea u hu => by rw [upd_ne (ne_of_none hu nL)]; exact hu⟩
  · obtain ⟨f1, f2, f3⟩ := R.fr i a dv h1 h2 h3
    obtain ⟨u, hu⟩ := R.own_at h1 h2 h3
    exact ⟨f1, fun z => z.elim f2 (ne_of_none hu nL), f3⟩
  · rcases hb with hb | rfl
    · obtain ⟨u, hu⟩ := R.tk b hb
      exact ⟨u, by rw [upd_ne (ne_of_none hu nL)]; exact hu⟩
    · exact ⟨o, upd_same⟩
/-- what is hidden changes -/
theorem Rl.hmut {L : Addr} {o : HO} (R : Rl (C.hide L) σ H s) (nM : ¬ Mu C.W L) (n0 : C.H0 L = none) (nZ : ∀ u, ¬ C.Z L u) : Rl (C.hide L) σ (upd H L o) s := by
  have hL : Sof (C.hide L) σ s L := sof_hide.mpr (.inr rfl)
  have hs : Same (Hd (Sof (C.hide L) σ s) H) (Hd (Sof (C.hide L) σ s) (upd H L o)) := hd_upd hL
  refine ⟨R.len, fun i dv h => ?_, R.nd, R.fr, R.dk.upd nM, fun b u h1 h2 => ?_, fun b hb => ?_, fun x y z => (R.gh x y z).of hs, fun b u h => ⟨(R.fz b u h).1, (R.fz b u h).2.1, by rw [upd_ne (fun z : b = L => nZ u (z ▸ h))]; exact (R.fz b u h).2.2⟩, fun b u h => (R.ob b u h).move rfl rfl hs (fun x hx => by rw [upd_ne (fun z : b = L => (R.ob b u h).of_.elim (fun y => nM (z ▸ .inl (.inr y))) fun y => y.2 (.inr z))]; exact hx) (fun x y => ⟨x, y⟩) (R.ob b u h).no⟩
  · obtain ⟨sl, e1, e2⟩ := R.slots i dv h
    exact ⟨sl, e1, e2.move rfl rfl hs fun a ho ea u hu => by
      have f := (R.fr i a dv h ho (ea ▸ e1)).2.1
      rw [upd_ne (fun z => f (.inr z))]
      exact hu⟩
  · have hb : b ≠ L := fun z => by
      subst z
      have h2' : C.H0 b = some u := h2
      rw [n0] at h2'
      cases h2'
    rw [upd_ne hb]
    exact R.but b u h1 h2
  · by_cases e : b = L
    · subst e
      exact ⟨o, upd_same⟩
    · obtain ⟨u, hu⟩ := R.tk b hb
      exact ⟨u, by rw [upd_ne e]; exact hu⟩
def del (H : Hp) (L : Addr) : Hp := fun b => if b = L then none else H b
theorem del_ne {L b : Addr} (h : b ≠ L) : del H L b = H b := if_neg h
theorem del_upd {L : Addr} {o : HO} (h : H L = some o) : upd (del H L) L o = H := by
  funext b
  by_cases e : b = L
  · subst e
    rw [upd_same, h]
  · rw [upd_ne e, del_ne e]
/-- a hidden thing stays as it is -/
def DC.pin (C : DC) (L : Addr) (o : HO) : DC := { C with Z := fun a u => C.Z a u ∨ (a = L ∧ u = o), zsub := fun x y h => .inl (C.zsub x y h) }
theorem Rl.pin (R : Rl C σ H s) {L : Addr} {o : HO} (hS : C.S0 L) (nM : ¬ Mu C.W L) (e : H L = some o) : Rl (C.pin L o) σ H s :=
  ⟨R.len, fun i dv h => by
    obtain ⟨sl, e1, e2⟩ := R.slots i dv h
    exact ⟨sl, e1, e2.move (C' := C.pin L o) rfl rfl (Same.refl _) (fun _ _ _ _ u => u) fun a u z => .inl z⟩, R.nd, R.fr, R.dk, R.but, R.tk, R.gh, fun a u h => h.elim (R.fz a u) (fun z => by
    obtain ⟨rfl, rfl⟩ := z
    exact ⟨hS, nM, e⟩), fun a o h => (R.ob a o h).move rfl rfl (Same.refl _) (fun _ u => u) (fun x y => ⟨x, y⟩) (R.ob a o h).no⟩
/-- not a dict with tuple keys that is locked -/
def NotLk (o : HO) : Prop := (∀ od es, o ≠ .frz od (.dT es)) ∧ ∀ od es, o ≠ .frz od (.dK es)
theorem Rl.unpin {L : Addr} {o : HO} (R : Rl (C.pin L o) σ H s) (no : NotLk o := by exact ⟨fun _ _ h => (by cases h), fun _ _ h => (by cases h)⟩) : Rl C σ H s ∧ H L = some o := ⟨⟨R.len, fun i dv h => by
    obtain ⟨sl, e1, e2⟩ := R.slots i dv h
    refine ⟨sl, e1, ?_⟩
    cases dv with
    | lkd a ob kvs =>
      obtain ⟨h1, h2, od, es, h3, h4⟩ := e2
      rcases h2 with h2 | ⟨_, h2⟩
      · exact ⟨h1, h2, od, es, h3, h4⟩
      · exact absurd (h2.symm.trans h3) (no.1 od es)
    | lkk a ob kvs =>
      obtain ⟨h1, h2, od, es, h3, h4⟩ := e2
      rcases h2 with h2 | ⟨_, h2⟩
      · exact ⟨h1, h2, od, es, h3, h4⟩
      · exact absurd (h2.symm.trans h3) (no.2 od es)
    | un => trivial
    | dat d => exact e2
    | own ds => exact e2
    | arg _ ds => exact e2
    | argd _ ds => exact e2
    | owd kvs => exact e2
    | owt kvs => exact e2
    | owx w kvs => exact e2
    | exc a => exact e2
    | obj a => exact e2
    | deck => exact e2, R.nd, R.fr, R.dk, R.but, R.tk, R.gh, fun a u h => R.fz a u (.inl h), fun a o h => (R.ob a o h).move rfl rfl (Same.refl _) (fun _ u => u) (fun x y => ⟨x, y⟩) (R.ob a o h).no⟩, (R.fz L o (.inr ⟨rfl, rfl⟩)).2.2⟩
/-- what was hidden goes out of the way -/
theorem Rl.leave {L : Addr} (R : Rl (C.hide L) σ H s) (nS : ¬ C.S0 L) (nM : ¬ Mu C.W L) (n0 : C.H0 L = none) (hZ : ∀ a u, C.Z a u → C.S0 a) : Rl C σ (del H L) s ∧ Same (Hd (Sof (C.hide L) σ s) H) (Hd (Sof C σ s) (del H L)) := by
  have hs : Same (Hd (Sof (C.hide L) σ s) H) (Hd (Sof C σ s) (del H L)) := fun b u e => by
    obtain ⟨h1, h3⟩ := hd_some e
    have hb : b ≠ L := fun z => h1 (sof_hide.mpr (.inr z))
    rw [hd_ne (fun z => h1 (sof_hide.mpr (.inl z))), del_ne hb]
    exact h3
  refine ⟨⟨R.len, fun i dv h => ?_, R.nd, fun i a dv h1 h2 h3 => ?_, ?_, fun b u h1 h2 => ?_, fun b hb => ?_, fun x y z => (R.gh x y z).of hs, fun b u h => ⟨hZ b u h, (R.fz b u h).2.1, by rw [del_ne (fun z : b = L => nS (z ▸ hZ b u h))]; exact (R.fz b u h).2.2⟩, fun b u h => (R.ob b u h).move rfl rfl hs (fun x hx => by rw [del_ne (fun z : b = L => (R.ob b u h).of_.elim (fun y => nM (z ▸ .inl (.inr y))) fun y => y.2 (.inr z))]; exact hx) (fun x y => ⟨x, fun z => y (.inl z)⟩) (R.ob b u h).no⟩, hs⟩
  · obtain ⟨sl, e1, e2⟩ := R.slots i dv h
    refine ⟨sl, e1, e2.move rfl rfl hs fun a ho ea u hu => ?_⟩
    have f := (R.fr i a dv h ho (ea ▸ e1)).2.1
    rw [del_ne (fun z => f (.inr z))]
    exact hu
  · obtain ⟨f1, f2, f3⟩ := R.fr i a dv h1 h2 h3
    exact ⟨f1, fun z => f2 (.inl z), f3⟩
  · have d' : DkOk C.W H s.n.n := R.dk
    refine ⟨?_, fun t ht => ?_, fun c hc => ?_⟩
    · have d2 := d'.dk
      have nM2 : ¬ MuD C.W.dk L := fun z => nM (.inl (.inl z))
      show DkD C.W.dk (del H L) s.n.n
      generalize C.W.dk = wd at d2 nM2
      cases wd with
      | none => trivial
      | some w =>
        obtain ⟨⟨m, cs, h1, h2, h3⟩, h4⟩ := d2
        exact ⟨⟨m, cs, by rw [del_ne (fun e => nM2 (.inl e.symm))]; exact h1, by rw [del_ne (fun e => nM2 (.inr e.symm))]; exact h2, h3⟩, h4⟩
    · obtain ⟨ps, h1, h2⟩ := d'.tb t ht
      have ne : t ≠ L := fun e => nM (.inr (by rw [← e]; exact ht))
      exact ⟨ps, by rw [del_ne ne]; exact h1, h2⟩
    · have e : c ≠ L := fun z => nM (z ▸ .inl (.inr hc))
      obtain ⟨u, hu⟩ := d'.mo c hc
      exact ⟨u, by rw [del_ne e]; exact hu⟩
  · have hb : b ≠ L := fun z => by
      subst z
      rw [n0] at h2
      cases h2
    rw [del_ne hb]
    exact R.but b u h1 h2
  · have e : b ≠ L := fun z => nS (z ▸ hb)
    obtain ⟨u, hu⟩ := R.tk b (.inl hb)
    exact ⟨u, by rw [del_ne e]; exact hu⟩
end
def wipeD (sl : List DV) : List Nat → List DV
  | [] => sl
  | v :: vs => (wipeD sl vs).set v .un
theorem wipeD_len (sl : List DV) : ∀ vs : List Nat, (wipeD sl vs).length = sl.length
  | [] => rfl
  | v :: vs => by rw [wipeD, List.length_set, wipeD_len sl vs]
theorem wipeD_get (sl : List DV) (i : Nat) : ∀ vs : List Nat, (wipeD sl vs)[i]? = if i ∈ vs then (if i < sl.length then some .un else none) else sl[i]?
  | [] => by simp [wipeD]
  | v :: vs => by
    rw [wipeD, List.getElem?_set, wipeD_len, wipeD_get sl i vs]
    by_cases e : v = i
    · subst e
      simp
    · rw [if_neg e]
      have e' : i ≠ v := fun z => e z.symm
      simp [e']
theorem wipe_get (σ : L2.St) (i : Nat) : ∀ vs : List Nat, (wipe σ vs)[i]? = if i ∈ vs then (if i < σ.length then some none else none) else σ[i]?
  | [] => by simp [wipe]
  | v :: vs => by
    rw [wipe, List.getElem?_set, wipe_length, wipe_get σ i vs]
    by_cases e : v = i
    · subst e
      simp
    · rw [if_neg e]
      have e' : i ≠ v := fun z => e z.symm
      simp [e']
theorem wipe_set {σ : L2.St} {i : Nat} {v : Option V} {vs : List Nat} (h : i ∈ vs) : wipe (σ.set i v) vs = wipe σ vs := by
  apply List.ext_getElem?
  intro j
  rw [wipe_get, wipe_get, List.length_set]
  by_cases e : j ∈ vs
  · rw [if_pos e, if_pos e]
  · rw [if_neg e, if_neg e, List.getElem?_set_ne (fun z : i = j => e (by rw [← z]; exact h))]
section
variable {C : DC} {σ : L2.St} {H : Hp} {s : DSt}
theorem Rl.wiped (R : Rl C σ H s) (vs : List Nat) : Rl C (wipe σ vs) H ⟨wipeD s.sl vs, s.n⟩ ∧ Same (Hd (Sof C σ s) H) (Hd (Sof C (wipe σ vs) ⟨wipeD s.sl vs, s.n⟩) H) := by
  refine R.rewire (by rw [wipe_length, wipeD_len]; exact R.len) fun i dv h => ?_
  rw [wipeD_get] at h
  by_cases e : i ∈ vs
  · rw [if_pos e] at h
    by_cases hl : i < s.sl.length
    · rw [if_pos hl] at h
      cases h
      exact .inr ⟨rfl, none, by rw [wipe_get, if_pos e, if_pos (by rw [R.len]; exact hl)], trivial⟩
    · rw [if_neg hl] at h
      cases h
  · rw [if_neg e] at h
    exact .inl ⟨h, by rw [wipe_get, if_neg e]⟩
/-- the outer slots' data, to be kept -/
def outG (σ : L2.St) (δ : List DV) (vs : List Nat) : V → PyData → Prop := fun v d => ∃ i : Nat, i ∈ vs ∧ δ[i]? = some (.dat d) ∧ σ[i]? = some (some v)
theorem out_da (R : Rl C σ H s) (vs : List Nat) : ∀ v d, outG σ s.sl vs v d → Da C.K (Hd (Sof C σ s) H) v d := fun v d ⟨i, _, h2, h3⟩ => by
  obtain ⟨sl, e1, u, rfl, e2⟩ := R.slots i _ h2
  rw [h3] at e1
  cases e1
  exact e2
/-- no thing of one's own stands in these slots -/
def isLk : DV → Bool
  | .lkd _ _ _ => true
  | .lkk _ _ _ => true
  | .exc _ => true
  | _ => false
def isOb : DV → Bool
  | .obj _ => true
  | _ => false
def NoOwn (δ : List DV) (vs : List Nat) : Prop := ∀ i, i ∈ vs → ∀ dv, δ[i]? = some dv → isOwn dv = false ∧ isLk dv = false ∧ isOb dv = false
def noOwnB (δ : List DV) (vs : List Nat) : Bool := vs.all fun i => match δ[i]? with
  | some (.own _) => false
  | some (.arg _ _) => false
  | some (.argd _ _) => false
  | some (.owd _) => false
  | some (.owt _) => false
  | some (.owx _ _) => false
  | some (.lkd _ _ _) => false
  | some (.lkk _ _ _) => false
  | some (.exc _) => false
  | some (.obj _) => false
  | _ => true
theorem noOwn_of {δ : List DV} {vs : List Nat} (h : noOwnB δ vs = true) : NoOwn δ vs := fun i hi dv e => by
  have z := List.all_eq_true.mp h i hi
  rw [e] at z
  cases dv <;> first | exact ⟨rfl, rfl, rfl⟩ | cases z
theorem Rl.unwiped {δ : List DV} {n : GS} {vs : List Nat} (R : Rl C (wipe σ vs) H ⟨wipeD δ vs, n⟩) (hl : σ.length = δ.length) (no : NoOwn δ vs) (hg : ∀ v d, outG σ δ vs v d → C.G v d) (hv : ∀ (i : Nat) (dv : DV), δ[i]? = some dv → ∃ sl : Option V, σ[i]? = some sl ∧ (∀ d, dv = .dat d → ∃ v, sl = some v) ∧ (dv = .deck → ∃ p l, C.W.dk = some (p, l) ∧ sl = some (.ref p))) :
    Rl C σ H ⟨δ, n⟩ ∧ Same (Hd (Sof C (wipe σ vs) ⟨wipeD δ vs, n⟩) H) (Hd (Sof C σ ⟨δ, n⟩) H) := by
  refine R.rewire hl fun i dv h => ?_
  by_cases e : i ∈ vs
  · refine .inr ⟨(no i e dv h).1, ?_⟩
    obtain ⟨sl, e1, e2, e3⟩ := hv i dv h
    refine ⟨sl, e1, ?_⟩
    cases dv with
    | un => trivial
    | dat d =>
      obtain ⟨v, rfl⟩ := e2 d rfl
      exact ⟨v, rfl, R.gh v d (hg v d ⟨i, e, h, e1⟩)⟩
    | own ds => exact Bool.noConfusion (no i e _ h).1
    | arg _ ds => exact Bool.noConfusion (no i e _ h).1
    | argd _ ds => exact Bool.noConfusion (no i e _ h).1
    | owd ds => exact Bool.noConfusion (no i e _ h).1
    | owt ds => exact Bool.noConfusion (no i e _ h).1
    | owx w ds => exact Bool.noConfusion (no i e _ h).1
    | lkd a o ds => exact Bool.noConfusion (no i e _ h).2.1
    | lkk a o ds => exact Bool.noConfusion (no i e _ h).2.1
    | exc a => exact Bool.noConfusion (no i e _ h).2.1
    | obj a => exact Bool.noConfusion (no i e _ h).2.2
    | deck => exact e3 rfl
  · exact .inl ⟨by rw [wipeD_get, if_neg e]; exact h, by rw [wipe_get, if_neg e]⟩
theorem slots_hv (R : Rl C σ H s) : ∀ (i : Nat) (dv : DV), s.sl[i]? = some dv → ∃ sl : Option V, σ[i]? = some sl ∧ (∀ d, dv = .dat d → ∃ v, sl = some v) ∧ (dv = .deck → ∃ p l, C.W.dk = some (p, l) ∧ sl = some (.ref p)) := fun i dv h => by
  obtain ⟨sl, e1, e2⟩ := R.slots i dv h
  refine ⟨sl, e1, fun d e => ?_, fun e => ?_⟩
  · subst e
    obtain ⟨v, h1, _⟩ := e2
    exact ⟨v, h1⟩
  · subst e
    exact e2
end
def RGv (w : Bool) (K : KX) (vs : List Nat) (g : TG) (dg : DG) : Prop := ∀ C : DC, C.K = K → ∀ (d : PyData) (N : DSt → Prop) (s : DSt), dg d N s → ∀ (σ : L2.St) (H : Hp) (v : V) (N0 : L2.St → Hp → Prop), Rl C σ H s → DaF w C.K (Sof C σ s) H v d → (∀ σ' s', N s' → Rl C σ' H s' → wipe σ' vs = wipe σ vs → N0 σ' H) → g v σ H N0
theorem rgv_name {vs : List Nat} {i : Nat} (hi : i ∈ vs) : RGv false K vs (gName i) (gdN i) := fun C hC d N s h σ H v N0 R hv q => q _ _ h (R.set hv.da) (wipe_set hi)
def RGvs (K : KX) (ws : List Nat) (g : TGs) (dg : DGs) : Prop := ∀ C : DC, C.K = K → ∀ (ds : List PyData) (N : DSt → Prop) (s : DSt), dg ds N s → ∀ (σ : L2.St) (H : Hp) (vs : List V) (N0 : L2.St → Hp → Prop), Rl C σ H s → DaAll C.K (Hd (Sof C σ s) H) vs ds → (∀ σ' s', N s' → Rl C σ' H s' → wipe σ' ws = wipe σ ws → N0 σ' H) → g vs σ H N0
theorem rgvs_nil {ws : List Nat} : RGvs K ws gNil gdNil := fun C hC ds N s h σ H vs N0 R hv q => by
  obtain ⟨rfl, h⟩ := h
  cases hv
  exact ⟨rfl, q _ _ h R rfl⟩
theorem rgvs_cons {ws : List Nat} {t : TG} {u : TGs} {a : DG} {b : DGs} (h1 : RGv false K ws t a) (h2 : RGvs K ws u b) : RGvs K ws (gCons t u) (gdCons a b) := fun C hC ds N s h σ H vs N0 R hv q => by
  cases hv with
  | nil => exact h.elim
  | @cons v r d ds' hv hr =>
    refine ⟨v, r, rfl, ?_⟩
    refine h1 (C.more (pairG r ds')) hC d _ s h σ H v _ (R.more (pair_da hr)) (.inl hv) fun σ' s' hn R' hw => ?_
    exact h2 C hC ds' N s' hn σ' H r N0 R'.less (da_pair hr.len fun x y z => R'.gh x y (.inr z)) fun σ2 s2 hn2 R2 hw2 => q σ2 s2 hn2 R2 (hw2.trans hw)
theorem rgv_tup {w : Bool} {ws : List Nat} {n : Nat} {t : TGs} {g : DGs} (h : RGvs K ws t g) : RGv w K ws (gTup K n t) (gdTup n g) := fun C hC d N s hd σ H v N0 R hv q => by
  cases d with
  | tuple ds =>
    obtain ⟨a, vs, rfl, k1, k2⟩ := hv.tup
    exact ⟨a, vs, rfl, hC ▸ k1, by rw [k2.len]; exact hd.1, h C hC ds N s hd.2 σ H vs N0 R k2 q⟩
  | _ => exact hd.elim
/-- such a target's data side: monotone, and it changes these slots alone -/
structure GW (vs : List Nat) (g : DG) : Prop where
  mono : ∀ (d : PyData) (N N' : DSt → Prop) (s : DSt), (∀ s, N s → N' s) → g d N s → g d N' s
  w : ∀ (d : PyData) (N : DSt → Prop) (s : DSt), g d N s → g d (fun s2 => N s2 ∧ wipeD s2.sl vs = wipeD s.sl vs) s
structure GWs (vs : List Nat) (g : DGs) : Prop where
  mono : ∀ (d : List PyData) (N N' : DSt → Prop) (s : DSt), (∀ s, N s → N' s) → g d N s → g d N' s
  w : ∀ (d : List PyData) (N : DSt → Prop) (s : DSt), g d N s → g d (fun s2 => N s2 ∧ wipeD s2.sl vs = wipeD s.sl vs) s
theorem wipeD_set {sl : List DV} {i : Nat} {v : DV} {vs : List Nat} (h : i ∈ vs) : wipeD (sl.set i v) vs = wipeD sl vs := by
  apply List.ext_getElem?
  intro j
  rw [wipeD_get, wipeD_get, List.length_set]
  by_cases e : j ∈ vs
  · rw [if_pos e, if_pos e]
  · rw [if_neg e, if_neg e, List.getElem?_set_ne (fun z : i = j => e (by rw [← z]; exact h))]
theorem gw_name {vs : List Nat} {i : Nat} (h : i ∈ vs) : GW vs (gdN i) := ⟨fun d N N' s hN h' => hN _ h', fun d N s h' => ⟨h', wipeD_set h⟩⟩
theorem gws_nil {vs : List Nat} : GWs vs gdNil := ⟨fun d N N' s hN h' => ⟨h'.1, hN _ h'.2⟩, fun d N s h' => ⟨h'.1, h'.2, rfl⟩⟩
theorem gws_cons {vs : List Nat} {a : DG} {b : DGs} (h1 : GW vs a) (h2 : GWs vs b) : GWs vs (gdCons a b) := ⟨fun d N N' s hN h' => by
    cases d with
    | nil => exact h'.elim
    | cons d r => exact h1.mono d _ _ s (fun s1 h => h2.mono r N N' s1 hN h) h', fun d N s h' => by
    cases d with
    | nil => exact h'.elim
    | cons d r =>
      refine h1.mono d _ _ s (fun s1 h => ?_) (h1.w d _ s h')
      exact h2.mono r _ _ s1 (fun s2 z => ⟨z.1, z.2.trans h.2⟩) (h2.w r N s1 h.1)⟩
theorem gw_tup {vs : List Nat} {n : Nat} {g : DGs} (h : GWs vs g) : GW vs (gdTup n g) := ⟨fun d N N' s hN h' => by
    cases d with
    | tuple ds => exact ⟨h'.1, h.mono ds N N' s hN h'.2⟩
    | _ => exact h'.elim, fun d N s h' => by
    cases d with
    | tuple ds => exact ⟨h'.1, h.w ds N s h'.2⟩
    | _ => exact h'.elim⟩
def dYes : DT := fun s P => P true s
theorem rt_yes : RT K tYes dYes := fun C hC s P h σ H Q R q => q true H s h R
def dLc (g : DG) (t : DT) (e : DE) (base : List DV) : List PyData → List PyData → GS → (List PyData → GS → Prop) → Prop
  | [], acc, n, P => P acc n
  | d :: ds, acc, n, P => g d (fun s1 => t s1 fun b s2 => if b = true then e s2 fun y s3 => s3.sl = s1.sl ∧ dLc g t e base ds (acc ++ [y]) s3.n P else s2.sl = s1.sl ∧ dLc g t e base ds acc s2.n P) ⟨base, n⟩
def dComp (di : DA) (g : DG) (t : DT) (e : DE) (vs : List Nat) : DA := fun s P => di s fun items s1 => items.length ≤ 1000 ∧ noOwnB s1.sl vs = true ∧ dLc g t e (wipeD s1.sl vs) items [] s1.n fun acc n => P acc ⟨s1.sl, n⟩
theorem rf_comp {w : Bool} {wi : TI} {g : TG} {tt : TT} {te : TE} {vs : List Nat} {di : DA} {dg : DG} {dt : DT} {de : DE} (hi : RI w K wi di) (hg : RGv w K vs g dg) (hgw : GW vs dg) (ht : RT K tt dt) (he : RE K te de) : RF K (tLc wi g tt te vs) (dComp di dg dt de vs) := fun C hC s P hd σ H Q R q =>
  rd_lc (hi C hC s _ hd σ H _ R fun J H1 items s1 G' Z' hp R1 hZ' ok => by
    obtain ⟨hlen, no, hp⟩ := hp
    have no := noOwn_of no
    have hv := slots_hv R1
    generalize hC1 : (C.more G').more (outG σ s1.sl vs) = C1
    have cK : C1.K = C.K := by rw [← hC1]; rfl
    have cG : ∀ v d, G' v d → C1.G v d := fun v d z => by rw [← hC1]; exact .inl (.inr z)
    have cO : ∀ v d, outG σ s1.sl vs v d → C1.G v d := fun v d z => by rw [← hC1]; exact .inr z
    have R1' : Rl C1 σ H1 s1 := by rw [← hC1]; exact R1.more (out_da R1 vs)
    have cB : ∀ {H' : Hp} {s' : DSt}, Rl C1 σ H' s' → Rl C σ H' s' := fun {H' s'} z => by
      rw [← hC1] at z
      exact z.less.less
    have cW : C1.W = C.W := by rw [← hC1]; rfl
    have cS : ∀ s' : DSt, Sof C1 σ s' = Sof C σ s' := fun s' => by rw [← hC1]; rfl
    have cZ : ∀ a o, Z' a o → C1.Z a o := fun a o z => by rw [← hC1]; exact hZ' a o z
    clear hC1
    have idem : wipe (wipe σ vs) vs = wipe σ vs := by
      apply List.ext_getElem?
      intro j
      rw [wipe_get, wipe_get, wipe_length]
      by_cases e : j ∈ vs
      · rw [if_pos e, if_pos e]
      · rw [if_neg e, if_neg e]
    have idemD : wipeD (wipeD s1.sl vs) vs = wipeD s1.sl vs := by
      apply List.ext_getElem?
      intro j
      rw [wipeD_get, wipeD_get, wipeD_len]
      by_cases e : j ∈ vs
      · rw [if_pos e, if_pos e]
      · rw [if_neg e, if_neg e]
    refine lc_in items.length hlen (fun L i acc H' => H1 L = none ∧ ∃ ds n', Rl (C1.hide L) (wipe σ vs) H' ⟨wipeD s1.sl vs, n'⟩ ∧ DaAll C.K (Hd (Sof (C1.hide L) (wipe σ vs) ⟨wipeD s1.sl vs, n'⟩) H') acc ds ∧ dLc dg dt de (wipeD s1.sl vs) (items.drop i) ds n' fun acc n => P acc ⟨s1.sl, n⟩)
      (fun L nL => ⟨nL, [], s1.n, ((R1'.wiped vs).1).hidden nL, .nil, hp⟩) (fun L acc H' e1 ⟨nL, ds, n', R2, hda, h⟩ => ?_) fun L i acc H' hlt e1 ⟨nL, ds, n', R2, hda, h⟩ => ?_
    · obtain ⟨n1, n2⟩ := R1'.new nL
      rw [List.drop_length] at h
      refine ⟨(ok (C1.hide L) cK (fun v d z => cG v d z) cZ (wipe σ vs) H' ⟨_, n'⟩ R2).1, ?_⟩
      obtain ⟨R3, hs3⟩ := R2.leave (fun z => n1 (.inl z)) (fun z => n1 (.inr (.inl z))) n2 fun a u z => (R1'.fz a u z).1
      obtain ⟨R4, hs4⟩ := R3.unwiped R1.len no cO (cW ▸ hv)
      have hq := q L acc (del H' L) ds ⟨s1.sl, n'⟩ h (cB R4) (if_pos rfl) (by
        have z := (hda.of hs3).of hs4
        rw [cS] at z
        exact z)
      rw [del_upd e1] at hq
      exact hq
    · obtain ⟨n1, n2⟩ := R1'.new nL
      have nZ : ∀ u, ¬ C1.Z L u := fun u z => n1 (.inl (R1'.fz L u z).1)
      obtain ⟨d, hd⟩ : ∃ d, items[i]? = some d := ⟨_, List.getElem?_eq_getElem hlt⟩
      obtain ⟨k1, k2⟩ := (ok (C1.hide L) cK cG cZ (wipe σ vs) H' ⟨_, n'⟩ R2).2 i d hd
      refine ⟨k1, fun Pk Rk hPk hRk x H2 hy => ?_⟩
      obtain ⟨R3, s23, hx⟩ := k2 x H2 hy
      have e : items.drop i = d :: items.drop (i + 1) := by
        rw [List.drop_eq_getElem_cons hlt]
        rw [List.getElem?_eq_getElem hlt] at hd
        rw [Option.some.inj hd]
      rw [e] at h
      have h' := hgw.w d _ _ h
      -- the items so far are kept; the new list stays
      generalize hC2 : ((C1.hide L).pin L (.lst acc)).more (pairG acc ds) = C2
      have cK2 : C2.K = K := by rw [← hC2]; exact cK.trans hC
      have R3k : Rl C2 (wipe σ vs) H2 ⟨wipeD s1.sl vs, n'⟩ := by
        rw [← hC2]
        refine (R3.pin (.inr rfl) (fun z => n1 (.inr (.inl z))) (s23 _ _ e1)).more ?_
        have z := pair_da (hda.of (hdS s23))
        rw [← cK] at z
        exact z
      have down : ∀ {H4 : Hp} {δ : List DV} {m : GS}, Rl C2 (wipe σ vs) H4 ⟨δ, m⟩ → Rl (C1.hide L) (wipe σ vs) H4 ⟨δ, m⟩ ∧ H4 L = some (.lst acc) ∧ DaAll C.K (Hd (Sof (C1.hide L) (wipe σ vs) ⟨δ, m⟩) H4) acc ds := fun {H4 δ m} z => by
        rw [← hC2] at z
        refine ⟨z.less.unpin.1, z.less.unpin.2, ?_⟩
        have z2 := da_pair hda.len fun x y w => z.gh x y (.inr w)
        have z3 : DaAll C1.K (Hd (Sof (C1.hide L) (wipe σ vs) ⟨δ, m⟩) H4) acc ds := z2
        rw [cK] at z3
        exact z3
      have cS2 : ∀ (τ : L2.St) (δ : DSt), Sof C2 τ δ = Sof (C1.hide L) τ δ := fun τ δ => by rw [← hC2]; rfl
      have cx2 : ∀ m : GS, Sof C2 (wipe σ vs) ⟨wipeD s1.sl vs, m⟩ = Sof (C1.hide L) (wipe σ vs) ⟨wipeD s1.sl vs, m⟩ := fun m => cS2 _ _
      have cKx : C2.K = C.K := cK2.trans hC.symm
      have hx2 : DaF w C2.K (Sof C2 (wipe σ vs) ⟨wipeD s1.sl vs, n'⟩) H2 x d := by
        rw [cx2, cKx, ← cK]
        exact hx
      clear hC2
      refine hg C2 cK2 d _ ⟨_, n'⟩ h' (wipe σ vs) H2 x _ R3k hx2 fun σ2 s2 hn R4 hw => ?_
      obtain ⟨hn, hwD⟩ := hn
      have hwD : wipeD s2.sl vs = wipeD s1.sl vs := hwD.trans idemD
      have hww : wipe σ2 vs = wipe σ vs := hw.trans idem
      refine ⟨hww, ?_⟩
      have back : ∀ {H4 : Hp} {s4 : DSt}, Rl C2 σ2 H4 s4 → s4.sl = s2.sl → Rl C2 (wipe σ vs) H4 ⟨wipeD s1.sl vs, s4.n⟩ ∧ Same (Hd (Sof C2 σ2 s4) H4) (Hd (Sof C2 (wipe σ vs) ⟨wipeD s1.sl vs, s4.n⟩) H4) := fun {H4 s4} R5 e5 => by
        have w := R5.wiped vs
        rw [hww, e5, hwD] at w
        exact w
      refine ht C2 cK2 s2 _ hn σ2 H2 _ R4 fun b H3 s3 hb R5 => ?_
      cases b with
      | false =>
        refine pF (by decide) ?_
        have hb' : s3.sl = s2.sl ∧ dLc dg dt de (wipeD s1.sl vs) (items.drop (i + 1)) ds s3.n fun acc n => P acc ⟨s1.sl, n⟩ := by simpa using hb
        obtain ⟨R6, hs6⟩ := back R5 hb'.1
        obtain ⟨R7, eL, hacc⟩ := down R6
        exact hRk H3 eL ⟨nL, ds, s3.n, R7, hacc, hb'.2⟩
      | true =>
        refine pT rfl ?_
        have hb' := hb
        rw [if_pos rfl] at hb'
        refine he C2 cK2 s3 _ hb' σ2 H3 _ R5 fun y H4 dy s4 hy4 R6 hyd => ?_
        obtain ⟨R7, hs7⟩ := back R6 hy4.1
        obtain ⟨R8, eL, hacc⟩ := down R7
        have hL : Sof (C1.hide L) (wipe σ vs) ⟨wipeD s1.sl vs, s4.n⟩ L := sof_hide.mpr (.inr rfl)
        have hyd2 := hyd.of hs7
        rw [cx2, cKx] at hyd2
        exact hPk y H4 eL ⟨nL, ds ++ [dy], s4.n, R8.hmut (fun z => n1 (.inr (.inl z))) n2 nZ, (hacc.append (.cons hyd2 .nil)).of (hd_upd hL), hy4.2⟩)
end DL

set_option Elab.async false
set_option linter.all false
set_option maxRecDepth 100000
set_option maxHeartbeats 4000000
namespace DL
open PySem PySem.Spec PyProof.Rows L2 GG DD PT
variable {K : KX}
theorem own_at {C : DC} {σ : L2.St} {H : Hp} {s : DSt} (R : Rl C σ H s) {i : Nat} {ds : List PyData} (e : s.sl[i]? = some (.own ds)) : ∃ a vs, σ[i]? = some (some (V.ref a)) ∧ H a = some (.lst vs) ∧ DaAll C.K (Hd (Sof C σ s) H) vs ds := by
  obtain ⟨sl, h1, a, vs, rfl, h2, h3⟩ := R.slots i _ e
  exact ⟨a, vs, h1, h2, h3⟩
theorem own_mut {C : DC} {σ : L2.St} {H : Hp} {s : DSt} (R : Rl C σ H s) {i : Nat} {a : Addr} {ds es : List PyData} {us : List V} (e : s.sl[i]? = some (.own ds)) (h1 : σ[i]? = some (some (V.ref a))) (h : DaAll C.K (Hd (Sof C σ s) H) us es) :
    Rl C σ (upd H a (.lst us)) ⟨s.sl.set i (.own es), s.n⟩ ∧ Same (Hd (Sof C σ s) H) (Hd (Sof C σ ⟨s.sl.set i (.own es), s.n⟩) (upd H a (.lst us))) := by
  have R2 := R.mut (o := .lst us) (ev := .own es) e rfl rfl h1 fun hs => ⟨a, us, rfl, upd_same, h.of hs⟩
  refine ⟨R2, fun b u z => ?_⟩
  obtain ⟨z1, z2⟩ := hd_some z
  have sa : Sof C σ s a := .inr (.inr (.inl ⟨i, _, e, rfl, h1⟩))
  have hb : b ≠ a := fun w => z1 (w ▸ sa)
  have nb : ¬ Sof C σ ⟨s.sl.set i (.own es), s.n⟩ b := fun w => by
    rcases w with w | w | ⟨j, dv, w1, w2, w3⟩ | w
    · exact z1 (.inl w)
    · exact z1 (.inr (.inl w))
    · by_cases ej : i = j
      · subst ej
        rw [h1] at w3
        cases w3
        exact hb rfl
      · dsimp only at w1
        rw [List.getElem?_set_ne ej] at w1
        exact z1 (.inr (.inr (.inl ⟨j, dv, w1, w2, w3⟩)))
    · exact z1 (.inr (.inr (.inr w)))
  rw [hd_ne nb, upd_ne hb]
  exact z2
def isOwnL : Option DV → Prop
  | some (.own _) => True
  | _ => False
/-- x.append(e) -/
def dApp (i : Nat) (de : DE) : DS := fun E s => isOwnL s.sl[i]? ∧ de s fun d s1 => match s1.sl[i]? with
  | some (.own ds) => ds.length < 1000000 ∧ E.nx ⟨s1.sl.set i (.own (ds ++ [d])), s1.n⟩
  | _ => False
theorem ty_list {H : Hp} {a : Addr} {vs : List V} (e : H a = some (.lst vs)) : tyV K "list" (.ref a) H := .inl ⟨rfl, vs, sq e⟩
theorem own_first {C : DC} {σ : L2.St} {H : Hp} {s : DSt} (R : Rl C σ H s) {i : Nat} (h : isOwnL s.sl[i]?) : ∃ a vs, σ[i]? = some (some (V.ref a)) ∧ H a = some (.lst vs) := by
  cases e : s.sl[i]? with
  | none => rw [e] at h; exact h.elim
  | some dv =>
    cases dv with
    | own ds =>
      obtain ⟨a, vs, h1, h2, _⟩ := own_at R e
      exact ⟨a, vs, h1, h2⟩
    | _ => rw [e] at h; exact h.elim
theorem rs_app {i : Nat} {te : TE} {de : DE} (h : RE K te de) : RS K (tDrop (tBM K "list" rAppend (tVar i) (tCons te tNil))) (dApp i de) := fun C hC E s hd σ H D R o => by
  obtain ⟨a, vs, h1, h2⟩ := own_first R hd.1
  refine ⟨_, h1, ty_list h2, h C hC s _ hd.2 σ H _ R fun v H1 d s1 hp R1 hv => rd_nil ?_⟩
  cases e : s1.sl[i]? with
  | none => rw [e] at hp; exact hp.elim
  | some dv =>
    cases dv with
    | own ds =>
      rw [e] at hp
      obtain ⟨b, us, k1, k2, k3⟩ := own_at R1 e
      rw [h1] at k1
      cases k1
      refine ⟨a, us, v, rfl, rfl, k2, by rw [k3.len]; exact Nat.lt_of_lt_of_le hp.1 sz6, o.nx _ _ _ hp.2 (own_mut R1 e h1 (k3.append (.cons hv .nil))).1⟩
    | _ => rw [e] at hp; exact hp.elim
theorem DaAll.dropLast {H : Hp} {vs : List V} {ds : List PyData} (h : DaAll K H vs ds) : DaAll K H vs.dropLast ds.dropLast := by
  rw [List.dropLast_eq_take, List.dropLast_eq_take, h.len]
  exact h.take _
def boolsD : List PyData → Option (List Bool)
  | [] => some []
  | .bool b :: r => (boolsD r).map (b :: ·)
  | _ => none
theorem bools_da {H : Hp} : ∀ {vs : List V} {ds : List PyData} {bs : List Bool}, DaAll K H vs ds → boolsD ds = some bs → vs = bs.map V.bl
  | _, _, _, .nil, e => by cases e; rfl
  | _, _, bs, .cons (d := d) h t, e => by
    cases d with
    | bool b =>
      unfold boolsD at e
      obtain ⟨r, e1, e2⟩ := Option.map_eq_some_iff.mp e
      subst e2
      cases h
      rw [bools_da t e1]
      rfl
    | _ => cases e
def dAll (dl : DA) : DE := fun s P => dl s fun ds s1 => ∃ bs, boolsD ds = some bs ∧ P (.bool (bs.all id)) s1
theorem re_all {te : TE} {dl : DA} (h : RL K te dl) : RE K (tCB (rAll K) (tCons te tNil)) (dAll dl) := fun C hC s P hd σ H Q R q =>
  rd_cb (rd_cons (h C hC s _ hd σ H _ R fun a vs H1 ds s1 hp R1 e hv => rd_nil (by
    obtain ⟨bs, hb, hp⟩ := hp
    exact ⟨a, bs, rfl, by rw [← bools_da hv hb]; exact sq e, q _ H1 _ s1 hp R1 (.bl _)⟩)))
end DL

set_option Elab.async false
set_option linter.all false
set_option maxRecDepth 100000
set_option maxHeartbeats 4000000
namespace DL
open PySem PySem.Spec PyProof.Rows L2 GG DD PT
variable {K : KX}
/-- xs * k of a list -/
def dRep (da db : DE) : DA := fun s P => da s fun d s1 => db s1 fun e s2 => match d, e with
  | .list a, .int k => -(2 ^ 63) ≤ k ∧ k < 2 ^ 63 ∧ a.length * k.toNat ≤ 1000000 ∧ P (List.replicate k.toNat a).flatten s2
  | _, _ => False
theorem rf_rep {ta tb : TE} {da db : DE} (h1 : RE K ta da) (h2 : RE K tb db) : RF K (tOp rRep ta tb) (dRep da db) := fun C hC s P hd σ H Q R q =>
  rd_op (h1 C hC s _ hd σ H _ R fun v H1 d s1 hd1 R1 hv => h2 (C.keep v d) hC s1 _ hd1 σ H1 _ (R1.keep hv) fun w H2 e s2 hp R2 hw => by
    obtain ⟨R3, hv3⟩ := R2.kept
    split at hp
    · obtain ⟨a, vs, rfl, k1, k2⟩ := da_list hv3
      cases hw
      exact ⟨a, _, vs, rfl, rfl, k1, hp.1, hp.2.1, by rw [k2.len]; exact Nat.le_trans hp.2.2.1 sz6, fun p np => q p _ H2 _ s2 hp.2.2.2 R3 np (k2.rep _)⟩
    · exact hp.elim)
/-- the first key is no tuple -/
def headK : List (PyData × PyData) → Bool
  | [] => true
  | (.tuple _, _) :: _ => false
  | _ => true
theorem headK_dct {H : Hp} {es : List (List L2.Key × V)} {kvs : List (PyData × PyData)} (h : DaKt K H es kvs) (hn : es ≠ []) (e : headK kvs = true) : False := by
  cases h with
  | nil => exact hn rfl
  | cons h t => cases e
end DL

set_option Elab.async false
set_option linter.all false
set_option maxRecDepth 100000
set_option maxHeartbeats 4000000
namespace DL
open PySem PySem.Spec PyProof.Rows L2 GG DD PT
variable {K : KX}
/-- x in a list or tuple of flat things -/
def flatsD : List PyData → Option (List V)
  | [] => some []
  | d :: r => match flatD d, flatsD r with
    | some v, some vs => some (v :: vs)
    | _, _ => none
theorem flats_da {H : Hp} : ∀ {vs ws : List V} {ds : List PyData}, DaAll K H vs ds → flatsD ds = some ws → vs = ws
  | _, _, _, .nil, e => by cases e; rfl
  | _, _, _, .cons (d := d) (ds := ds) h t, e => by
    unfold flatsD at e
    cases e1 : flatD d with
    | none => rw [e1] at e; cases e
    | some x =>
      cases e2 : flatsD ds with
      | none => rw [e1, e2] at e; cases e
      | some xs =>
        rw [e1, e2] at e
        cases e
        rw [flat_v h e1, flats_da t e2]
def oIn (neg : Bool) : D2 := fun d e P => match flatD d, e with
  | some x, .list ds => ∃ vs, flatsD ds = some vs ∧ flatV x = true ∧ vs.all flatV = true ∧ P (.bool (if neg then !inV x vs else inV x vs))
  | some x, .tuple ds => ∃ vs, flatsD ds = some vs ∧ flatV x = true ∧ vs.all flatV = true ∧ P (.bool (if neg then !inV x vs else inV x vs))
  | _, _ => False
theorem ro_in {neg : Bool} : RO K (rIn K neg) (oIn neg) := fun S H x y d e P Q T hx hy h q => by
  unfold oIn at h
  split at h
  · rename_i z ds e1
    obtain ⟨vs, e2, h1, h2, hp⟩ := h
    obtain ⟨a, us, rfl, k1, k2⟩ := da_list hy
    have e3 := flats_da k2 e2
    subst e3
    have e4 := flat_v hx e1
    subst e4
    exact ⟨a, us, rfl, .inl (sq k1), h1, h2, q _ H _ hp (Same.refl _) (.bl _)⟩
  · rename_i z ds e1
    obtain ⟨vs, e2, h1, h2, hp⟩ := h
    obtain ⟨a, us, rfl, k1, k2⟩ := da_tup hy
    have e3 := flats_da k2 e2
    subst e3
    have e4 := flat_v hx e1
    subst e4
    exact ⟨a, us, rfl, .inr k1, h1, h2, q _ H _ hp (Same.refl _) (.bl _)⟩
  · exact h.elim
/-- (a, b, ..) = e -/
def dAsg (de : DE) (g : DG) : DS := fun E s => de s fun d s1 => g d E.nx s1
theorem rs_asg {te : TE} {g : TG} {de : DE} {dg : DG} (h : RE K te de) (hg : RG false K g dg) : RS K (tAsg te g) (dAsg de dg) := fun C hC E s hd σ H D R o =>
  h C hC s _ hd σ H _ R fun v H1 d s1 hp R1 hv => hg C hC d _ s1 hp σ H1 v _ R1 (.inl hv) fun σ' s' h' R' => o.nx σ' H1 s' h' R'
/-- a new list that was hidden becomes one's own -/
theorem Rl.adopt {C : DC} {σ : L2.St} {H : Hp} {s : DSt} {L : Addr} {vs : List V} {ds : List PyData} {i : Nat} (R : Rl (C.hide L) σ H s) (nS : ¬ C.S0 L) (nM : ¬ Mu C.W L) (n0 : C.H0 L = none) (hZ : ∀ a u, C.Z a u → C.S0 a) (e : H L = some (.lst vs)) (h : DaAll C.K (Hd (Sof (C.hide L) σ s) H) vs ds) (hi : i < s.sl.length) :
    Rl C (σ.set i (some (.ref L))) H ⟨s.sl.set i (.own ds), s.n⟩ := by
  obtain ⟨R2, hs⟩ := R.leave nS nM n0 hZ
  have z := R2.setOwn (i := i) (a := L) (o := .lst vs) (dv := .own ds) (if_pos rfl) hi rfl fun S' hs' => ⟨L, vs, rfl, upd_same, (h.of hs).of hs'⟩
  rw [del_upd e] at z
  exact z
/-- a, b = a new list, a new list -/
def dParLL (i j : Nat) (dl dm : DA) : DS := fun E s => dl s fun ds s1 => dm s1 fun es s2 => i < s2.sl.length ∧ j < s2.sl.length ∧ E.nx ⟨(s2.sl.set i (.own ds)).set j (.own es), s2.n⟩
theorem rs_parLL {i j : Nat} {te tf : TE} {dl dm : DA} (h : RF K te dl) (h2 : RF K tf dm) : RS K (tPar i j (tCons te (tCons tf tNil))) (dParLL i j dl dm) := fun C hC E s hd σ H D R o =>
  h C hC s _ hd σ H _ R fun a vs H1 ds s1 hd1 R1 na hv => by
    obtain ⟨n1, n2⟩ := R1.new na
    have R2 := (R1.hidden (o := .lst vs) na).pin (L := a) (.inr rfl) (fun z => n1 (.inr (.inl z))) upd_same
    have hs : Same (Hd (Sof C σ s1) H1) (Hd (Sof (C.hide a) σ s1) (upd H1 a (.lst vs))) := fun b u e => by
      obtain ⟨z1, z3⟩ := hd_some e
      have hb : b ≠ a := ne_of_none z3 na
      rw [hd_ne (fun z => (sof_hide.mp z).elim z1 hb), upd_ne hb]
      exact z3
    have R2' := R2.more (pair_da (hv.of hs))
    refine h2 (((C.hide a).pin a (.lst vs)).more (pairG vs ds)) hC s1 _ hd1 σ _ _ R2' fun b us H2 es s2 hp R3 nb hu => ⟨_, _, rfl, ?_⟩
    obtain ⟨R4, e4⟩ := R3.less.unpin
    have hds : DaAll C.K (Hd (Sof (C.hide a) σ s2) H2) vs ds := da_pair hv.len fun x y z => R3.gh x y (.inr z)
    have hus : DaAll C.K (Hd (Sof (C.hide a) σ s2) H2) us es := hu
    -- the second list's items are kept while the first is adopted
    have R5 := R4.more (pair_da hus)
    have R6 := Rl.adopt (C := C.more (pairG us es)) (i := i) R5 (fun z => n1 (.inl z)) (fun z => n1 (.inr (.inl z))) n2 (fun b u z => (R1.fz b u z).1) e4 hds hp.1
    have hu6 : DaAll C.K (Hd (Sof C (σ.set i (some (V.ref a))) ⟨s2.sl.set i (.own ds), s2.n⟩) H2) us es := da_pair hus.len fun x y z => R6.gh x y (.inr z)
    exact o.nx _ _ _ hp.2.2 (R6.less.setOwn nb (by rw [List.length_set]; exact hp.2.1) rfl fun S' hs' => ⟨b, us, rfl, upd_same, hu6.of hs'⟩)
theorem rs_tup2 {i j : Nat} {ta : TA} {da : DA} (h : RA K ta da) : RS K (tAsg (tTupP ta) (gTup K 2 (gCons (gName i) (gCons (gName j) gNil)))) (dPar i j da) := fun C hC E s hd σ H D R o =>
  rd_tupP (h C hC s _ hd σ H _ R fun vs H1 ds s1 hp R1 hv => by
    match ds, hp, hv with
    | [d, e], hp, .cons (v := v) h1 (.cons (v := w) h2 .nil) =>
      refine ⟨by show 2 ≤ sizeLine; decide, fun p ob np _ => rd_gnn (.inl (.inr ⟨ob, upd_same⟩)) ?_⟩
      have hk := same_upd (o := .frz ob (.tup [v, w])) np
      have R2 := ((R1.ext hk).keep (v := w) (h2.of (hdS hk))).set (i := i) (h1.of (hdS hk))
      obtain ⟨R3, h3⟩ := R2.kept
      exact o.nx _ _ _ hp (R3.set h3))
end DL

set_option Elab.async false
set_option linter.all false
set_option maxRecDepth 100000
set_option maxHeartbeats 4000000
namespace DL
open PySem PySem.Spec PyProof.Rows L2 GG DD PT
theorem keyV_reads {h : Heap} {k : L2.Key} {u : Value} (r : RelV (kV k) u) : Reads h u (keyD k) [] := by
  cases k with
  | inl i =>
    obtain ⟨t, rfl⟩ := (show ∃ t, u = Value.int i t from r)
    exact .int i t
  | inr x =>
    obtain ⟨t, rfl⟩ := (show ∃ t, u = Value.str x t from r)
    exact .str x t
theorem keys_read {h : Heap} : ∀ {k : List L2.Key} {us : List Value}, Vals (k.map kV) us → ReadsAll h us (k.map keyD) []
  | [], _, r => by
    cases r
    exact .nil
  | x :: k, _, r => by
    cases r with
    | cons r1 r2 => exact ReadsAll.cons (keyV_reads r1) (keys_read r2)
section
variable {X : Cx} {pins : List (Addr × Obj)} {σ : L2.St} {H : Hp} {s : Shared}
mutual
theorem Da.reads (I : Inv X pins σ H s) : ∀ (d : PyData) (v : V) (u : Value), Da X.K H v d → RelV v u → ∃ as, Reads s.heap u d as ∧ ((∀ zs, H sysModules ≠ some (.lst zs)) → sysModules ∉ as)
  | .none, _, _, h, r => by
    cases h
    cases r
    exact ⟨_, Reads.none, fun _ z => by cases z⟩
  | .bool b, _, _, h, r => by
    cases h
    cases r
    exact ⟨_, Reads.bool b, fun _ z => by cases z⟩
  | .int i, _, _, h, r => by
    cases h
    obtain ⟨t, rfl⟩ := r
    exact ⟨_, Reads.int i t, fun _ z => by cases z⟩
  | .str x, _, _, h, r => by
    cases h
    obtain ⟨t, rfl⟩ := r
    exact ⟨_, Reads.str x t, fun _ z => by cases z⟩
  | .list ds, _, _, h, r => by
    cases h with
    | @lst a xs _ hs ha =>
      cases r
      obtain ⟨its, rv, ⟨o, n, ho, hc, _, hd⟩, _⟩ := I.list (sq hs)
      obtain ⟨as, hr, hm⟩ := DaAll.reads I ds _ its ha rv
      refine ⟨_, Reads.list ho hc hd hr, fun hS z => ?_⟩
      rcases List.mem_cons.mp z with z | z
      · exact hS xs (z ▸ hs)
      · exact hm hS z
  | .tuple ds, _, _, h, r => by
    cases h with
    | tup hs ha =>
      cases r
      obtain ⟨its, rv, ⟨o, ho, hc, n, hd⟩, _⟩ := I.tuple hs.sq
      obtain ⟨as, hr, hm⟩ := DaAll.reads I ds _ its ha rv
      exact ⟨_, Reads.tuple ho hc hd hr, hm⟩
  | .dict ds, _, _, h, r => by
    cases h with
    | @dic a kvs _ h1 h2 =>
      cases r
      obtain ⟨hz, hs, us, rk, o, es, ep, ho, hx, hd, _, hp, _⟩ : kvs.length ≤ sizeLine ∧ (a == sysModules) = false ∧ ∃ vs, KV kvs vs ∧ s.heap.DictOf (mixKind X.prog X.w) a vs := I.hok a _ h1
      obtain ⟨as, q1, q2, hm⟩ := DaKv.reads I ds kvs us es.toList h2 hp rk
      refine ⟨_, Reads.dict ho hx.1 hd q1 q2, fun hS z => ?_⟩
      rcases List.mem_append.mp z with z | z
      · have e := List.mem_singleton.mp z
        rw [e, beq_self_eq_true] at hs
        cases hs
      · exact hm hS z
    | @dct a kvs _ h1 hn h2 =>
      cases r
      obtain ⟨hz, hs, xs, rk, o, es, ep, ho, hx, hd, hp, hk, hnd⟩ := dt_of I.hok h1
      obtain ⟨as, q1, q2, hm⟩ := DaKt.reads I ds kvs xs h2 rk
      have e1 : es.toList.map (·.key) = xs.map fun x => Value.ref x.2.1 := by rw [hp, List.map_map]; rfl
      have e2 : es.toList.map (·.val) = xs.map fun x => x.2.2 := by rw [hp, List.map_map]; rfl
      rw [← e1] at q1
      rw [← e2] at q2
      refine ⟨_, Reads.dict ho hx.1 hd q1 q2, fun hS z => ?_⟩
      rcases List.mem_append.mp z with z | z
      · have e := List.mem_singleton.mp z
        rw [e, beq_self_eq_true] at hs
        cases hs
      · exact hm hS z
theorem DaAll.reads (I : Inv X pins σ H s) : ∀ (ds : List PyData) (vs : List V) (us : List Value), DaAll X.K H vs ds → Vals vs us → ∃ as, ReadsAll s.heap us ds as ∧ ((∀ zs, H sysModules ≠ some (.lst zs)) → sysModules ∉ as)
  | [], _, _, h, r => by
    cases h
    cases r
    exact ⟨_, ReadsAll.nil, fun _ z => by cases z⟩
  | d :: ds, _, _, h, r => by
    cases h with
    | cons h1 h2 =>
      cases r with
      | cons r1 r2 =>
        obtain ⟨as, q1, m1⟩ := Da.reads I d _ _ h1 r1
        obtain ⟨bs, q2, m2⟩ := DaAll.reads I ds _ _ h2 r2
        exact ⟨_, ReadsAll.cons q1 q2, fun hS z => (List.mem_append.mp z).elim (m1 hS) (m2 hS)⟩
theorem DaKv.reads (I : Inv X pins σ H s) : ∀ (ds : List (PyData × PyData)) (kvs : List (L2.Key × V)) (us : List (L2.Key × Value)) (es : List DictEntry), DaKv X.K H kvs ds → Pairs (mixKind X.prog X.w) es us → KV kvs us →
    ∃ as, ReadsAll s.heap (es.map (·.key)) (ds.map (·.1)) [] ∧ ReadsAll s.heap (es.map (·.val)) (ds.map (·.2)) as ∧ ((∀ zs, H sysModules ≠ some (.lst zs)) → sysModules ∉ as)
  | [], _, _, _, h, hp, hk => by
    cases h
    cases hk
    cases hp
    exact ⟨_, .nil, .nil, fun _ z => by cases z⟩
  | (k', d) :: ds, _, _, _, h, hp, hk => by
    cases h with
    | cons h1 h2 =>
      cases hk with
      | cons k1 k2 =>
        cases hp with
        | cons p1 p2 p3 =>
          obtain ⟨ek, rv⟩ := k1
          obtain ⟨bs, q1, q2, m2⟩ := DaKv.reads I ds _ _ _ h2 p3 k2
          obtain ⟨as, q3, m1⟩ := Da.reads I d _ _ h1 (p2.symm ▸ rv)
          refine ⟨_, ReadsAll.cons (key_reads (by
            have y := p1
            rw [mixKind_is] at y
            rw [← ek] at y
            exact y)) q1, ReadsAll.cons q3 q2, fun hS z => (List.mem_append.mp z).elim (m1 hS) (m2 hS)⟩
theorem DaKt.reads (I : Inv X pins σ H s) : ∀ (ds : List (PyData × PyData)) (kvs : List (List L2.Key × V)) (xs : List (List L2.Key × Addr × Value)), DaKt X.K H kvs ds → KT H kvs xs →
    ∃ as, ReadsAll s.heap (xs.map fun x => Value.ref x.2.1) (ds.map (·.1)) [] ∧ ReadsAll s.heap (xs.map fun x => x.2.2) (ds.map (·.2)) as ∧ ((∀ zs, H sysModules ≠ some (.lst zs)) → sysModules ∉ as)
  | [], _, _, h, hk => by
    cases h
    cases hk
    exact ⟨_, .nil, .nil, fun _ z => by cases z⟩
  | (k', d) :: ds, _, _, h, hk => by
    cases h with
    | cons h1 h2 =>
      cases hk with
      | cons k1 k2 =>
        obtain ⟨ek, et, rv⟩ := k1
        obtain ⟨bs, q1, q2, m2⟩ := DaKt.reads I ds _ _ h2 k2
        obtain ⟨as, q3, m1⟩ := Da.reads I d _ _ h1 rv
        obtain ⟨its, rvs, ⟨o, ho, hc, n, hd⟩, _⟩ := I.tuple (.inl (.inl et))
        exact ⟨_, ReadsAll.cons (Reads.tuple ho hc hd (keys_read rvs)) q1, ReadsAll.cons q3 q2, fun hS z => (List.mem_append.mp z).elim (m1 hS) (m2 hS)⟩
end
end
/-- the written part has sys.modules, a dict -/
def SysK (K : PySem.W.Frag) : Prop := ∃ o, K.lookup sysModules = some o ∧ o.cls = .type "dict"
theorem SysK.no {X : Cx} {pins : List (Addr × Obj)} {σ : L2.St} {H : Hp} {s : Shared} (h : SysK X.K) (I : Inv X pins σ H s) : ∀ zs, H sysModules ≠ some (.lst zs) := fun zs e => by
  obtain ⟨o, h1, h2⟩ := h
  have h3 := I.kIn _ _ h1
  obtain ⟨_, its, n, _, h4⟩ : zs.length ≤ sizeLine ∧ ∃ (its : List Value) (n : Nat), Vals zs its ∧ s.heap.get? sysModules = some { cls := .type "list", data := .seq its.toArray n } := I.hok _ _ e
  rw [h3] at h4
  cases h4
  exact absurd (Value.type.inj h2) (by decide)
/-- repr(x), whatever is inside -/
def rReprA (K : PySem.W.Frag) : List V → Hp → VK → Prop := fun xs H Q => ∃ x d, xs = [x] ∧ Da K H x d ∧ d.showable = true ∧ d.depth ≤ 60 ∧ d.shown.length ≤ sizeLine ∧ Q (.str d.shown) H
section
variable {X : Cx}
theorem call_reprA {k : Nat} (hr : Rm k X.A) (sys : SysK X.K) : CallR X (.builtin "repr") (rReprA X.K) := by
  intro pins s σ H xs us Q I r h
  obtain ⟨x, d, rfl, hx, hs, hd, hz, q⟩ := h
  have hS := sys.no I
  obtain ⟨u, rfl, ru⟩ := vals1 r
  obtain ⟨as, hreads, hsm⟩ := Da.reads I d x u hx ru
  have hu := hr.room.un
  cases x with
  | non =>
    cases ru
    cases hreads
    exact PySem.P.repr_of_none ⟨.str _, H, I.tok _, ⟨_, rfl⟩, q⟩
  | bl b =>
    cases ru
    cases hreads
    refine PySem.P.repr_of_bool ⟨.str _, H, I.tok _, ⟨_, rfl⟩, ?_⟩
    simp only [PyData.shown] at q
    exact q
  | int i =>
    obtain ⟨t, rfl⟩ := ru
    cases hreads
    simp only [PyData.shown] at q
    exact PySem.P.repr_of_int (by simpa [PyData.showable] using hs) ⟨.str _, H, I.tok _, ⟨_, rfl⟩, q⟩
  | str y =>
    obtain ⟨t, rfl⟩ := ru
    cases hreads
    simp only [PyData.shown] at q hz
    exact PySem.P.repr_of_str ⟨.str _, H, I.tok _, ⟨_, rfl⟩, q⟩ hz
  | byt y =>
    obtain ⟨t, rfl⟩ := ru
    cases hreads
  | flt y =>
    obtain ⟨t, rfl⟩ := ru
    cases hreads
  | ty y =>
    cases ru
    cases hreads
  | ref a =>
    cases ru
    exact repr_of_reads' hreads hs (fun _ => hsm hS) hr.plain (by omega) (fun _ _ e => e) (fun h' u tk hk => ⟨.str _, H, I.kept hk, ⟨u, rfl⟩, q⟩) hz
end
/-- data whose repr can be taken -/
structure Shows (d : PyData) : Prop where
  sh : d.showable = true
  dp : d.depth ≤ 60
  sz : d.shown.length ≤ sizeLine
variable {K : KX}
def dReprA (de : DE) : DE := fun s P => de s fun d s1 => Shows d ∧ P (.str d.shown) s1
theorem re_reprA {te : TE} {de : DE} (h : RE K te de) : RE K (tCB (rReprA K) (tCons te tNil)) (dReprA de) := fun C hC s P hd σ H Q R q =>
  rd_cb (rd_cons (h C hC s _ hd σ H _ R fun v H1 d s1 hp R1 hv => by
    subst hC
    exact rd_nil ⟨v, d, rfl, hv.of (hd_sub _ H1), hp.1.sh, hp.1.dp, hp.1.sz, q _ H1 _ s1 hp.2 R1 (.str _)⟩))
end DL

set_option Elab.async false
set_option linter.all false
set_option maxRecDepth 100000
set_option maxHeartbeats 4000000
namespace DL
open PySem PySem.Spec PyProof.Rows L2 GG DD PT
variable {K : PySem.W.Frag}
def kOf : PyData → Option L2.Key
  | .int i => some (.inl i)
  | .str x => some (.inr x)
  | _ => none
theorem kOf_keyD (k : L2.Key) : kOf (keyD k) = some k := by cases k <;> rfl
theorem key_v {H : Hp} {v : V} {d : PyData} {k : L2.Key} (h : Da K H v d) (e : kOf d = some k) : v = kV k := by
  cases d with
  | int i => cases h; cases e; rfl
  | str x => cases h; cases e; rfl
  | _ => cases e
def dgetD : List (PyData × PyData) → L2.Key → Option PyData
  | [], _ => none
  | p :: r, k => if kOf p.1 = some k then some p.2 else dgetD r k
def dputD (kvs : List (PyData × PyData)) (k : L2.Key) (d : PyData) : List (PyData × PyData) :=
  if (dgetD kvs k).isSome = true then kvs.map (fun p => if kOf p.1 = some k then (p.1, d) else p) else kvs ++ [(keyD k, d)]
def mergeD (kvs : List (PyData × PyData)) (more : List (L2.Key × PyData)) : List (PyData × PyData) := more.foldl (fun acc kv => dputD acc kv.1 kv.2) kvs
theorem get_da {H : Hp} (k : L2.Key) : ∀ {es : List (L2.Key × V)} {kvs : List (PyData × PyData)}, DaKv K H es kvs → (valV es k = none ∧ dgetD kvs k = none) ∨ ∃ v d, valV es k = some v ∧ dgetD kvs k = some d ∧ Da K H v d
  | _, _, .nil => .inl ⟨rfl, rfl⟩
  | _, _, .cons (k := k') (v := v) (r := r) (d := d) (ds := ds) h t => by
    by_cases e : k' = k
    · refine .inr ⟨v, d, valV_pos (p := (k', v)) e, ?_, h⟩
      unfold dgetD
      rw [kOf_keyD, e, if_pos rfl]
    · have e2 : ¬ kOf (keyD k') = some k := fun z => e (by rw [kOf_keyD] at z; exact Option.some.inj z)
      have e3 : dgetD ((keyD k', d) :: ds) k = dgetD ds k := by
        show (if kOf (keyD k') = some k then some d else dgetD ds k) = _
        rw [if_neg e2]
      rw [valV_neg (p := (k', v)) e, e3]
      exact get_da k t
theorem put_map {H : Hp} (k : L2.Key) {v : V} {d : PyData} (hd : Da K H v d) : ∀ {es : List (L2.Key × V)} {kvs : List (PyData × PyData)}, DaKv K H es kvs → DaKv K H (es.map fun kv => if kv.1 = k then (kv.1, v) else kv) (kvs.map fun p => if kOf p.1 = some k then (p.1, d) else p)
  | _, _, .nil => .nil
  | _, _, .cons (k := k') (v := v') (d := d') h t => by
    rw [List.map_cons, List.map_cons]
    by_cases e : k' = k
    · have e2 : kOf (keyD k') = some k := by rw [kOf_keyD, e]
      show DaKv K H ((if k' = k then (k', v) else (k', v')) :: _) ((if kOf (keyD k') = some k then (keyD k', d) else (keyD k', d')) :: _)
      rw [if_pos e, if_pos e2]
      exact .cons hd (put_map k hd t)
    · have e2 : ¬ kOf (keyD k') = some k := fun z => e (by rw [kOf_keyD] at z; exact Option.some.inj z)
      show DaKv K H ((if k' = k then (k', v) else (k', v')) :: _) ((if kOf (keyD k') = some k then (keyD k', d) else (keyD k', d')) :: _)
      rw [if_neg e, if_neg e2]
      exact .cons h (put_map k hd t)
theorem DaKv.append {H : Hp} : ∀ {es fs : List (L2.Key × V)} {a b : List (PyData × PyData)}, DaKv K H es a → DaKv K H fs b → DaKv K H (es ++ fs) (a ++ b)
  | _, _, _, _, .nil, h => h
  | _, _, _, _, .cons h t, k => .cons h (t.append k)
theorem DaKv.len {H : Hp} : ∀ {es : List (L2.Key × V)} {a : List (PyData × PyData)}, DaKv K H es a → es.length = a.length
  | _, _, .nil => rfl
  | _, _, .cons _ t => by rw [List.length_cons, List.length_cons, t.len]
theorem put_da {H : Hp} {es : List (L2.Key × V)} {kvs : List (PyData × PyData)} {k : L2.Key} {v : V} {d : PyData} (h : DaKv K H es kvs) (hd : Da K H v d) : DaKv K H (putK es k v) (dputD kvs k d) := by
  unfold putK dputD
  rw [valV_any]
  rcases get_da k h with ⟨e1, e2⟩ | ⟨v', d', e1, e2, _⟩
  · rw [e1, e2, if_neg (by decide), if_neg (by decide)]
    exact h.append (.cons hd .nil)
  · rw [e1, e2, if_pos (show (some v').isSome = true from rfl), if_pos (show (some d').isSome = true from rfl)]
    exact put_map k hd h
theorem merge_da {H : Hp} : ∀ {more : List (L2.Key × V)} {mored : List (L2.Key × PyData)} {es : List (L2.Key × V)} {kvs : List (PyData × PyData)}, Paired (fun (a : L2.Key × V) (b : L2.Key × PyData) => a.1 = b.1 ∧ Da K H a.2 b.2) more mored → DaKv K H es kvs → DaKv K H (mergeK es more) (mergeD kvs mored)
  | _, _, _, _, .nil, h => h
  | _, _, _, _, .cons (a := a) (b := b) q t, h => by
    obtain ⟨e, hd⟩ := q
    show DaKv K H (mergeK (putK _ a.1 a.2) _) (mergeD (dputD _ b.1 b.2) _)
    refine merge_da t ?_
    rw [e]
    exact put_da h hd
/-- the pairs (key, value) of a list -/
def pairsD : List PyData → Option (List (L2.Key × PyData))
  | [] => some []
  | .tuple [k, d] :: r => match kOf k, pairsD r with
    | some k', some r' => some ((k', d) :: r')
    | _, _ => none
  | _ => none
theorem pairs_da {S : Addr → Prop} {H : Hp} : ∀ {vs : List V} {ds : List PyData} {prs : List (L2.Key × PyData)}, DaAll K (Hd S H) vs ds → pairsD ds = some prs →
    ∃ (ps : List Addr) (kvs : List (L2.Key × V)), vs = ps.map V.ref ∧ Paired (fun p kv => SqT K H p [kV kv.1, kv.2]) ps kvs ∧ Paired (fun (a : L2.Key × V) (b : L2.Key × PyData) => a.1 = b.1 ∧ Da K (Hd S H) a.2 b.2) kvs prs
  | _, _, _, .nil, e => by
    cases e
    exact ⟨[], [], rfl, .nil, .nil⟩
  | _, _, prs, .cons (v := v) (ds := ds) (d := d) h t, e => by
    match d, h, e with
    | .tuple [k, x], h, e =>
      unfold pairsD at e
      cases e1 : kOf k with
      | none => rw [e1] at e; cases e
      | some k' =>
        cases e2 : pairsD ds with
        | none => rw [e1, e2] at e; cases e
        | some r' =>
          rw [e1, e2] at e
          cases e
          obtain ⟨ps, kvs, rfl, h1, h2⟩ := pairs_da t e2
          obtain ⟨a, us, rfl, h3, h4⟩ := da_tup h
          cases h4 with
          | cons q1 h4 =>
            cases h4 with
            | cons q2 h4 =>
              cases h4
              have e3 := key_v q1 e1
              subst e3
              exact ⟨a :: ps, (k', _) :: kvs, rfl, .cons h3 h1, .cons ⟨rfl, q2⟩ h2⟩
variable {K : KX}
def dDictVar (i : Nat) (s : DSt) (P : List (PyData × PyData) → DSt → Prop) : Prop := match s.sl[i]? with
  | some (.dat (.dict kvs)) => headK kvs = true ∧ P kvs s
  | some (.owd kvs) => P kvs s
  | some (.argd _ kvs) => P kvs s
  | _ => False
theorem dict_at {C : DC} {σ : L2.St} {H : Hp} {s : DSt} (R : Rl C σ H s) {i : Nat} {P : List (PyData × PyData) → DSt → Prop} (h : dDictVar i s P) : ∃ a es kvs, σ[i]? = some (some (V.ref a)) ∧ P kvs s ∧ H a = some (.dK es) ∧ DaKv C.K (Hd (Sof C σ s) H) es kvs := by
  unfold dDictVar at h
  split at h
  · rename_i kvs e
    obtain ⟨sl, h1, v, rfl, h3⟩ := R.slots i _ e
    cases h3 with
    | dic h4 h5 => exact ⟨_, _, kvs, h1, h.2, (hd_some h4).2, h5⟩
    | dct h4 hn h5 => exact (headK_dct h5 hn h.1).elim
  · rename_i kvs e
    obtain ⟨sl, h1, a, es, rfl, h4, h5⟩ := R.slots i _ e
    exact ⟨a, es, kvs, h1, h, h4, h5⟩
  · rename_i b kvs e
    obtain ⟨sl, h1, es, rfl, h4, h5⟩ := R.slots i _ e
    exact ⟨b, es, kvs, h1, h, h4, h5⟩
  · exact h.elim
def hasV : Option DV → Prop
  | some (.dat _) => True
  | some (.own _) => True
  | some (.owd _) => True
  | some (.argd _ _) => True
  | _ => False
theorem has_at {C : DC} {σ : L2.St} {H : Hp} {s : DSt} (R : Rl C σ H s) {i : Nat} (h : hasV s.sl[i]?) : ∃ v, σ[i]? = some (some v) := by
  cases e : s.sl[i]? with
  | none => rw [e] at h; exact h.elim
  | some dv =>
    obtain ⟨sl, h1, h2⟩ := R.slots i _ e
    cases dv with
    | dat d =>
      obtain ⟨v, rfl, _⟩ := h2
      exact ⟨v, h1⟩
    | own d =>
      obtain ⟨a, vs, rfl, _⟩ := h2
      exact ⟨_, h1⟩
    | owd d =>
      obtain ⟨a, vs, rfl, _⟩ := h2
      exact ⟨_, h1⟩
    | argd b d =>
      obtain ⟨vs, rfl, _⟩ := h2
      exact ⟨_, h1⟩
    | _ => rw [e] at h; exact h.elim
/-- d[y]: d in slot i -/
def dDGet (i : Nat) (dk : DE) : DE := fun s P => hasV s.sl[i]? ∧ dk s fun kd s1 => match kOf kd with
  | some k => dDictVar i s1 fun kvs s2 => ∃ d, dgetD kvs k = some d ∧ P d s2
  | none => False
theorem re_dGet {ty : TE} {dk : DE} {i : Nat} (h : RE K ty dk) : RE K (tDGet (tVar i) ty) (dDGet i dk) := fun C hC s P hd σ H Q R q => by
  obtain ⟨v0, e0⟩ := has_at R hd.1
  refine ⟨v0, e0, h C hC s _ hd.2 σ H _ R fun v H1 d s1 hp R1 hv => ?_⟩
  cases e : kOf d with
  | none => rw [e] at hp; exact hp.elim
  | some k =>
    rw [e] at hp
    obtain ⟨a, es, kvs, h1, ⟨x, hx, hp⟩, h2, h3⟩ := dict_at R1 hp
    rw [e0] at h1
    cases h1
    have ev := key_v hv e
    subst ev
    rcases get_da k h3 with ⟨_, e2⟩ | ⟨w, d', e1, e2, hw⟩
    · rw [e2] at hx
      cases hx
    · rw [e2] at hx
      cases hx
      refine ⟨a, w, rfl, ?_, q w H1 _ s1 hp R1 hw⟩
      have g := DGet.k (k := k) h2
      rw [e1] at g
      exact g
/-- d[y] = v: d one's own, in slot i -/
def isOwnD : Option DV → Prop
  | some (.owd _) => True
  | _ => False
def dDPut (i : Nat) (dk dv : DE) : DS := fun E s => dv s fun d s1 => isOwnD s1.sl[i]? ∧ dk s1 fun kd s2 => match kOf kd, s2.sl[i]? with
  | some k, some (.owd kvs) => kvs.length < 1000000 ∧ E.nx ⟨s2.sl.set i (.owd (dputD kvs k d)), s2.n⟩
  | _, _ => False
theorem rs_dPut {ty tv : TE} {dk dv : DE} {i : Nat} (h1 : RE K ty dk) (h2 : RE K tv dv) : RS K (sDPut (tVar i) ty tv) (dDPut i dk dv) := fun C hC E s hd σ H D R o =>
  h2 C hC s _ hd σ H _ R fun v H1 d s1 hp R1 hv => by
    obtain ⟨ho, hp⟩ := hp
    obtain ⟨v0, e0⟩ := has_at R1 (i := i) (by
      cases e : s1.sl[i]? with
      | none => rw [e] at ho; exact ho.elim
      | some dv => rw [e] at ho; cases dv <;> first | exact ho.elim | exact True.intro)
    refine ⟨v0, e0, h1 (C.keep v d) hC s1 _ hp σ H1 _ (R1.keep hv) fun y H2 kd s2 hp2 R2 hy => ?_⟩
    obtain ⟨R3, hv3⟩ := R2.kept
    cases e : kOf kd with
    | none => rw [e] at hp2; exact hp2.elim
    | some k =>
      cases e2 : s2.sl[i]? with
      | none => rw [e, e2] at hp2; exact hp2.elim
      | some fv =>
        cases fv with
        | owd kvs =>
          rw [e, e2] at hp2
          obtain ⟨sl, q1, a, es, rfl, q2, q3⟩ := R3.slots i _ e2
          rw [e0] at q1
          cases q1
          have ev := key_v hy e
          subst ev
          refine ⟨a, upd H2 a (.dK (putK es k v)), rfl, DPut.k q2 (by rw [q3.len]; exact Nat.lt_of_lt_of_le hp2.1 sz6), o.nx _ _ _ hp2.2 (R3.mut e2 rfl rfl e0 fun hs => ⟨a, _, rfl, upd_same, (put_da q3 hv3).of hs⟩)⟩
        | _ => rw [e, e2] at hp2; exact hp2.elim
abbrev DK := DSt → (List (PyData × PyData) → DSt → Prop) → Prop
def XD (C : DC) (te : TE) (s : DSt) (P : List (PyData × PyData) → DSt → Prop) : Prop := ∀ (σ : L2.St) (H : Hp) (Q : VK), Rl C σ H s → (∀ a es H' kvs s', P kvs s' → Rl C σ H' s' → H' a = none → DaKv C.K (Hd (Sof C σ s') H') es kvs → Q (.ref a) (upd H' a (.dK es))) → te σ H Q
def RD (K : KX) (te : TE) (dl : DK) : Prop := ∀ C : DC, C.K = K → ∀ s P, dl s P → XD C te s P
def dNewD (dl : DK) : DE := fun s P => dl s fun kvs s1 => P (.dict kvs) s1
theorem re_newD {te : TE} {dl : DK} (h : RD K te dl) : RE K te (dNewD dl) := fun C hC s P hd σ H Q R q => h C hC s _ hd σ H Q R fun a es H' kvs s' hp R' na hv =>
  q _ _ _ s' hp (R'.ext (same_upd na)) (.dic (R'.see na) (hv.of (R'.kp na)))
def dDictU (de : DE) : DK := fun s P => de s fun d s1 => match d with
  | .tuple ds => ∃ prs, pairsD ds = some prs ∧ P (mergeD [] prs) s1
  | _ => False
theorem rd_dictU {te : TE} {de : DE} (h : RE K te de) : RD K (tCB (rDictT K) (tCons te tNil)) (dDictU de) := fun C hC s P hd σ H Q R q =>
  rd_cb (rd_cons (h C hC s _ hd σ H _ R fun v H1 d s1 hp R1 hv => by
    cases d with
    | tuple ds =>
      obtain ⟨prs, hpr, hp⟩ := hp
      subst hC
      cases hv with
      | tup k1 k2 =>
        obtain ⟨ps, kvs, rfl, h1, h2⟩ := pairs_da k2 hpr
        exact rd_nil ⟨_, ps, kvs, rfl, k1.same (hd_sub _ H1), h1, fun p np => q p _ H1 _ s1 hp R1 np (merge_da h2 .nil)⟩
    | _ => exact hp.elim))
end DL

set_option Elab.async false
set_option linter.all false
set_option maxRecDepth 100000
set_option maxHeartbeats 4000000
namespace DL
open PySem PySem.Spec PyProof.Rows L2 GG DD PT
/-- the values in the parameters' order: the i-th parameter's stands at place π[i] -/
def permL {α : Type} (π : List Nat) (l : List α) : List α := π.filterMap fun i => l[i]?
/-- a def called by these keywords -/
structure DfK (P : Program) (w : World) (K : PySem.W.Frag) (mg : Str → Option Value) (base : Heap) (k : Nat) (nm : Str) (ps ks : List Str) (π : List Nat) (sp : Sp) : Prop where
  ex : ∃ f fd, Fg P w K mg base k f fd ps sp ∧ mg nm = some (.ref f) ∧ PySem.W.keepIn K (.ref f) = true ∧ ∀ (s : Shared) (ws : List Value), ws.length = ks.length → BindsTo s fd ⟨[], ks.zip ws⟩ (ps.zip (permL π ws))
theorem perm_vals {vs : List V} {us : List Value} (r : Vals vs us) : ∀ π : List Nat, Vals (permL π vs) (permL π us)
  | [] => .nil
  | i :: π => by
    unfold permL
    rw [List.filterMap_cons, List.filterMap_cons]
    cases e : vs[i]? with
    | none =>
      have e2 : us[i]? = none := by
        have := List.getElem?_eq_none_iff.mp e
        exact List.getElem?_eq_none (by rw [← r.length]; exact this)
      rw [e2]
      exact perm_vals r π
    | some v =>
      obtain ⟨u, e2, hu⟩ := r.get e
      rw [e2]
      exact .cons hu (perm_vals r π)
section
variable {X : Cx} {k : Nat} {nm : Str} {ps ks : List Str} {π : List Nat} {sp : Sp} {p pos : Pos} {kws : List Keyword} {tk : TA}
def tCallP (sp : Sp) (π : List Nat) (n : Nat) (tk : TA) : TE := fun σ H Q => tk σ H fun zs H2 => zs.length = n ∧ sp (permL π zs) H2 Q E0
theorem kcall (D : DfK X.prog X.w X.K X.mg X.base k nm ps ks π sp) (hr : Rm k X.A) (hg : Gl X nm) (hkw : PK X kws tk)
    (hall : (backToKw pos (keywordEach kws X.env)).all (·.1.isSome) = true := by rfl) (hks : (backToKw pos (keywordEach kws X.env)).filterMap (·.1) = ks := by rfl)
    (hdb : (nm == ("__debug__" : Str)) = false := by decide)
    (hpl : ((backTo pos (starEach [] X.env)).any (·.1) || (backToKw pos (keywordEach kws X.env)).any (·.1.isNone)) = false := by rfl) :
    PE X (.Call (.Name nm p) [] kws pos) (tCallP sp π ks.length tk) := by
  obtain ⟨f, fd, F, hm, hk, hb⟩ := D.ex
  refine ⟨fun pins s σ H Q I h => ?_⟩
  refine wpAny_Call_Name_kw (ld_glob I hg hm ?_ hdb)
  refine PySem.W.callWith_KW0 (h₀ := X.base) I.ok.mod.kin hk hall (thn (hkw.run pos pins s σ H _ I h) fun ws s2 ⟨zs, H2, I2, rz, hl, q2⟩ => ⟨I2.kIn, ?_⟩) hpl
  rw [hks]
  refine wpAny_call (codeAny_mono (F.go X.A X.stack s2 H2 ⟨[] ++ [], ks.zip ws⟩ (permL π ws) (permL π zs) Q hr I2.env0 (hb s2 ws (by rw [← rz.length]; exact hl)) (perm_vals rz π) q2) fun r s' hq => ?_)
  exact ret_of I2 hq
end
variable {K : KX}
theorem perm_args {W : Wo} {S : Addr → Prop} {H : Hp} {vs : List V} {as : List DV} (h : ArgsOk K W S H vs as) : ∀ π : List Nat, ArgsOk K W S H (permL π vs) (permL π as)
  | [] => .nil
  | i :: π => by
    unfold permL
    rw [List.filterMap_cons, List.filterMap_cons]
    have get : ∀ {vs : List V} {as : List DV} (j : Nat), ArgsOk K W S H vs as → (vs[j]? = none ∧ as[j]? = none) ∨ ∃ v a, vs[j]? = some v ∧ as[j]? = some a ∧ ArgOk K W S H v a := by
      intro vs as j h
      induction h generalizing j with
      | nil => exact .inl ⟨rfl, rfl⟩
      | @cons v vs a as h1 h2 ih =>
        cases j with
        | zero => exact .inr ⟨v, a, rfl, rfl, h1⟩
        | succ j => simpa using ih j
    rcases get i h with ⟨e1, e2⟩ | ⟨v, a, e1, e2, ha⟩
    · rw [e1, e2]
      exact perm_args h π
    · rw [e1, e2]
      exact .cons ha (perm_args h π)
def dCallP (m : Nat) (F : FD) (π : List Nat) (n : Nat) (da : DX) : DE := fun s P => da s fun as s1 => as.length = n ∧ (permL π as).length = m ∧ F (permL π as) s1.n.n fun d n' => P d ⟨s1.sl, s1.n.on n'⟩
theorem re_callP {m : Nat} {F : FD} {π : List Nat} {n : Nat} {ta : TA} {da : DX} (h : RX K ta da) : RE K (tCallP (spOf K m F) π n ta) (dCallP m F π n da) := fun C hC s P hd σ H Q R q =>
  h C hC s _ hd σ H _ R fun vs H1 as s1 hp R1 hv => by
    subst hC
    refine ⟨by rw [hv.len]; exact hp.1, by rw [(perm_args hv π).len]; exact hp.2.1, C.W.pl, Sof C σ s1, s1.n.n, permL π as, _, R1.taken, R1.dk.pl, fun b hb => .inr (.inl (mu_pl hb)), (perm_args hv π).pl, hp.2.2, fun v H' d n' hP hD hB hda => ?_⟩
    exact q v H' d ⟨s1.sl, s1.n.on n'⟩ hP (R1.step hB hD) hda
end DL

set_option Elab.async false
set_option linter.all false
set_option maxRecDepth 100000
set_option maxHeartbeats 4000000
namespace SRT
open PySem PyProof.Rows Srt SrtO L2
def IsSP (h : Heap) (v : Value) (x : Str) (y : Int) : Prop := ∃ a o t u n, v = .ref a ∧ h.get? a = some o ∧ o.cls = .type "tuple" ∧ o.data = .seq #[.str x t, .int y u] n
theorem IsSP.keeps {h h' : Heap} {v : Value} {x : Str} {y : Int} (p : IsSP h v x y) (k : ∀ b o, h.get? b = some o → o.cls = .type "tuple" → h'.get? b = some o) : IsSP h' v x y := by
  obtain ⟨a, o, t, u, n, e, ho, hc, hd⟩ := p
  exact ⟨a, o, t, u, n, e, k _ _ ho hc, hc, hd⟩
section
variable {prog : Program} {w : World} {A : Around} {E : Value → Shared → Prop} {s : Shared}
end
end SRT

set_option Elab.async false
set_option linter.all false
set_option maxRecDepth 100000
set_option maxHeartbeats 4000000
namespace RGL
open PySem PySem.Spec PyProof.Rows L2
def upTo (n : Nat) : List V := (List.range n).map fun i => V.int (i : Nat)
theorem vals_ints : ∀ {n : Nat} {l : List Value}, l.length = n → (∀ (i : Nat) (v : Value), l[i]? = some v → ∃ t, v = .int (i : Nat) t) → Vals (upTo n) l := by
  intro n
  unfold upTo
  induction n with
  | zero =>
    intro l hl _
    cases l with
    | nil => exact .nil
    | cons _ _ => cases hl
  | succ n ih =>
    intro l hl h
    have hne : l ≠ [] := fun e => by rw [e] at hl; cases hl
    have e := (List.dropLast_concat_getLast hne).symm
    rw [List.range_succ, List.map_append, e]
    have hd : l.dropLast.length = n := by rw [List.length_dropLast, hl]; rfl
    refine (ih hd fun i v hv => ?_).append (.cons ?_ .nil)
    · refine h i v ?_
      have hi : i < l.dropLast.length := by
        rcases Nat.lt_or_ge i l.dropLast.length with q | q
        · exact q
        · rw [List.getElem?_eq_none q] at hv; cases hv
      rw [e, List.getElem?_append_left hi]
      exact hv
    · obtain ⟨t, ht⟩ := h n (l.getLast hne) (by
        rw [List.getLast_eq_getElem, List.getElem?_eq_getElem (by omega)]
        simp [hl])
      exact ⟨t, ht⟩
end RGL

set_option Elab.async false
set_option linter.all false
set_option maxRecDepth 100000
set_option maxHeartbeats 4000000
namespace EMT
open PySem PySem.Spec PyProof.Rows L2
variable {X : Cx}
end EMT
namespace DL
open PySem PySem.Spec PyProof.Rows L2 GG DD PT
variable {K : KX}
end DL

set_option Elab.async false
set_option linter.all false
set_option maxRecDepth 100000
set_option maxHeartbeats 4000000
namespace DL
open PySem PySem.Spec PyProof.Rows L2 GG DD PT
variable {K : KX}
theorem DaAll.mem {H : Hp} : ∀ {vs : List V} {ds : List PyData}, DaAll K H vs ds → ∀ v ∈ vs, ∃ d ∈ ds, Da K H v d
  | _, _, .nil, v, m => by cases m
  | _, _, .cons h t, v, m => by
    rcases List.mem_cons.mp m with rfl | m
    · exact ⟨_, List.mem_cons_self, h⟩
    · obtain ⟨d, hd, h'⟩ := DaAll.mem t v m
      exact ⟨d, List.mem_cons_of_mem _ hd, h'⟩
theorem DaAll.perm {H : Hp} {ys vs : List V} (p : ys.Perm vs) : ∀ {ds : List PyData}, DaAll K H vs ds → ∃ es : List PyData, es.Perm ds ∧ DaAll K H ys es := by
  induction p with
  | nil => intro ds h; exact ⟨ds, List.Perm.refl _, h⟩
  | cons x p ih =>
    intro ds h
    cases h with
    | cons h t =>
      obtain ⟨es, pe, he⟩ := ih t
      exact ⟨_ :: es, pe.cons _, .cons h he⟩
  | swap x y l =>
    intro ds h
    cases h with
    | cons h1 t =>
      cases t with
      | cons h2 t => exact ⟨_, List.Perm.swap _ _ _, .cons h2 (.cons h1 t)⟩
  | trans p1 p2 ih1 ih2 =>
    intro ds h
    obtain ⟨es, pe, he⟩ := ih2 h
    obtain ⟨fs, pf, hf⟩ := ih1 he
    exact ⟨fs, pf.trans pe, hf⟩
def keysD : List (PyData × PyData) → Option (List (L2.Key × PyData))
  | [] => some []
  | (k, d) :: r => match kOf k, keysD r with
    | some k', some r' => some ((k', d) :: r')
    | _, _ => none
end DL

set_option Elab.async false
set_option linter.all false
set_option maxRecDepth 100000
set_option maxHeartbeats 4000000
namespace LZ
open PySem PyProof.Rows L2
section
variable {prog : Program} {w : World} {A : Around} {E : Value → Shared → Prop} {s : Shared}
/-- the zip before its first pair, or with a pair out that is kept -/
def ZSt (h : Heap) (z TI TO i1 i2 : Addr) : Prop := (IsZip h z TI TO .none ∧ ∃ a b, IsPair h TO a b) ∨ ∃ (T : Addr) (f : Bool) (oT : Obj), IsZipHeld h z TI TO T f ∧ h.get? T = some oT ∧ T ≠ z ∧ T ≠ TO ∧ T ≠ i1 ∧ T ≠ i2
theorem ZSt.at {h h' : Heap} {z TI TO i1 i2 : Addr} (st : ZSt h z TI TO i1 i2) {S : Addr} (hz : z ≠ S) (hTO : TO ≠ S) (hT : ∀ o, h.get? S = some o → ∃ u, h'.get? S = some u) (k : ∀ b o, b ≠ S → h.get? b = some o → h'.get? b = some o) : ZSt h' z TI TO i1 i2 := by
  rcases st with ⟨q1, a, b, q2⟩ | ⟨T, f, oT, q1, q2, t⟩
  · exact .inl ⟨k _ _ hz q1, a, b, k _ _ hTO q2⟩
  · by_cases e : T = S
    · subst e
      obtain ⟨u, hu⟩ := hT _ q2
      exact .inr ⟨T, f, u, k _ _ hz q1, hu, t⟩
    · exact .inr ⟨T, f, oT, k _ _ hz q1, k _ _ e q2, t⟩
end
end LZ

set_option Elab.async false
set_option linter.all false
set_option maxRecDepth 100000
set_option maxHeartbeats 4000000
namespace LZ
open PySem PySem.Spec PyProof.Rows L2
variable {X : Cx}
end LZ

set_option Elab.async false
set_option linter.all false
set_option maxRecDepth 100000
set_option maxHeartbeats 4000000
namespace LZT
open PySem PyProof.Rows L2 LZ
section
variable {prog : Program} {w : World} {A : Around} {E : Value → Shared → Prop} {s : Shared}
end
end LZT

set_option Elab.async false
set_option linter.all false
set_option maxRecDepth 100000
set_option maxHeartbeats 4000000
namespace LZ
open PySem PySem.Spec PyProof.Rows L2
variable {X : Cx}

end LZ

set_option Elab.async false
set_option linter.all false
set_option maxRecDepth 100000
set_option maxHeartbeats 4000000
namespace DL
open PySem PySem.Spec PyProof.Rows L2 GG DD PT
variable {K : KX}
theorem DaAll.at {H : Hp} : ∀ {vs : List V} {ds : List PyData} {j : Nat} {v : V} {d : PyData}, DaAll K H vs ds → vs[j]? = some v → ds[j]? = some d → Da K H v d
  | _, _, 0, _, _, .cons h _, e, e' => by
    cases e
    cases e'
    exact h
  | _, _, j + 1, _, _, .cons _ t, e, e' => DaAll.at (j := j) t (by simpa using e) (by simpa using e')
  | _, _, _, _, _, .nil, e, _ => by simp at e
end DL

set_option Elab.async false
set_option linter.all false
set_option maxRecDepth 100000
set_option maxHeartbeats 4000000
namespace DL
open PySem PySem.Spec PyProof.Rows L2 GG DD PT
variable {K : KX}
def oIxQ : D2 := fun d e P => match d, e with
  | .list a, .int i => ∃ x, atI a i = some x ∧ P x
  | .tuple a, .int i => ∃ x, atI a i = some x ∧ P x
  | _, _ => False
theorem ro_ixQ : RO K (rIx K) oIxQ := fun S H x y d e P Q T hx hy h q => by
  unfold oIxQ at h
  split at h
  · exact .inl (ro_ixL S H x y _ _ P Q T hx hy h q)
  · exact .inr (.inl (ro_ixU S H x y _ _ P Q T hx hy h q))
  · exact h.elim
end DL

set_option Elab.async false
set_option linter.all false
set_option maxRecDepth 100000
set_option maxHeartbeats 4000000
namespace DL
open PySem PySem.Spec PyProof.Rows L2 GG DD PT
def intsD (cs : List Int) : List PyData := cs.map PyData.int
theorem dp_intsD {K : PySem.W.Frag} {H : Hp} : ∀ cs : List Int, DpAll K H (cs.map V.int) (intsD cs)
  | [] => .nil
  | c :: cs => .cons (.int c) (dp_intsD cs)
theorem shaped_ints : ∀ cs : List Int, SeqAt.shaped (PyData.list (intsD cs)) = true := by
  have h1 : ∀ cs : List Int, PyData.canLayAll0 (intsD cs) = true := by
    intro cs
    induction cs with
    | nil => simp only [intsD, List.map_nil, PyData.canLayAll0]
    | cons c cs ih =>
      have ih' : PyData.canLayAll0 (cs.map PyData.int) = true := ih
      simp only [intsD, List.map_cons, PyData.canLayAll0, PyData.canLay0, ih', Bool.and_self]
  have h2 : ∀ cs : List Int, PyData.depthAll (intsD cs) = 0 := by
    intro cs
    induction cs with
    | nil => simp only [intsD, List.map_nil, PyData.depthAll]
    | cons c cs ih =>
      have ih' : PyData.depthAll (cs.map PyData.int) = 0 := ih
      simp only [intsD, List.map_cons, PyData.depthAll, PyData.depth, ih', Nat.max_self]
  intro cs
  unfold SeqAt.shaped
  simp only [PyData.canLay0, PyData.depth, h1, h2, Bool.true_and]
  decide
theorem eqv_ints_nil : ∀ cs : List Int, PyData.eqv (.list (intsD cs)) (.list []) = cs.isEmpty
  | [] => by simp only [intsD, List.map_nil, PyData.eqv, PyData.eqvAll, List.isEmpty_nil]
  | c :: cs => by simp only [intsD, List.map_cons, PyData.eqv, PyData.eqvAll, List.isEmpty_cons]
def spDeckH (K : PySem.W.Frag) : Sp := fun vs H Q _ => ∃ (a : Addr) (ns : List Int), vs = [.ref a] ∧ SqL K H a (ns.map V.int) ∧ ns.length ≤ 63 ∧ ∀ H' p l, Same H H' → Deck H' p l 0 → H p = none → H l = none → Q (.ref p) H'
def spDrawH : Sp := fun vs H Q _ => ∃ (p l : Addr) (n : Nat) (lim : Int), vs = [.ref p, .int lim] ∧ Deck H p l n ∧ n < 1000000 ∧ 1 ≤ lim ∧ lim < 1000000 ∧ ∀ H' v, Deck H' p l (n + 1) → But p l H H' → 0 ≤ v → v < lim → Q (.int v) H'
/-- a draw: any int below the limit -/
def F_draw : FD := fun as n P => match as with
  | [.deck, .dat (.int L)] => n < 1000000 ∧ 1 ≤ L ∧ L < 1000000 ∧ ∀ v, 0 ≤ v → v < L → P (.int v) (n + 1)
  | _ => False
theorem draw_of {K : PySem.W.Frag} {vs : List V} {H : Hp} {Q : VK} (h : spOf K 2 F_draw vs H Q E0) : spDrawH vs H Q E0 := by
  obtain ⟨hl, W, S0, n, as, P, T, dk, hm, ha, hF, q⟩ := h
  unfold F_draw at hF
  split at hF
  · rename_i L
    cases ha with
    | cons h1 h2 =>
      obtain ⟨p, l, eW, rfl⟩ := h1
      cases h2 with
      | cons h3 h4 =>
        cases h4
        cases h3
        have dD : Deck H p l n := by
          have z := dk.dk
          rw [eW] at z
          exact z
        refine ⟨p, l, n, L, rfl, dD, hF.1, hF.2.1, hF.2.2.1, fun H' v hD hB h0 h1 => ?_⟩
        obtain ⟨⟨m0, cs0, e1, e2, _⟩, _⟩ := dD
        refine q _ H' _ _ (hF.2.2.2 v h0 h1) ⟨by rw [eW]; exact hD, fun t ht => ?_, fun b hb => ?_⟩ (fun b o hb e => hB b o (fun z => hb (.inl (.inl (by rw [eW]; exact .inl z)))) (fun z => hb (.inl (.inl (by rw [eW]; exact .inr z)))) e) (.int v)
        · obtain ⟨qs, h2, h3⟩ := dk.tb t ht
          refine ⟨qs, hB t _ (fun z => ?_) (fun z => ?_) h2, h3⟩
          · rw [z, e1] at h2
            cases h2
          · rw [z, e2] at h2
            cases h2
        · obtain ⟨⟨m1, cs1, k1, k2, _⟩, _⟩ := hD
          obtain ⟨o, ho⟩ := dk.mo b hb
          by_cases z : b = p
          · exact ⟨_, z ▸ k1⟩
          · by_cases y : b = l
            · exact ⟨_, y ▸ k2⟩
            · exact ⟨o, hB b o z y ho⟩
  · exact hF.elim
section
variable {P : Program} {w : World} {K : PySem.W.Frag} {mg : Str → Option Value} {base : Heap} {k : Nat} {f : Addr} {fd : FuncData} {ps : List Str} {sp sp' : Sp}
theorem weak (F : Fg P w K mg base k f fd ps sp) (hs : ∀ vs H Q, sp' vs H Q E0 → sp vs H Q E0) : Fg P w K mg base k f fd ps sp' :=
  ⟨fun vs H Q h => F.size vs H Q (hs vs H Q h), fun A o s H a us vs Q r e b v h => F.go A o s H a us vs Q r e b v (hs vs H Q h)⟩
end
end DL

set_option Elab.async false
set_option linter.all false
set_option maxRecDepth 100000
set_option maxHeartbeats 4000000
namespace DL
open PySem PySem.Spec PyProof.Rows L2 GG DD PT
def spLaw (K : PySem.W.Frag) : Sp := fun vs H Q _ => ∃ (a : Addr) (ns : List Int), vs = [.ref a] ∧ SqL K H a (ns.map V.int) ∧ ns.length ≤ 63 ∧ TbOk H ∧ ∀ H', Q (.bl true) H'
theorem un_at {j : Nat} : ∀ {i : Nat} {dv : DV}, (List.replicate j DV.un)[i]? = some dv → dv = .un ∧ i < j := fun {i dv} h => by
  have h1 := List.eq_of_mem_replicate (List.mem_of_getElem? h)
  have h2 := (List.getElem?_eq_some_iff.mp h).1
  rw [List.length_replicate] at h2
  exact ⟨h1, h2⟩
theorem rl_deck {K : PySem.W.Frag} {H : Hp} {p l a : Addr} (m : Nat) (hD : Deck H p l 0) (hT : TbOk H) :
    Rl (DC.base ⟨K, ⟨some (p, l), fun _ => False⟩, fun _ => False, H, fun _ _ => False, fun _ _ => False⟩) (some (.ref a) :: some (.ref p) :: List.replicate m none) H ⟨.un :: .deck :: List.replicate m .un, g0 0⟩ := by
  have no : ∀ (i : Nat) (dv : DV), (DV.un :: DV.deck :: List.replicate m DV.un)[i]? = some dv → isOwn dv = true → False := fun i dv h ho => by
    match i, h with
    | 0, h => cases h; cases ho
    | 1, h => cases h; cases ho
    | i + 2, h =>
      have := (un_at (i := i) (by simpa using h)).1
      subst this
      cases ho
  refine ⟨by simp, fun i dv h => ?_, fun i j a dv ev h1 _ h3 => (no i dv h1 h3).elim, fun i a dv h1 h2 => (no i dv h1 h2).elim, ⟨hD, hT, fun _ z => z.elim⟩, ButW.refl _ _, fun b hb => hb.elim, fun _ _ h => h.elim, fun _ _ h => h.elim, fun _ _ h => by cases h⟩
  match i, h with
  | 0, h => cases h; exact ⟨_, rfl, trivial⟩
  | 1, h => cases h; exact ⟨_, rfl, p, l, rfl, rfl⟩
  | i + 2, h =>
    obtain ⟨rfl, hi⟩ := un_at (i := i) (by simpa using h)
    exact ⟨none, by simp [hi], trivial⟩
section
variable {P : Program} {w : World} {K : PySem.W.Frag} {mg : Str → Option Value} {base : Heap} {k : Nat} {f : Addr} {fd : FuncData}
theorem ok_law_of {x qual sc : Str} {st : Stmt} {N : List Str} (m : Nat) {d : DS} (F : L2.Fun K x qual st f fd) (S : FnScope N [sc] (defScope st)) (hN : N.length = m + 2)
    (hd : d { nx := fun _ => False, rt := fun v _ => v = .bool true } ⟨.un :: .deck :: List.replicate m .un, g0 0⟩)
    (body : ∀ (cdv : Value) (A : Around) (outer : List Env) (s : Shared) (H : Hp), Rm k (A.deeper (envOfC qual (defScope st) s.heap.objs.size f cdv)) →
      ∃ tr, PSs (cxOf CX0 P w K mg base N qual (defScope st) f cdv A outer s H E0).nox (defBody st) (tSeq (tAsg (tCall (spDeckH K) [] E0 (tCons (tVar 0) tNil)) (gName 1)) tr) ∧ ∀ W B H0 G0 Z0, RS ⟨K, W, B, H0, G0, Z0⟩ tr d) :
    Fg P w K mg base (k + 1) f fd [sc] (spLaw K) := by
  refine okg F S (fun vs H Q h => ?_) fun cdv A outer s H vs Q hr h => ?_
  · obtain ⟨a, ns, rfl, _⟩ := h
    rfl
  · obtain ⟨a, ns, rfl, hS, hl, hT, q⟩ := h
    obtain ⟨tr, h1, h2⟩ := body cdv A outer s H hr
    refine ⟨_, h1, ?_⟩
    unfold L2.start
    rw [hN]
    refine rd_seq (rd_set (rd_call (rd_cons (rd_var (v := .ref a) rfl (rd_nil ⟨a, ns, rfl, hS, hl, fun H1 p l s1 hD np nl => ?_⟩)))))
    refine h2 _ _ _ _ _ (DC.base ⟨K, ⟨some (p, l), fun _ => False⟩, fun _ => False, H1, fun _ _ => False, fun _ _ => False⟩) rfl _ _ hd (some (.ref a) :: some (.ref p) :: List.replicate m none) H1 _ (rl_deck m hD (hT.same s1)) ⟨fun _ _ _ z => z.elim, fun σ v H' d' s' hp R hv => ?_, fun _ _ _ z => z.elim, fun _ _ _ z => z.elim, fun _ _ _ _ z => z.elim⟩
    subst hp
    cases hv
    exact q H'
end
end DL
namespace DL
open PySem PySem.Spec PyProof.Rows L2 GG DD PT
section
variable {P : Program} {w : World} {K : PySem.W.Frag} {mg : Str → Option Value} {base : Heap} {k : Nat} {f : Addr} {fd : FuncData} {ps : List Str}
end
end DL
namespace DL
open PySem PySem.Spec PyProof.Rows L2 GG DD PT
theorem kb {K : PySem.W.Frag} {x qual : Str} {st : Stmt} {f : Addr} {fd : FuncData} {ps ks : List Str} {π : List Nat} (F : Fun K x qual st f fd)
    (h : ∀ (kV doc pm : Value) (an : Option Addr) (cdv ct : Value) (us : List Value), us.length = ks.length → bindArgs (PySem.W.fnOf x qual (defArgs st) (defBody st) (defScope st) .none kV doc pm an cdv ct) ⟨[], ks.zip us⟩ = pure (ps.zip (permL π us))) :
    ∀ (s : Shared) (ws : List Value), ws.length = ks.length → BindsTo s fd ⟨[], ks.zip ws⟩ (ps.zip (permL π ws)) := by
  obtain ⟨oc, od, kV, doc, pm, an, cdv, ct, osl, rfl, lk, hcd⟩ := F.ex
  exact fun s ws hl => .of_eq (h kV doc pm an cdv ct ws hl)
end DL

set_option Elab.async false
set_option linter.all false
set_option maxRecDepth 100000
set_option maxHeartbeats 4000000
namespace TK
open PySem PySem.Spec PyProof.Rows L2
section
variable {X : Cx} {e : Expr}
end
section
variable {X : Cx} {pins : List (Addr × Obj)} {σ : L2.St} {H : Hp} {s : Shared} {a b : Addr} {v : V} {u r : Value} {A : Around} {E : Value → Shared → Prop} {kvs : List (List Key × V)} {k : List Key}
end
section
variable {X : Cx} {o i e f value : Expr} {pos pos' apos cpos : Pos} {td ty tv tx : TE}
end
end TK

set_option Elab.async false
set_option linter.all false
set_option maxRecDepth 100000
set_option maxHeartbeats 4000000
namespace SD
open PySem PySem.Spec PyProof.Rows L2
section
variable {X : Cx}
end
end SD

set_option Elab.async false
set_option linter.all false
set_option maxRecDepth 100000
set_option maxHeartbeats 4000000
namespace DL
open PySem PySem.Spec PyProof.Rows L2 GG DD PT
variable {K : KX}
theorem kv_split {H : Hp} : ∀ {es : List (L2.Key × V)} {ds : List (PyData × PyData)}, DaKv K H es ds → (es.map fun p => keyD p.1) = ds.map (·.1) ∧ DaAll K H (es.map (·.2)) (ds.map (·.2))
  | _, _, .nil => ⟨rfl, .nil⟩
  | _, _, .cons h t => by
    obtain ⟨h1, h2⟩ := kv_split t
    exact ⟨by rw [List.map_cons, List.map_cons, h1], .cons h h2⟩
theorem kv_join {H : Hp} : ∀ {es : List (L2.Key × V)} {ds : List (PyData × PyData)}, (es.map fun p => keyD p.1) = ds.map (·.1) → DaAll K H (es.map (·.2)) (ds.map (·.2)) → DaKv K H es ds
  | [], [], _, _ => .nil
  | [], _ :: _, h, _ => by cases h
  | _ :: _, [], h, _ => by cases h
  | (k, v) :: es, (x, d) :: ds, h, h2 => by
    rw [List.map_cons, List.map_cons] at h
    obtain ⟨h3, h4⟩ := List.cons.inj h
    have h3 : keyD k = x := h3
    subst h3
    cases h2 with
    | cons h5 h6 => exact .cons h5 (kv_join h4 h6)
def dDc (g : DG) (t : DT) (ek ev : DE) (base : List DV) : List PyData → List (PyData × PyData) → GS → (List (PyData × PyData) → GS → Prop) → Prop
  | [], acc, n, P => P acc n
  | d :: ds, acc, n, P => g d (fun s1 => t s1 fun b s2 => if b = true then ek s2 fun kd s3 => ev s3 fun y s4 => s4.sl = s1.sl ∧ ∃ k, kOf kd = some k ∧ dDc g t ek ev base ds (dputD acc k y) s4.n P else s2.sl = s1.sl ∧ dDc g t ek ev base ds acc s2.n P) ⟨base, n⟩
def dDcomp (di : DA) (g : DG) (t : DT) (ek ev : DE) (vs : List Nat) : DK := fun s P => di s fun items s1 => items.length ≤ 1000 ∧ noOwnB s1.sl vs = true ∧ dDc g t ek ev (wipeD s1.sl vs) items [] s1.n fun acc n => P acc ⟨s1.sl, n⟩
theorem putD_len (kvs : List (PyData × PyData)) (k : L2.Key) (d : PyData) : (dputD kvs k d).length ≤ kvs.length + 1 := by
  unfold dputD
  split
  · rw [List.length_map]
    omega
  · rw [List.length_append]
    exact Nat.le_refl _
theorem rd_dcomp {w : Bool} {wi : TI} {g : TG} {tt : TT} {tk te : TE} {vs : List Nat} {di : DA} {dg : DG} {dt : DT} {dk de : DE} (hi : RI w K wi di) (hg : RGv w K vs g dg) (hgw : GW vs dg) (ht : RT K tt dt) (hk : RE K tk dk) (he : RE K te de) : RD K (tDc wi g tt tk te vs) (dDcomp di dg dt dk de vs) := fun C hC s P hd σ H Q R q => by
  refine hi C hC s _ hd σ H _ R fun J H1 items s1 G' Z' hp R1 hZ' ok => ?_
  obtain ⟨hlen, no, hp⟩ := hp
  have no := noOwn_of no
  have hv := slots_hv R1
  generalize hC1 : (C.more G').more (outG σ s1.sl vs) = C1
  have cK : C1.K = C.K := by rw [← hC1]; rfl
  have cG : ∀ v d, G' v d → C1.G v d := fun v d z => by rw [← hC1]; exact .inl (.inr z)
  have cO : ∀ v d, outG σ s1.sl vs v d → C1.G v d := fun v d z => by rw [← hC1]; exact .inr z
  have R1' : Rl C1 σ H1 s1 := by rw [← hC1]; exact R1.more (out_da R1 vs)
  have cB : ∀ {H' : Hp} {s' : DSt}, Rl C1 σ H' s' → Rl C σ H' s' := fun {H' s'} z => by
    rw [← hC1] at z
    exact z.less.less
  have cW : C1.W = C.W := by rw [← hC1]; rfl
  have cS : ∀ s' : DSt, Sof C1 σ s' = Sof C σ s' := fun s' => by rw [← hC1]; rfl
  have cZ : ∀ a o, Z' a o → C1.Z a o := fun a o z => by rw [← hC1]; exact hZ' a o z
  clear hC1
  have idem : wipe (wipe σ vs) vs = wipe σ vs := by
    apply List.ext_getElem?
    intro j
    rw [wipe_get, wipe_get, wipe_length]
    by_cases e : j ∈ vs
    · rw [if_pos e, if_pos e]
    · rw [if_neg e, if_neg e]
  have idemD : wipeD (wipeD s1.sl vs) vs = wipeD s1.sl vs := by
    apply List.ext_getElem?
    intro j
    rw [wipeD_get, wipeD_get, wipeD_len]
    by_cases e : j ∈ vs
    · rw [if_pos e, if_pos e]
    · rw [if_neg e, if_neg e]
  intro L nL
  obtain ⟨n1, n2⟩ := R1'.new nL
  have nZ : ∀ u, ¬ C1.Z L u := fun u z => n1 (.inl (R1'.fz L u z).1)
  refine ⟨fun i m H' => i + m = items.length ∧ ∃ es ds n', H' L = some (.dK es) ∧ ds.length ≤ i ∧ Rl (C1.hide L) (wipe σ vs) H' ⟨wipeD s1.sl vs, n'⟩ ∧ DaKv C.K (Hd (Sof (C1.hide L) (wipe σ vs) ⟨wipeD s1.sl vs, n'⟩) H') es ds ∧ dDc dg dt dk de (wipeD s1.sl vs) (items.drop i) ds n' fun acc n => P acc ⟨s1.sl, n⟩,
    ⟨items.length, Nat.zero_add _, [], [], s1.n, upd_same, Nat.zero_le _, ((R1'.wiped vs).1).hidden nL, .nil, hp⟩, fun i m H' ⟨em, es, ds, n', e1, hdl, R2, hda, h⟩ => ?_⟩
  by_cases hm : m = 0
  · subst hm
    have e' : i = items.length := by omega
    subst e'
    rw [List.drop_length] at h
    refine .inl ⟨(ok (C1.hide L) cK (fun v d z => cG v d z) cZ (wipe σ vs) H' ⟨_, n'⟩ R2).1, ?_⟩
    obtain ⟨R3, hs3⟩ := R2.leave (fun z => n1 (.inl z)) (fun z => n1 (.inr (.inl z))) n2 fun a u z => (R1'.fz a u z).1
    obtain ⟨R4, hs4⟩ := R3.unwiped R1.len no cO (cW ▸ hv)
    have hq := q L es (del H' L) ds ⟨s1.sl, n'⟩ h (cB R4) (if_pos rfl) (by
      have z := (hda.of hs3).of hs4
      rw [cS] at z
      exact z)
    rw [del_upd e1] at hq
    exact hq
  · have hlt : i < items.length := by omega
    obtain ⟨d, hd⟩ : ∃ d, items[i]? = some d := ⟨_, List.getElem?_eq_getElem hlt⟩
    obtain ⟨k1, k2⟩ := (ok (C1.hide L) cK cG cZ (wipe σ vs) H' ⟨_, n'⟩ R2).2 i d hd
    refine .inr ⟨k1, fun H2 => ∃ es ds n', H2 L = some (.dK es) ∧ ds.length ≤ i + 1 ∧ Rl (C1.hide L) (wipe σ vs) H2 ⟨wipeD s1.sl vs, n'⟩ ∧ DaKv C.K (Hd (Sof (C1.hide L) (wipe σ vs) ⟨wipeD s1.sl vs, n'⟩) H2) es ds ∧ dDc dg dt dk de (wipeD s1.sl vs) (items.drop (i + 1)) ds n' fun acc n => P acc ⟨s1.sl, n⟩, fun H2 k => ⟨m - 1, by omega, by omega, k⟩, fun x H2 hy => ?_⟩
    obtain ⟨R3, s23, hx⟩ := k2 x H2 hy
    have e : items.drop i = d :: items.drop (i + 1) := by
      rw [List.drop_eq_getElem_cons hlt]
      rw [List.getElem?_eq_getElem hlt] at hd
      rw [Option.some.inj hd]
    rw [e] at h
    have h' := hgw.w d _ _ h
    obtain ⟨hkeys, hvals⟩ := kv_split (hda.of (hdS s23))
    generalize hC2 : ((C1.hide L).pin L (.dK es)).more (pairG (es.map (·.2)) (ds.map (·.2))) = C2
    have cK2 : C2.K = K := by rw [← hC2]; exact cK.trans hC
    have R3k : Rl C2 (wipe σ vs) H2 ⟨wipeD s1.sl vs, n'⟩ := by
      rw [← hC2]
      refine (R3.pin (.inr rfl) (fun z => n1 (.inr (.inl z))) (s23 _ _ e1)).more ?_
      have z := pair_da hvals
      rw [← cK] at z
      exact z
    have down : ∀ {H4 : Hp} {δ : List DV} {m : GS}, Rl C2 (wipe σ vs) H4 ⟨δ, m⟩ → Rl (C1.hide L) (wipe σ vs) H4 ⟨δ, m⟩ ∧ H4 L = some (.dK es) ∧ DaKv C.K (Hd (Sof (C1.hide L) (wipe σ vs) ⟨δ, m⟩) H4) es ds := fun {H4 δ m} z => by
      rw [← hC2] at z
      refine ⟨z.less.unpin.1, z.less.unpin.2, kv_join hkeys ?_⟩
      have z2 := da_pair hvals.len fun x y w => z.gh x y (.inr w)
      have z3 : DaAll C1.K (Hd (Sof (C1.hide L) (wipe σ vs) ⟨δ, m⟩) H4) (es.map (·.2)) (ds.map (·.2)) := z2
      rw [cK] at z3
      exact z3
    have cS2 : ∀ (τ : L2.St) (δ : DSt), Sof C2 τ δ = Sof (C1.hide L) τ δ := fun τ δ => by rw [← hC2]; rfl
    have cx2 : ∀ m : GS, Sof C2 (wipe σ vs) ⟨wipeD s1.sl vs, m⟩ = Sof (C1.hide L) (wipe σ vs) ⟨wipeD s1.sl vs, m⟩ := fun m => cS2 _ _
    have cKx : C2.K = C.K := cK2.trans hC.symm
    have hx2 : DaF w C2.K (Sof C2 (wipe σ vs) ⟨wipeD s1.sl vs, n'⟩) H2 x d := by
      rw [cx2, cKx, ← cK]
      exact hx
    clear hC2
    refine hg C2 cK2 d _ ⟨_, n'⟩ h' (wipe σ vs) H2 x _ R3k hx2 fun σ2 s2 hn R4 hw => ?_
    obtain ⟨hn, hwD⟩ := hn
    have hwD : wipeD s2.sl vs = wipeD s1.sl vs := hwD.trans idemD
    have hww : wipe σ2 vs = wipe σ vs := hw.trans idem
    refine ⟨hww, ?_⟩
    have back : ∀ {H4 : Hp} {s4 : DSt}, Rl C2 σ2 H4 s4 → s4.sl = s2.sl → Rl C2 (wipe σ vs) H4 ⟨wipeD s1.sl vs, s4.n⟩ ∧ Same (Hd (Sof C2 σ2 s4) H4) (Hd (Sof C2 (wipe σ vs) ⟨wipeD s1.sl vs, s4.n⟩) H4) := fun {H4 s4} R5 e5 => by
      have w := R5.wiped vs
      rw [hww, e5, hwD] at w
      exact w
    refine ht C2 cK2 s2 _ hn σ2 H2 _ R4 fun b H3 s3 hb R5 => ?_
    cases b with
    | false =>
      refine pF (by decide) ?_
      have hb' : s3.sl = s2.sl ∧ dDc dg dt dk de (wipeD s1.sl vs) (items.drop (i + 1)) ds s3.n fun acc n => P acc ⟨s1.sl, n⟩ := by simpa using hb
      obtain ⟨R6, hs6⟩ := back R5 hb'.1
      obtain ⟨R7, eL, hacc⟩ := down R6
      exact ⟨es, ds, s3.n, eL, by omega, R7, hacc, hb'.2⟩
    | true =>
      refine pT rfl ?_
      have hb' := hb
      rw [if_pos rfl] at hb'
      refine hk C2 cK2 s3 _ hb' σ2 H3 _ R5 fun yk H4 kd s4 hk4 R6 hkd => ?_
      refine he C2 cK2 s4 _ hk4 σ2 H4 _ R6 fun z H5 dz s5 hz5 R7 hzd => ?_
      obtain ⟨hsl, k, ek, hrest⟩ := hz5
      have evk := key_v hkd ek
      subst evk
      obtain ⟨R8, hs8⟩ := back R7 hsl
      obtain ⟨R9, eL, hacc⟩ := down R8
      have hL : Sof (C1.hide L) (wipe σ vs) ⟨wipeD s1.sl vs, s5.n⟩ L := sof_hide.mpr (.inr rfl)
      have hzd2 := hzd.of hs8
      rw [cx2, cKx] at hzd2
      have hel : es.length = ds.length := hacc.len
      refine ⟨es, k, rfl, eL, by have := sz6; omega, putK es k z, dputD ds k dz, s5.n, upd_same, by have := putD_len ds k dz; omega, R9.hmut (fun z => n1 (.inr (.inl z))) n2 nZ, (put_da hacc hzd2).of (hd_upd hL), hrest⟩
end DL

set_option Elab.async false
set_option linter.all false
set_option maxRecDepth 100000
set_option maxHeartbeats 4000000
namespace DL
open PySem PySem.Spec PyProof.Rows L2 GG DD PT TK StX
variable {K : KX}
end DL

set_option Elab.async false
set_option linter.all false
set_option maxRecDepth 100000
set_option maxHeartbeats 4000000
namespace DL
open PySem PySem.Spec PyProof.Rows L2 GG DD PT TK
variable {K : KX}
theorem DaKt.append {H : Hp} : ∀ {es fs : List (List L2.Key × V)} {a b : List (PyData × PyData)}, DaKt K H es a → DaKt K H fs b → DaKt K H (es ++ fs) (a ++ b)
  | _, _, _, _, .nil, h => h
  | _, _, _, _, .cons h t, k => .cons h (t.append k)
theorem DaKt.len {H : Hp} : ∀ {es : List (List L2.Key × V)} {a : List (PyData × PyData)}, DaKt K H es a → es.length = a.length
  | _, _, .nil => rfl
  | _, _, .cons _ t => by rw [List.length_cons, List.length_cons, t.len]
section
variable {C : DC} {σ : L2.St} {H : Hp} {s : DSt}
end
end DL

set_option Elab.async false
set_option linter.all false
set_option maxRecDepth 100000
set_option maxHeartbeats 4000000
namespace DL
open PySem PySem.Spec PyProof.Rows L2 GG DD PT TK
section
variable {X : Cx} {o i e tg : Expr} {pos : Pos} {td ty te : TE}
end
variable {K : KX}
end DL

set_option Elab.async false
set_option linter.all false
set_option maxRecDepth 100000
set_option maxHeartbeats 4000000
namespace EMT
open PySem PySem.Spec PyProof.Rows L2 GG PT
variable {X : Cx}
end EMT
namespace DL
open PySem PySem.Spec PyProof.Rows L2 GG DD PT
variable {K : KX}
end DL

set_option Elab.async false
set_option linter.all false
set_option maxRecDepth 100000
set_option maxHeartbeats 4000000
namespace DL
open PySem PySem.Spec PyProof.Rows L2 GG DD PT
variable {K : KX}
theorem ArgsOk.get {K : PySem.W.Frag} {W : Wo} {S : Addr → Prop} {H : Hp} : ∀ {vs : List V} {as : List DV} {i : Nat} {dv : DV}, ArgsOk K W S H vs as → as[i]? = some dv → ∃ v, vs[i]? = some v ∧ ArgOk K W S H v dv
  | _, _, _, _, .nil, e => by simp at e
  | _, _, 0, _, .cons h _, e => by
    simp at e
    subst e
    exact ⟨_, rfl, h⟩
  | _, _, i + 1, dv, .cons _ t, e => by
    obtain ⟨v, h1, h2⟩ := ArgsOk.get (i := i) (dv := dv) t (by simpa using e)
    exact ⟨v, by simpa using h1, h2⟩
section
variable {P : Program} {w : World} {K : PySem.W.Frag} {mg : Str → Option Value} {base : Heap} {k : Nat} {f : Addr} {fd : FuncData} {ps : List Str}
end
theorem upd_upd {H : Hp} {a : Addr} {x y : HO} (h : H a = some y) : upd (upd H a x) a y = H := funext fun b => by
  by_cases e : b = a
  · subst e
    rw [upd_same, h]
  · rw [upd_ne e, upd_ne e]
/-- the list goes on, by what a called def did to it -/
theorem Rl.called {C : DC} {σ : L2.St} {H H' : Hp} {s : DSt} (R : Rl C σ H s) {i n' : Nat} {a : Addr} {us us' : List V} {ds' : List PyData} {dv ev : DV} (e : s.sl[i]? = some dv) (ho : isOwn dv = true) (hv : ev = .own ds' ∨ ev = .arg a ds') (h1 : σ[i]? = some (some (V.ref a))) (eH : H a = some (.lst us))
    (dk : DkOk C.W.pl H' n') (bt : ∀ b o, ¬ Mu C.W.pl b → b ≠ a → H b = some o → H' b = some o) (e' : H' a = some (.lst us')) (hd : DaAll C.K (Hd (Sof C σ s) H') us' ds') : Rl C σ H' ⟨s.sl.set i ev, s.n.on n'⟩ := by
  obtain ⟨f1, f2, f3⟩ := R.fr i a dv e ho h1
  have R2 : Rl C σ (upd H' a (.lst us)) ⟨s.sl, s.n.on n'⟩ := R.step (fun b o nb eb => by
    by_cases z : b = a
    · subst z
      rw [upd_same]
      rw [eH] at eb
      exact eb
    · rw [upd_ne z]
      exact bt b o nb z eb) (dk.upd fun z => f3 (mu_pl z))
  have sa : Sof C σ s a := .inr (.inr (.inl ⟨i, _, e, ho, h1⟩))
  have ho2 : isOwn ev = true := by rcases hv with rfl | rfl <;> rfl
  have hs1 : Same (Hd (Sof C σ s) H') (Hd (Sof C σ s) (upd H' a (.lst us))) := fun b u z => by
    obtain ⟨z1, z2⟩ := hd_some z
    have hb : b ≠ a := fun w => z1 (by rw [w]; exact sa)
    rw [hd_ne z1, upd_ne hb]
    exact z2
  have R3 := R2.mut (o := .lst us') (ev := ev) e ho ho2 h1 fun hs => by
    rcases hv with rfl | rfl
    · exact ⟨a, us', rfl, upd_same, (hd.of hs1).of hs⟩
    · exact ⟨us', rfl, upd_same, (hd.of hs1).of hs⟩
  rw [upd_upd e'] at R3
  exact R3
end DL

set_option Elab.async false
set_option linter.all false
set_option maxRecDepth 100000
set_option maxHeartbeats 4000000
namespace EQS
open PySem PySem.Spec PyProof.Rows L2 GG PT
variable {X : Cx}
end EQS
namespace DL
open PySem PySem.Spec PyProof.Rows L2 GG DD PT
variable {K : KX}
end DL

set_option Elab.async false
set_option linter.all false
set_option maxRecDepth 100000
set_option maxHeartbeats 4000000
namespace DL
open PySem PySem.Spec PyProof.Rows L2 GG DD PT
section
variable {P : Program} {w : World} {K : PySem.W.Frag} {mg : Str → Option Value} {base : Heap} {f : Addr} {fd : FuncData} {ps : List Str} {k : Nat}
end
end DL

set_option Elab.async false
set_option linter.all false
set_option maxRecDepth 100000
set_option maxHeartbeats 4000000
namespace GXR
open PySem PySem.Spec PyProof.Rows L2 GG GxR
/-- the generator expression's scope: its targets (slots vs), the walked thing, captured names -/
structure GScope (X : Cx) (scope : Scope) (vs : List Nat) : Prop where
  kind : scope.kind = .function
  co : scope.isCoroutine = false
  cell : ∀ y ∈ scope.names, y.2 ≠ .cell
  dot : scope.names.lookup (".0" : Str) = some NameKind.local
  free : ∀ y ∈ scope.names, y.2 = .free → X.env.scope.names.lookup y.1 = some .cell ∨ X.env.scope.names.lookup y.1 = some .free
  vis : ∀ (i : Nat) (x : Str), X.N[i]? = some x → i ∉ vs → Vis scope x → scope.names.lookup x = some .free
/-- the generator's frame as a context -/
def gcx (X : Cx) (scope : Scope) (code : Value) (C : Addr) (pins : List (Addr × Obj)) (fp : List Addr) (s0 : Shared) (H0 : Hp) (A' : Around) : Cx where
  prog := X.prog
  w := X.w
  K := X.K
  mg := X.mg
  base := X.base
  A := A'
  N := X.N
  s_0 := s0
  H_0 := H0
  env := genEnv scope (cloFrom X.env.cells scope.names []) C code builtinsNs X.env
  outer := X.stack
  stack := genEnv scope (cloFrom X.env.cells scope.names []) C code builtinsNs X.env :: X.stack
  ex := fp
  fn := fun _ => false
  calm := true
  pn := X.pn ++ pins
  xe := fun _ _ => False
section
variable {X : Cx} {scope : Scope} {vs : List Nat} {code : Value} {C : Addr} {pins : List (Addr × Obj)} {fp : List Addr} {s0 : Shared} {H0 : Hp} {A' : Around} {σ : L2.St}
theorem GScope.has (S : GScope X scope vs) (ok : X.Ok) : ∀ y ∈ scope.names, y.2 = .free → ∃ c, X.env.cells.lookup y.1 = some c := fun y hy e => (S.free y hy e).elim (fun z => ok.has _ (.inl z)) fun z => ok.has _ (.inr z)
theorem gcx_ok (I0 : Inv X pins σ H0 s0) (S : GScope X scope vs) (hf : ∀ b ∈ fp, FpOk X pins H0 b) (hfo : ∀ b ∈ fp, ∃ o, s0.heap.get? b = some o) (hC : s0.heap.objs.size = C) (hA : A'.frames = some (genEnv scope (cloFrom X.env.cells scope.names []) C code builtinsNs X.env :: X.stack)) (hh : A'.handled = none) :
    (gcx X scope code C pins fp s0 H0 A').Ok := by
  have sub : ∀ y c, (cloFrom X.env.cells scope.names []).lookup y = some c → X.env.cells.lookup y = some c := fun y c e => NdefX.clo_cm (S.has I0.ok) e
  have nofs : ∀ b ∈ fp, b ∉ frs X.stack := fun b hb hm => by
    obtain ⟨_, f1, f2, _⟩ := hf b hb
    rcases List.mem_cons.mp (I0.stkSub b hm) with z | z
    · exact f1 z
    · exact f2 z
  refine ⟨I0.ok.mod, S.kind, I0.ok.glob, rfl, Nat.le_of_eq hC, fun x y c h1 h2 => I0.ok.inj x y c (sub x c h1) (sub y c h2), fun x hx => ?_, fun x c h => (by cases h), fun _ => hh, hA, .inr ⟨rfl, rfl⟩, fun b hb => ⟨fun z => ?_, fun x c e => (hf b hb).2.2.2.2.1 x c (sub x c e)⟩, fun b o e => I0.bs b o e,
    Nat.le_trans I0.ok.bsz I0.sz, fun b o e hb => ?_, nofs, I0.stack, I0.stkFree⟩
  · have hx : scope.names.lookup x = some .cell ∨ scope.names.lookup x = some .free := hx
    rcases hx with hx | hx
    · exact absurd rfl (S.cell _ (PySem.mem_of_lookup hx))
    · have hm := PySem.mem_of_lookup hx
      obtain ⟨c, hc⟩ := S.has I0.ok _ hm rfl
      exact ⟨c, NdefX.clo_has (S.has I0.ok) hm hc⟩
  · obtain ⟨o, ho⟩ := hfo b hb
    have z1 := Heap.lt_size ho
    have z : b = C := z
    rw [z, ← hC] at z1
    exact absurd z1 (Nat.lt_irrefl _)
  · rcases (hf b hb).2.2.2.1 with z | z
    · exact I0.ok.noex b o e z
    · exact absurd (Nat.lt_of_lt_of_le (Heap.lt_size e) (Nat.le_trans I0.ok.bsz z)) (Nat.lt_irrefl _)
/-- the frame begins -/
theorem gcx_start {h' : Heap} {g' : Array GenState} {d' : Drawn} {t' : Nat} {m : Str → Option Value} {pl : List (Addr × Obj)} (I0 : Inv X pins σ H0 s0) (S : GScope X scope vs) (hf : ∀ b ∈ fp, FpOk X pins H0 b) (hfo : ∀ b ∈ fp, ∃ o, s0.heap.get? b = some o) (hC : s0.heap.objs.size = C)
    (hA : A'.frames = some (genEnv scope (cloFrom X.env.cells scope.names []) C code builtinsNs X.env :: X.stack)) (hh : A'.handled = none) (kh : ∀ b o, s0.heap.get? b = some o → h'.get? b = some o) (hn : h'.Ns C m) (hg : AllBare g')
    (hp : ∀ p ∈ pl, h'.get? p.1 = some p.2 ∧ C < p.1 ∧ ∀ v, p.2.data ≠ .cell v) : Inv (gcx X scope code C pins fp s0 H0 A') pl (wipe σ vs) H0 { s0 with heap := h', gens := g', drawn := d', toks := t' } := by
  have sub : ∀ y c, (cloFrom X.env.cells scope.names []).lookup y = some c → X.env.cells.lookup y = some c := fun y c e => NdefX.clo_cm (S.has I0.ok) e
  have fresh : H0 C = none := I0.hok.fresh (Nat.le_of_eq hC)
  refine ⟨gcx_ok I0 S hf hfo hC hA hh, rfl, hg, Un.kept kh, ⟨m, hn, fun i x v h1 h2 h3 => ?_⟩, fun x c h => ?_, fresh, fun x c h => I0.freeC x c (sub x c h), fun p hpm => ?_, I0.hok.kept kh, ?_⟩
  · obtain ⟨h4, h5⟩ := wipe_some (show (wipe σ vs)[i]? = some (some v) from h2)
    have hx : scope.names.lookup x = some .free := S.vis i x h1 h5 h3
    have hm := PySem.mem_of_lookup hx
    obtain ⟨m0, _, hl⟩ := I0.loc
    have vX : Vis X.env.scope x := (S.free _ hm rfl).elim (fun z => .inr (.inl z)) fun z => .inr (.inr z)
    obtain ⟨u, ru, q⟩ := hl i x v h1 h4 vX
    refine ⟨u, ru, .inr ⟨.inr hx, ?_⟩⟩
    rcases q with ⟨q, _⟩ | ⟨_, c, hc, o, ho, hd⟩
    · rcases S.free _ hm rfl with z | z
      · have q : X.env.scope.names.lookup x = some .local := q
        have z : X.env.scope.names.lookup x = some .cell := z
        rw [q] at z
        cases z
      · have q : X.env.scope.names.lookup x = some .local := q
        have z : X.env.scope.names.lookup x = some .free := z
        rw [q] at z
        cases z
    · exact ⟨c, NdefX.clo_has (S.has I0.ok) hm hc, o, kh _ _ ho, hd⟩
  · obtain ⟨v, o, ho, hd⟩ := I0.cell x c (sub x c h)
    exact ⟨v, o, kh _ _ ho, hd⟩
  · rcases List.mem_append.mp hpm with hpm | hpm
    · obtain ⟨p1, p2, p3, p4, p5⟩ := I0.pin p hpm
      refine ⟨kh _ _ p1, p2, fun z => ?_, fun z => ?_, p5⟩
      · have l := Heap.lt_size p1
        have z : p.1 = C := z
        rw [z, ← hC] at l
        exact Nat.lt_irrefl _ l
      · rcases List.mem_cons.mp (I0.stkSub p.1 z) with z | z
        · exact p3 z
        · exact p4 z
    · obtain ⟨p1, p2, p3⟩ := hp p hpm
      refine ⟨p1, I0.hok.fresh (by rw [hC]; exact Nat.le_of_lt p2), fun z => ?_, fun z => ?_, p3⟩
      · have z : p.1 = C := z
        rw [z] at p2
        exact Nat.lt_irrefl _ p2
      · rcases List.mem_cons.mp (I0.stkSub p.1 z) with z | z
        · have l := I0.lt
          rw [← z, hC] at l
          exact Nat.lt_irrefl _ (Nat.lt_trans p2 l)
        · exact I0.nofs (by rw [hC]; exact Nat.le_of_lt p2) z
  · rw [wipe_length]
    exact I0.len
/-- behind the generator: the def goes on -/
theorem gcx_up {σ' : L2.St} {H' : Hp} {s' : Shared} {pl : List (Addr × Obj)} (I0 : Inv X pins σ H0 s0) (hf : ∀ b ∈ fp, FpOk X pins H0 b) (J : Inv (gcx X scope code C pins fp s0 H0 A') pl σ' H' s') : Inv X pins σ H' s' :=
  I0.call' (ch := fp) J.os J.base J.hok J.bare fun b hb => ⟨(hf b hb).2.2.2.1, (hf b hb).2.1, fun x c e => (hf b hb).2.2.2.2.1 x c e, (hf b hb).2.2.2.2.2⟩
end
end GXR
namespace GXR
open PySem PySem.Spec PyProof.Rows L2 GG GxR
end GXR

set_option Elab.async false
set_option linter.all false
set_option maxRecDepth 100000
set_option maxHeartbeats 4000000
namespace GXR
open PySem PySem.Spec PyProof.Rows L2 GG GxR
theorem over_comp {A : Around} {elt tg iter : Expr} {ifs : List Expr} {scope : Scope} {gpos : Pos} {it : Value} {cenv : Env} : A.over (.compLoop (.GeneratorExp elt [⟨tg, iter, ifs, 0⟩] scope gpos) 0 it .none cenv) [] = A.deeper cenv := by
  first
    | rfl
    | (obtain ⟨hd, d, fr, gs, u⟩ := A; simp [Around.over, Around.deeper, marksOver, frameCount, unitsOf, envsOf, guardsOf, pushEnvs, pushGuards, Code.envs, Code.env?, Code.isFrame, Code.guards, Code.isGuard, Code.weight, Code.cUnits])
/-- between the turns -/
structure GSt (Y : Cx) (pl : List (Addr × Obj)) (σ0 : L2.St) (fp : List Addr) (tn : Nat → Heap → Prop) (i : Nat) (H : Hp) (s : Shared) : Prop where
  inv : Inv Y pl σ0 H s
  tn : tn i s.heap
  nf : ∀ b ∈ fp, H b = none
/-- what a turn does: J the walked thing, m its length; W at the head of a turn, VY behind a yield, Dn at the end -/
def Turns (J : It) (m : Nat) (σ0 : L2.St) (vs : List Nat) (g : TG) (tt : TT) (te : TE) (W : Nat → Int → Hp → Prop) (VY : Nat → Int → V → Hp → Prop) (Dn : Int → Hp → Prop) : Prop :=
  ∀ i c H, W i c H → (i = m ∧ J.stop i H ∧ Dn c H) ∨ (i < m ∧ J.go i H ∧ ∀ x H', J.yld i H x H' → g x σ0 H' fun σ2 H2 => wipe σ2 vs = σ0 ∧ tt σ2 H2 fun b H3 => if b = true then te σ2 H3 fun y H4 => VY (i + 1) c y H4 else W (i + 1) c H3)
def gProto (Y : Cx) (pl : List (Addr × Obj)) (σ0 : L2.St) (fp : List Addr) (tn : Nat → Heap → Prop) (m : Nat) (Cg : Int → Shared → Prop) (W : Nat → Int → Hp → Prop) (VY : Nat → Int → V → Hp → Prop) : Protocol := fun n s₀ v s1 kap =>
  ∃ (j : Nat) (c : Int) (y : V) (H' : Hp), Cg c s₀ ∧ RelV y v ∧ GSt Y pl σ0 fp tn j H' s1 ∧ VY j c y H' ∧ m ≤ n + j ∧ ∀ s'' c'' H'', Cg c'' s'' → GSt Y pl σ0 fp tn j H'' s'' → W j c'' H'' → kap (.send .none) s''
def gEnd (Y : Cx) (pl : List (Addr × Obj)) (σ0 : L2.St) (Cg : Int → Shared → Prop) (Dn : Int → Hp → Prop) : GenEnd := fun _ s₀ r s1 => r = .ok .next ∧ ∃ c H', Cg c s₀ ∧ Inv Y pl σ0 H' s1 ∧ Dn c H'
section
variable {Y : Cx} {A : Around} {pl : List (Addr × Obj)} {σ0 : L2.St} {fp : List Addr} {tn : Nat → Heap → Prop} {m : Nat} {Cg : Int → Shared → Prop} {W : Nat → Int → Hp → Prop} {VY : Nat → Int → V → Hp → Prop} {Dn : Int → Hp → Prop} {J : It} {vs : List Nat} {g : TG} {tt : TT} {te : TE}
  {elt tg iter : Expr} {ifs : List Expr} {scope : Scope} {gpos : Pos} {it : Addr}
theorem seg_loop (hx : ∀ e s, ¬ Y.xe e s) (hcm : Y.calm = true) (hA : Y.A = A.deeper Y.env) (hco : Y.env.scope.isCoroutine = false) (hfp : ∀ b ∈ fp, b ∈ Y.ex) (hpl : ∀ p ∈ Y.pn ++ pl, p.1 ∉ fp)
    (T : Turn Y.prog Y.w Y.K tg J fp it tn) (hg : PG Y tg g) (ht : PTs Y ifs tt) (he : PE Y elt te) (turn : Turns J m σ0 vs g tt te W VY Dn) :
    ∀ (k i n : Nat) (s₀ s : Shared) (c : Int) (H : Hp), Cg c s₀ → m ≤ k + i → m ≤ n + i → GSt Y pl σ0 fp tn i H s → W i c H →
      Seg (model Y.prog Y.w) A (gEnd Y pl σ0 Cg Dn) (gProto Y pl σ0 fp tn m Cg W VY) n s₀ (.compLoop (.GeneratorExp elt [⟨tg, iter, ifs, 0⟩] scope gpos) 0 (.ref it) .none Y.env)
        ((model Y.prog Y.w).den (.compLoop (.GeneratorExp elt [⟨tg, iter, ifs, 0⟩] scope gpos) 0 (.ref it) .none Y.env)) [] s := by
  have stat : ∀ {σ' : L2.St} {H' : Hp} {s' : Shared}, Inv Y pl σ' H' s' → (∀ b ∈ fp, H' b = none) → ∀ b ∈ fp, FpOk Y pl H' b := fun {σ' H' s'} I' hn b hb =>
    ⟨hn b hb, (I'.ok.exf b (hfp b hb)).1, I'.ok.exfs b (hfp b hb), .inl (hfp b hb), fun x c e => (I'.ok.exf b (hfp b hb)).2 x c e, fun p hp z => hpl p hp (z ▸ hb)⟩
  intro k
  induction k with
  | zero =>
    intro i n s₀ s c H hC hk hn G w0
    rcases turn i c H w0 with ⟨him, stop, dn⟩ | ⟨hlt, _⟩
    · show Seg _ A _ _ _ s₀ _ ((compTurn (.GeneratorExp elt [⟨tg, iter, ifs, 0⟩] scope gpos) 0 (.ref it) .none Y.env).onRaise (leaving Y.env)) [] s
      rw [compTurn_gen, Sem.onRaise_eq_wrap]
      refine seg_bind_wrap (wpAny_standAt ?_)
      refine seg_bind_wrap ?_
      rw [over_comp, ← hA]
      have td := T.done Y rfl rfl rfl hcm i pl s _ H (fun _ _ => False) G.inv (stat G.inv G.nf) G.tn stop
      refine wpAny_mono td (fun r s6 ⟨hr, I6⟩ => ?_) fun _ _ z => z.elim
      subst hr
      exact seg_end (.ok .next) ⟨rfl, c, H, hC, I6, dn⟩
    · omega
  | succ k ih =>
    intro i n s₀ s c H hC hk hn G w0
    rcases turn i c H w0 with ⟨him, stop, dn⟩ | ⟨hlt, go, step⟩
    · show Seg _ A _ _ _ s₀ _ ((compTurn (.GeneratorExp elt [⟨tg, iter, ifs, 0⟩] scope gpos) 0 (.ref it) .none Y.env).onRaise (leaving Y.env)) [] s
      rw [compTurn_gen, Sem.onRaise_eq_wrap]
      refine seg_bind_wrap (wpAny_standAt ?_)
      refine seg_bind_wrap ?_
      rw [over_comp, ← hA]
      have td := T.done Y rfl rfl rfl hcm i pl s _ H (fun _ _ => False) G.inv (stat G.inv G.nf) G.tn stop
      refine wpAny_mono td (fun r s6 ⟨hr, I6⟩ => ?_) fun _ _ z => z.elim
      subst hr
      exact seg_end (.ok .next) ⟨rfl, c, H, hC, I6, dn⟩
    · show Seg _ A _ _ _ s₀ _ ((compTurn (.GeneratorExp elt [⟨tg, iter, ifs, 0⟩] scope gpos) 0 (.ref it) .none Y.env).onRaise (leaving Y.env)) [] s
      rw [compTurn_gen, Sem.onRaise_eq_wrap]
      refine seg_bind_wrap (wpAny_standAt ?_)
      refine seg_bind_wrap ?_
      rw [over_comp, ← hA]
      have ti := T.item Y rfl rfl rfl hcm i pl s _ H (fun _ _ => False) G.inv (stat G.inv G.nf) G.tn go
      refine wpAny_mono ti (fun r s6 ⟨u, hr, h6⟩ => ?_) fun _ _ z => z.elim
      subst hr
      refine seg_bind_wrap ?_
      rw [over_comp, ← hA]
      refine wpAny_mono h6 (fun _ s7 ⟨x, H7, I7, r7, y7, st7, n7⟩ => ?_) fun _ _ z => z.elim
      have I7' := I7.pinned (stat I7 n7) (T.obj _ _ st7)
      refine seg_bind_wrap ?_
      rw [over_comp, ← hA]
      refine wpAny_mono (hg.run _ s7 _ H7 x u _ I7' r7 (step x H7 y7)) (fun _ s8 ⟨σ8, H8, I8, hw8, q8⟩ => ?_) fun e s z => absurd z (hx e s)
      refine seg_bind_wrap ?_
      rw [over_comp, ← hA]
      refine wpAny_mono (ht.run _ s8 σ8 H8 _ I8 q8) (fun b s9 ⟨H9, I9, q9⟩ => ?_) fun e s z => absurd z (hx e s)
      have fin : ∀ {s' : Shared} {H' : Hp}, Inv Y (pl ++ pinsAt fp s7.heap) σ8 H' s' → GSt Y pl σ0 fp tn (i + 1) H' s' := fun {s' H'} I' => by
        have pin' : ∀ b ∈ fp, ∀ o, s7.heap.get? b = some o → s'.heap.get? b = some o ∧ H' b = none := fun b hb o e =>
          let z := I'.pin (b, o) (List.mem_append_right _ (List.mem_append_right _ (mem_pinsAt hb e)))
          ⟨z.1, z.2.1⟩
        have hl : σ0.length = σ8.length := by rw [← hw8, wipe_length]
        refine ⟨(I'.unpinned (pins := pl)).weak hl (fun j v e => ?_), T.keep _ _ _ st7 fun b hb o e => (pin' b hb o e).1, fun b hb => ?_⟩
        · rw [← hw8] at e
          exact (wipe_some e).1
        · obtain ⟨o, e, _⟩ := T.obj _ _ st7 b hb
          exact (pin' b hb o e).2
      cases b with
      | false =>
        simp only [Bool.false_eq_true, if_false] at q9 ⊢
        exact seg_again rfl (ih (i + 1) n s₀ s9 c H9 hC (by omega) (by omega) (fin I9) q9)
      | true =>
        simp only [if_true] at q9 ⊢
        have hy : ∀ v, yieldOut Y.env v = yieldValue v := fun v => by simp only [yieldOut, hco, Bool.false_eq_true, if_false]
        simp only [hy]
        rw [Sem.bind_eq_wrap', Sem.bind_eq_wrap', Sem.wrap_wrap, Sem.wrap_wrap]
        refine seg_wrap ?_
        rw [over_comp, ← hA]
        refine wpAny_mono (he.run _ s9 σ8 H9 _ I9 q9) (fun z s10 ⟨yv, H10, I10, r10, vy⟩ => ?_) fun e s z => absurd z (hx e s)
        obtain ⟨n', rfl⟩ : ∃ n', n = n' + 1 := ⟨n - 1, by omega⟩
        exact seg_at (seg_yield rfl rfl rfl ⟨i + 1, c, yv, H10, hC, r10, fin I10, vy, by omega, fun s'' c'' H'' hC' G' w' => seg_again rfl (ih (i + 1) n' s'' s'' c'' H'' hC' (by omega) (by omega) G' w')⟩)
/-- from its beginning -/
theorem seg_start (hx : ∀ e s, ¬ Y.xe e s) (hcm : Y.calm = true) (hA : Y.A = A.deeper Y.env) (hco : Y.env.scope.isCoroutine = false) (hfp : ∀ b ∈ fp, b ∈ Y.ex) (hpl : ∀ p ∈ Y.pn ++ pl, p.1 ∉ fp)
    (T : Turn Y.prog Y.w Y.K tg J fp it tn) (hg : PG Y tg g) (ht : PTs Y ifs tt) (he : PE Y elt te) (turn : Turns J m σ0 vs g tt te W VY Dn) (s₀ s : Shared) (c : Int) (H : Hp) (hC : Cg c s₀) (G : GSt Y pl σ0 fp tn 0 H s) (w0 : W 0 c H) :
      Seg (model Y.prog Y.w) A (gEnd Y pl σ0 Cg Dn) (gProto Y pl σ0 fp tn m Cg W VY) m s₀ (.compStart (.GeneratorExp elt [⟨tg, iter, ifs, 0⟩] scope gpos) 0 (.ref it) .none Y.env)
        ((model Y.prog Y.w).den (.compStart (.GeneratorExp elt [⟨tg, iter, ifs, 0⟩] scope gpos) 0 (.ref it) .none Y.env)) [] s := by
  have loop := seg_loop (iter := iter) (scope := scope) (gpos := gpos) hx hcm hA hco hfp hpl T hg ht he turn m 0 m s₀ s c H hC (Nat.le_refl _) (Nat.le_refl _) G w0
  show Seg _ A _ _ _ s₀ _ ((compStart (.GeneratorExp elt [⟨tg, iter, ifs, 0⟩] scope gpos) 0 (.ref it) .none Y.env).onRaise (leaving Y.env)) [] s
  unfold compStart
  rw [Sem.onRaise_eq_wrap]
  show Seg _ A _ _ _ s₀ _ ((ask >>= _).wrap _ _ _ _) [] s
  refine seg_bind_wrap (wpAny_askSetting ?_)
  split
  · exact seg_again rfl loop
  · first
      | exact seg_bind_wrap (wpAny_rule (seg_bind_wrap (wpAny_standAt (seg_bind_wrap (T.self _ 0 s _ _ G.tn (seg_again rfl loop))))))
      | (refine seg_bind_wrap (wpAny_rule ?_); show Seg _ A _ _ _ s₀ _ ((standAt iter.pos >>= _).wrap _ _ _ _) [] s; exact seg_bind_wrap (wpAny_standAt (seg_bind_wrap (T.self _ 0 s _ _ G.tn (seg_again rfl loop)))))
end
end GXR

set_option Elab.async false
set_option linter.all false
set_option maxRecDepth 100000
set_option maxHeartbeats 4000000
namespace GXR
open PySem PySem.Spec PyProof.Rows L2 GG GxR GenW
theorem inv_gens {Y : Cx} {pl : List (Addr × Obj)} {σ : L2.St} {H : Hp} {s : Shared} (I : Inv Y pl σ H s) {g' : Array GenState} (hg : AllBare g') : Inv Y pl σ H { s with gens := g' } :=
  I.call' (s' := { s with gens := g' }) (ch := []) rfl Un.refl I.hok hg fun b hb => absurd hb (by simp)
section
variable {Y : Cx} {A : Around} {pl : List (Addr × Obj)} {σ0 : L2.St} {fp : List Addr} {tn : Nat → Heap → Prop} {m : Nat} {Cg : Int → Shared → Prop} {W : Nat → Int → Hp → Prop} {VY : Nat → Int → V → Hp → Prop} {Dn : Int → Hp → Prop} {a : Addr} {g : Nat}
theorem GSt.gens {i : Nat} {H : Hp} {s : Shared} (G : GSt Y pl σ0 fp tn i H s) {x : GenState} (hx : x.bare = true) : GSt Y pl σ0 fp tn i H (s.setGen g x) := ⟨inv_gens G.inv (allBare_setGen G.inv.bare hx), G.tn, G.nf⟩
/-- the generator stands at turn i and may yield n times more -/
def Ready (Y : Cx) (A : Around) (pl : List (Addr × Obj)) (σ0 : L2.St) (fp : List Addr) (tn : Nat → Heap → Prop) (m : Nat) (Cg : Int → Shared → Prop) (W : Nat → Int → Hp → Prop) (VY : Nat → Int → V → Hp → Prop) (Dn : Int → Hp → Prop) (g : Nat) (n i : Nat) (H : Hp) (s : Shared) : Prop :=
  GSt Y pl σ0 fp tn i H s ∧ ∃ gs, s.gens[g]? = some gs ∧ ∀ s'' c H'', Cg c s'' → GSt Y pl σ0 fp tn i H'' s'' → W i c H'' → gs.Goes (model Y.prog Y.w) A.in1 (gEnd Y pl σ0 Cg Dn) (gProto Y pl σ0 fp tn m Cg W VY) n (.send .none) s''
end
section
variable {Y : Cx} {A : Around} {pl : List (Addr × Obj)} {σ0 : L2.St} {fp : List Addr} {tn : Nat → Heap → Prop} {m : Nat} {W : Nat → Hp → Prop} {Qb : Bool → Hp → Prop} {a : Addr} {g : Nat} {R : Result → Shared → Prop}
end
end GXR

set_option Elab.async false
set_option linter.all false
set_option maxRecDepth 100000
set_option maxHeartbeats 4000000
namespace GXR
open PySem PySem.Spec PyProof.Rows L2 GG GxR GenW
theorem Rm.in1 {k : Nat} {A : Around} (r : Rm (k + 1) A) : Rm k A.in1 := ⟨r.room.in1, r.plain⟩
/-- a generator expression: made, and ready at its first turn -/
def MadeG (X : Cx) (pins : List (Addr × Obj)) (σ : L2.St) (scope : Scope) (vs : List Nat) (elt tg iter : Expr) (ifs : List Expr) (gpos : Pos) (J : It) (H2 : Hp) (A : Around) (g : TG) (tt : TT) (te : TE) (u : Value) (s5 : Shared) : Prop :=
  ∃ (a : Addr) (gi : Nat) (go : Obj) (Y : Cx) (fp : List Addr) (tn : Nat → Heap → Prop), u = .ref a ∧ Y.prog = X.prog ∧ Y.w = X.w ∧
    (∀ s' : Shared, (∀ p ∈ [(a, go)], s'.heap.get? p.1 = some p.2) → s'.heap.IsGen a gi) ∧ (∀ σ' H' s', Inv Y [(a, go)] σ' H' s' → Inv X pins σ H' s') ∧ (∀ j h h', tn j h → (∀ b ∈ fp, ∀ o, h.get? b = some o → h'.get? b = some o) → tn j h') ∧ (∀ b ∈ fp, ∃ o, s5.heap.get? b = some o) ∧
    ∀ (m : Nat) (Cg : Int → Shared → Prop) (W : Nat → Int → Hp → Prop) (VY : Nat → Int → V → Hp → Prop) (Dn : Int → Hp → Prop), Turns J m (wipe σ vs) vs g tt te W VY Dn → Ready Y A [(a, go)] (wipe σ vs) fp tn m Cg W VY Dn gi m 0 H2 s5
section
variable {X : Cx} {pins : List (Addr × Obj)} {σ : L2.St} {H : Hp} {s : Shared} {c P : Addr} {elt tg iter : Expr} {ifs : List Expr} {gpos p pos : Pos} {scope : Scope} {wi : TI} {g : TG} {tt : TT} {te : TE} {vs : List Nat} {k : Nat}
theorem made {Q' : Value → Shared → Prop} {R : It → Hp → Prop} {A : Around} (hr : Rm (k + 1) X.A) (hAd : A.in1.handled = none) (hAf : A.in1.frames = some X.stack) (hAr : Rm (k + 1) A.in1) (TB : TabB X.base X.mg c P) (hcode : X.env.code = .ref c) (S : GScope X scope vs) (hi : PI X tg iter wi)
    (hg : ∀ (code : Value) (C : Addr) (fp : List Addr) (s0 : Shared) (H0 : Hp) (A' : Around), Rm k A' → PG (gcx X scope code C pins fp s0 H0 A') tg g) (ht : ∀ (code : Value) (C : Addr) (fp : List Addr) (s0 : Shared) (H0 : Hp) (A' : Around), Rm k A' → PTs (gcx X scope code C pins fp s0 H0 A') ifs tt)
    (he : ∀ (code : Value) (C : Addr) (fp : List Addr) (s0 : Shared) (H0 : Hp) (A' : Around), Rm k A' → PE (gcx X scope code C pins fp s0 H0 A') elt te)
    (hs : ∀ v, genFold iter X.env v = pure v) (I : Inv X pins σ H s) (h : wi σ H fun J H1 => TabG H1 P ∧ ∀ H2, Tabbed P H1 H2 → R J H2)
    (hQ : ∀ J H2 u s5, R J H2 → MadeG X pins σ scope vs elt tg iter ifs gpos J H2 A g tt te u s5 → Q' u s5) :
    wpAny (model X.prog X.w) X.A (eval (.GeneratorExp elt [⟨tg, iter, ifs, 0⟩] scope gpos) X.env) Q' X.xe s := by
  refine wpAny_GeneratorExp_make S.co (closure_ok (S.has I.ok)) S.cell S.dot S.kind hr.room.depth ?_ hs
  refine thn (hi.run pins s σ H _ I h) fun xv s1 hx => thn hx fun itv s2 h2 => ?_
  obtain ⟨it, fp, tn, J, H1, e, I1, T, st2, f2, ⟨ps, hP, htr⟩, q⟩ := h2
  subst e
  have hPs : s2.heap.get? P = some { cls := .none, data := .fields ps } := I1.hok P _ hP
  have cd : PySem.W.CodeHd s2.heap c P := TB.code.keeps fun b u e => I1.bk b u e
  have lim2 : s2.heap.NoLimit := I1.nolimit
  obtain ⟨bm, ob, e1, e2, e3, e4, e5, e6, e7, e8⟩ := TB.bm
  have cont : ∀ (code : Value) (h3 : Heap) (tk : Nat) (ps' : Array Value), Heap.ExtBut P s2.heap h3 → s2.heap.objs.size ≤ h3.objs.size → h3.get? P = some { cls := .none, data := .fields ps' } → (∃ more, ps' = ps ++ more) → TriplesOk ps'.toList →
      wpAny (model X.prog X.w) X.A (builtinsFor X.env.globals X.env.builtins) (fun bi s₄ =>
        ∀ h', h'.Ns s₄.heap.objs.size (fun y => if y = ".0" then some (Value.ref it) else none) → Heap.SameBut s₄.heap.objs.size (s₄.heap.push { cls := .type "frame", data := .dict #[] }) h' →
          Q' (.ref h'.objs.size) { s₄ with
            gens := s₄.gens.push (.fresh (.compStart (.GeneratorExp elt [⟨tg, iter, ifs, 0⟩] scope gpos) 0 (.ref it) .none (genEnv scope (cloFrom X.env.cells scope.names []) s₄.heap.objs.size code bi X.env))),
            toks := s₄.toks + 1 + 1 + 1,
            heap := h'.push { cls := .type "generator", data := .fields #[.int s₄.gens.size 0, .str "<genexpr>" (s₄.toks + 1), .str (X.env.qual ++ "<genexpr>") (s₄.toks + 1 + 1)] } }) X.xe { s2 with heap := h3, toks := tk } := by
    intro code h3 tk ps' hx hsz hP3 hmore ht3
    have keep3 : ∀ b u, b ≠ P → s2.heap.get? b = some u → h3.get? b = some u := fun b u hb e => hx b u hb e
    refine wpAny_builtinsFor (m := X.mg) (by rw [I1.ok.glob]; exact (I1.mod.glob.keeps I1.bk).extBut hx TB.gP) e1 e2 (keep3 _ _ e4 (I1.bk _ _ e5)) e6 e7 e8 ?_
    obtain ⟨more, em⟩ := hmore
    -- the state before the frame
    have I3 : Inv X pins σ (upd H1 P (.tbl (ps ++ more))) { s2 with heap := h3, toks := tk } := inv_tab (more := more) (h' := h3) (g' := s2.gens) (d' := s2.drawn) (t' := tk) I1 hP keep3 (by rw [← em]; exact hP3) I1.bare
    have hTab : Tabbed P H1 (upd H1 P (.tbl (ps ++ more))) := ⟨⟨ps ++ more, upd_same, by rw [← em]; exact ht3⟩, fun b hb => upd_ne hb⟩
    generalize hH2 : upd H1 P (.tbl (ps ++ more)) = H2 at I3 hTab
    have fpP : ∀ b ∈ fp, b ≠ P := fun b hb z => by
      have := (f2 b hb).1
      rw [z, hP] at this
      cases this
    have f3 : ∀ b ∈ fp, FpOk X pins H2 b := fun b hb => ⟨by rw [hTab.2 b (fpP b hb)]; exact (f2 b hb).1, (f2 b hb).2⟩
    have fo3 : ∀ b ∈ fp, ∃ o, h3.get? b = some o := fun b hb => by
      obtain ⟨o, e, _⟩ := T.obj _ _ st2 b hb
      exact ⟨o, keep3 b o (fpP b hb) e⟩
    have st3 : tn 0 h3 := T.keep _ _ _ st2 fun b hb o e => keep3 b o (fpP b hb) e
    intro h' hn' hsb
    show Q' (.ref h'.objs.size) _
    have kh : ∀ b o, h3.get? b = some o → (h'.push ({ cls := .type "generator", data := .fields #[.int s2.gens.size 0, .str "<genexpr>" (tk + 1), .str (X.env.qual ++ "<genexpr>") (tk + 1 + 1)] } : Obj)).get? b = some o := fun b o e =>
      Heap.get?_push_of_some _ (hsb.extBut b o (Nat.ne_of_lt (Heap.lt_size e)) (Heap.get?_push_of_some _ e))
    have hC' : h3.objs.size < h'.objs.size := hn'.lt
    have hgo : (h'.push ({ cls := .type "generator", data := .fields #[.int s2.gens.size 0, .str "<genexpr>" (tk + 1), .str (X.env.qual ++ "<genexpr>") (tk + 1 + 1)] } : Obj)).get? h'.objs.size = some ({ cls := .type "generator", data := .fields #[.int s2.gens.size 0, .str "<genexpr>" (tk + 1), .str (X.env.qual ++ "<genexpr>") (tk + 1 + 1)] } : Obj) := Heap.get?_push_size _ rfl
    have IY := gcx_start (X := X) (code := code) (A' := A.in1.deeper (genEnv scope (cloFrom X.env.cells scope.names []) h3.objs.size code builtinsNs X.env)) (vs := vs) (d' := s2.drawn) (t' := tk + 1 + 1 + 1)
      (g' := s2.gens.push (.fresh (.compStart (.GeneratorExp elt [⟨tg, iter, ifs, 0⟩] scope gpos) 0 (.ref it) .none (genEnv scope (cloFrom X.env.cells scope.names []) h3.objs.size code builtinsNs X.env))))
      (pl := [(h'.objs.size, ({ cls := .type "generator", data := .fields #[.int s2.gens.size 0, .str "<genexpr>" (tk + 1), .str (X.env.qual ++ "<genexpr>") (tk + 1 + 1)] } : Obj))]) I3 S f3 fo3 rfl
      (Around.frames_deeper hAf) hAd kh (hn'.keeps fun b o e => Heap.get?_push_of_some _ e) (I1.bare.push rfl) (fun q hq => by
        obtain rfl := List.mem_singleton.mp hq
        exact ⟨hgo, hC', fun v z => by cases z⟩)
    refine hQ J H2 _ _ (q H2 hTab) ⟨h'.objs.size, s2.gens.size, ({ cls := .type "generator", data := .fields #[.int s2.gens.size 0, .str "<genexpr>" (tk + 1), .str (X.env.qual ++ "<genexpr>") (tk + 1 + 1)] } : Obj), (gcx X scope code h3.objs.size pins fp { s2 with heap := h3, toks := tk } H2 (A.in1.deeper (genEnv scope (cloFrom X.env.cells scope.names []) h3.objs.size code builtinsNs X.env))), fp, tn, rfl, rfl, rfl, fun s' hp => ⟨_, _, _, hp _ (List.mem_singleton.mpr rfl), rfl, rfl, rfl⟩, fun σ' H' s' J' => gcx_up I3 f3 J', fun j h h' st hk => T.keep _ _ _ st hk, fun b hb => (fo3 b hb).imp fun o e => kh b o e, fun m Cg W VY Dn turn => ⟨⟨IY, T.keep _ _ _ st3 fun b _ o e => kh b o e, fun b hb => (f3 b hb).1⟩, _, Array.getElem?_push_size .., fun s'' c H'' hC G w0 => ?_⟩⟩
    refine ⟨rfl, ?_⟩
    have rk := hAr.deep (genEnv scope (cloFrom X.env.cells scope.names []) h3.objs.size code builtinsNs X.env)
    exact seg_start (Y := gcx X scope code h3.objs.size pins fp { s2 with heap := h3, toks := tk } H2 (A.in1.deeper (genEnv scope (cloFrom X.env.cells scope.names []) h3.objs.size code builtinsNs X.env))) (fun _ _ z => z) rfl rfl S.co (fun b hb => hb) (fun q hq z => by
      rcases List.mem_append.mp hq with hq | hq
      · exact (f3 q.1 z).2.2.2.2.2 q hq rfl
      · have e := List.mem_singleton.mp hq
        obtain ⟨o, ho⟩ := fo3 q.1 z
        have l := Heap.lt_size ho
        rw [e] at l
        exact Nat.lt_irrefl _ (Nat.lt_trans l hC')) T (hg _ _ _ _ _ _ rk) (ht _ _ _ _ _ _ rk) (he _ _ _ _ _ _ rk) turn s'' s'' c H'' hC G w0
  refine ⟨lim2, ?_⟩
  cases hf : codeAmong gpos ps.toList with
  | none =>
    refine wpAny_genexprCodeX hcode (cd.code hPs htr) (cd.tab hPs) hf fun c' h' tk hx hge hlt hco' _ htab' _ => ?_
    obtain ⟨o1, vs1, f1, tf, fl, tg1, inF, tx, tt1, op, _, _, _, _, _, _, _, _, _, htr', _⟩ := hco'
    exact cont _ h' tk _ hx (Nat.le_trans hge (Nat.le_of_lt hlt)) htab'.2 ⟨_, rfl⟩ htr'
  | some cv =>
    refine wpAny_genexprCode_hit hcode (cd.code hPs htr) hf ?_
    exact cont cv s2.heap s2.toks ps (Heap.ExtBut.refl _ _) (Nat.le_refl _) hPs ⟨#[], by simp⟩ htr
end
end GXR

set_option Elab.async false
set_option linter.all false
set_option maxRecDepth 100000
set_option maxHeartbeats 4000000
namespace DL
open PySem PySem.Spec PyProof.Rows L2 GG DD PT GXR
variable {K : KX}
end DL

set_option Elab.async false
set_option linter.all false
set_option maxRecDepth 100000
set_option maxHeartbeats 4000000
namespace GG
open PySem PySem.Spec PyProof.Rows L2
section
variable {P : Program} {w : World} {K : PySem.W.Frag} {mg : Str → Option Value} {base : Heap} {j k : Nat} {f c : Addr} {fd : FuncData} {ps : List Str} {sp : Sp}
end
end GG
namespace DL
open PySem PySem.Spec PyProof.Rows L2 GG DD PT
section
variable {P : Program} {w : World} {K : PySem.W.Frag} {mg : Str → Option Value} {base : Heap} {k : Nat} {f c : Addr} {fd : FuncData} {ps : List Str}
end
end DL

set_option Elab.async false
set_option linter.all false
set_option maxRecDepth 100000
set_option maxHeartbeats 4000000
namespace GG
open PySem PySem.Spec PyProof.Rows L2
/-- the tables, tracked as they stand at the start -/
def HT (ts : List Addr) (H : Hp) : Hp := fun b => if b ∈ ts then some (.tbl #[]) else H b
end GG

set_option Elab.async false
set_option linter.all false
set_option maxRecDepth 100000
set_option maxHeartbeats 4000000
namespace DM
open PySem PySem.Spec PyProof.Rows L2
section
variable {P : Program} {w : World} {κ : Type} [DecidableEq κ] {kn : KeyKind P w κ} {A : Around} {E : Value → Shared → Prop} {s : Shared}
/-- an entry is put in, its hash known -/
theorem put_run {d : Addr} {kvs : List (κ × Value)} {k : κ} {u v : Value} {Q : Unit → Shared → Prop} (hu : kn.is k u = true) (hd : s.heap.DictOf kn d kvs) (hz : kvs.length ≤ sizeLine)
    (q : ∀ h', h'.DictOf kn d (stored kvs k v) → Heap.SameBut d s.heap h' → Q () { s with heap := h' }) : wpAny (model P w) A (dictPut d (kn.hash k) u v) Q E s := by
  obtain ⟨o, es, ep, g, c, dt, ko, pr, nd⟩ := hd
  have es_le : es.size ≤ sizeLine := by
    have a1 := pr.length
    have a2 : es.toList.length = es.size := by simp
    omega
  have ix : (es.findIdx? fun e => kn.is k e.key) = kvs.findIdx? fun kv => decide (kv.1 = k) := by
    have a := pr.findIdx k
    rw [← a]
    obtain ⟨l⟩ := es
    simp
  unfold dictPut
  refine wpAny_bind (wpAny_dictFind_of hu g dt ko ?_)
  rcases hi : es.findIdx? (fun e => kn.is k e.key) with _ | i
  · have no : k ∉ kvs.map (·.1) := not_mem_of_findIdx_none (ix ▸ hi)
    have no' : ¬ (kvs.any fun kv => decide (kv.1 = k)) = true := fun z => by
      obtain ⟨kv, m, e⟩ := List.any_eq_true.mp z
      exact no (List.mem_map.mpr ⟨kv, m, of_decide_eq_true e⟩)
    rw [hi]
    show wpAny _ _ (updateDictKeys d fun x => x.push ⟨kn.hash k, u, v⟩) _ _ _
    refine wpAny_updateDictKeys (hz := es_le) g dt (q _ ⟨_, _, ep + 1, Heap.get?_update_self _ g (Obj.isFreed_of_dict (Obj.data_mapDictKeys dt _)), c.mapDictKeys _, Obj.data_mapDictKeys dt _, ko.push hu _, ?_, ?_⟩ (Heap.SameBut.update ..))
    · rw [stored, if_neg no']
      have a := pr.append hu (kn.hash k) v
      obtain ⟨l⟩ := es
      simpa using a
    · rw [stored, if_neg no', List.map_append, List.nodup_append]
      refine ⟨nd, by simp, fun x hx y hy => ?_⟩
      have e : y = k := by simpa using hy
      exact fun z => no (e ▸ z ▸ hx)
  · have yes := any_of_findIdx_some (ix ▸ hi)
    rw [hi]
    show wpAny _ _ (updateDict d fun x => x.modify i fun e => { e with val := v }) _ _ _
    refine wpAny_updateDict g dt (q _ ⟨_, _, ep, Heap.get?_update_self _ g (Obj.isFreed_of_dict (Obj.data_mapDict dt _)), c.mapDict _, Obj.data_mapDict dt _, ko.modify _ _, ?_, ?_⟩ (Heap.SameBut.update ..))
    · have hl : (es.toList.findIdx? fun e => kn.is k e.key) = some i := by
        rw [← hi]
        obtain ⟨l⟩ := es
        simp
      have a := pr.modify nd hl v
      rw [stored, if_pos yes]
      obtain ⟨l⟩ := es
      simpa using a
    · rw [stored, if_pos yes, keys_map_store]
      exact nd
theorem ite_pre {M : Model} {α : Type} {c : Prop} [Decidable c] {m : Sem α} {g : α → Sem PUnit} {r : Sem Unit} {Q : Unit → Shared → Prop} (h : wpAny M A r Q E s) (hc : wpAny M A m (fun a s' => wpAny M A (g a) (fun _ s'' => s'' = s) E s') E s) :
    wpAny M A (if c then m >>= fun a => g a >>= fun _ => r else r) Q E s := by
  split
  · refine wpAny_bind (wpAny_mono hc (fun a s1 z => wpAny_bind (wpAny_mono z (fun _ s2 e => ?_) fun _ _ e => e)) fun _ _ e => e)
    rw [e]
    exact h
  · exact h
theorem merge_run {d b : Addr} {kvs more : List (κ × Value)} {Q : Unit → Shared → Prop} (ne : d ≠ b) (lo : (b == sysModules) = false) (hd : s.heap.DictOf kn d kvs) (hb : s.heap.DictOf kn b more) (hz : kvs.length + more.length ≤ sizeLine)
    (q : ∀ h', h'.DictOf kn d (merged kvs more) → Heap.SameBut d s.heap h' → Q () { s with heap := h' }) : wpAny (model P w) A (mergeMapping d (.ref b) false) Q E s := by
  obtain ⟨o1, es1, ep1, g1, c1, dt1, ko1, pr1, nd1⟩ := id hd
  obtain ⟨o2, es2, ep2, g2, c2, dt2, ko2, pr2, nd2⟩ := id hb
  have len : more.length = es2.size := by
    have a := pr2.length
    rw [← a]
    simp
  unfold mergeMapping
  refine wpAny_bind (wpAny_isInstance hb.typeIs isSubtype_dict_dict ?_)
  dsimp only
  rw [if_pos rfl]
  refine wpAny_bind (wpAny_specialOf hb.typeIs F.slot_dict_iter.lookup (wpAny_bind (wpAny_pure ?_)))
  rw [show (some (Value.builtin "dict.__iter__") == some (Value.builtin "dict.__iter__")) = true from beq_self_eq_true _]
  dsimp only
  rw [if_neg (by rw [lo]; exact Bool.false_ne_true)]
  refine wpAny_bind (wpAny_dictEntries g1 dt1 ?_)
  refine ite_pre ?_ ?_
  · refine wpAny_bind (wpAny_dictEntries g2 dt2 ?_)
    refine wpAny_bind (wpAny_dictEpoch g2 dt2 (wpAny_bind ?_))
    rw [List.range_eq_range']
    refine wpAny_forIn_list _
      (fun rest _ s' => ∃ (h' : Heap) (i : Nat), s' = { s with heap := h' } ∧ rest = List.range' i (es2.size - i) ∧ i ≤ es2.size ∧ h'.DictOf kn d (merged kvs (more.take i)) ∧ h'.get? b = some o2 ∧ Heap.SameBut d s.heap h')
      _ ?_ ?_ _ _ ⟨s.heap, 0, rfl, by simp, Nat.zero_le _, by simpa [merged] using hd, g2, Heap.SameBut.refl _ _⟩
    · rintro x rest c s' ⟨h', i, rfl, er, hi, hm, gb, sb⟩
      have lt : i < es2.size := by
        rcases Nat.lt_or_ge i es2.size with z | z
        · exact z
        · rw [Nat.sub_eq_zero_of_le z] at er
          simp at er
      have er' : x = i ∧ rest = List.range' (i + 1) (es2.size - (i + 1)) := by
        rw [show es2.size - i = (es2.size - (i + 1)) + 1 by omega, List.range'_succ] at er
        injection er with e1 e2
        exact ⟨e1, e2⟩
      obtain ⟨rfl, er2⟩ := er'
      refine wpAny_bind (wpAny_dictEntries gb dt2 ?_)
      rw [Array.getElem?_eq_getElem lt]
      dsimp only
      rw [if_neg Bool.false_ne_true]
      have ml : x < more.length := by rw [len]; exact lt
      have mk : more[x]? = some more[x] := List.getElem?_eq_getElem ml
      obtain ⟨k1, k2⟩ := pr2.get? (e := es2[x]) (k := more[x].1) (v := more[x].2) (by simp [lt]) mk
      obtain ⟨y, y1, y2⟩ := ko2 es2[x] (Array.getElem_mem lt)
      have ey : y = more[x].1 := kn.inj _ _ _ y1 k1
      subst ey
      rw [y2, k2]
      have z1 : (merged kvs (more.take x)).length ≤ sizeLine := by
        have a1 := merged_length_le kvs (more.take x)
        have a2 : (more.take x).length ≤ more.length := by rw [List.length_take]; omega
        omega
      refine wpAny_bind (wpAny_holding (put_run y1 hm z1 fun h2 hd2 sb2 => ?_))
      have gb2 : h2.get? b = some o2 := (sb2.2 b (Ne.symm ne)).trans gb
      refine wpAny_bind (wpAny_dictEpoch gb2 dt2 ?_)
      rw [if_neg (by simp)]
      exact wpAny_pure ⟨h2, x + 1, rfl, er2, lt, by rw [merged_take_succ kvs more x _ mk]; exact hd2, gb2, sb.trans sb2⟩
    · rintro c s' ⟨h', i, rfl, er, hi, hm, gb, sb⟩
      have ei : i = es2.size := by
        rcases Nat.lt_or_ge i es2.size with z | z
        · rw [show es2.size - i = (es2.size - (i + 1)) + 1 by omega, List.range'_succ] at er
          exact nomatch er
        · exact Nat.le_antisymm hi z
      refine wpAny_pure (q h' ?_ sb)
      rw [ei, ← len, List.take_length] at hm
      exact hm
  · refine wpAny_dictEntries g2 dt2 ?_
    have z : (forIn es2 PUnit.unit fun e (_ : PUnit) => (match e.key with
          | Value.ref a => do
            let __do_lift ← specialOf e.key (Str.ofString "__eq__")
            if (__do_lift != some (Value.builtin "object.__eq__")) = true then
                if (Array.filter (fun x => x.hash == e.hash) es2).size > 1 then do
                  let _ ← (unsupported "dict.merge-into-an-empty-dict:keys-of-equal-hash" : Sem PUnit)
                  pure (ForInStep.yield PUnit.unit)
                else pure (ForInStep.yield PUnit.unit)
              else pure (ForInStep.yield PUnit.unit)
          | x => pure (ForInStep.yield PUnit.unit) : Sem (ForInStep PUnit))) = pure PUnit.unit := by
      rw [← Array.forIn_toList]
      refine forIn_yield_id _ fun e he c => ?_
      obtain ⟨y, y1, _⟩ := ko2 e (Array.mem_toList_iff.mp he)
      have bv := kn.byValue y _ y1
      cases hk : e.key <;> first | rfl | (rw [hk] at bv; cases bv)
    exact wpAny_of_eq z rfl
end
end DM
namespace DM
open PySem PySem.Spec PyProof.Rows L2
/-- {**d, k: v}: d a dict with keys ints and texts -/
def tSplat (te tk tv : TE) : TE := fun σ H Q => ∀ p, H p = none → te σ (upd H p (.dK [])) fun m H1 => H1 p = some (.dK []) ∧ ∃ (a : Addr) (es : List (Key × V)), m = .ref a ∧ a ≠ p ∧ H1 a = some (.dK es) ∧ es.length ≤ 1000000 ∧
  ∀ b, b ≠ p → upd H1 p (.dK (mergeK [] es)) b = none → tk σ (upd (upd H1 p (.dK (mergeK [] es))) b (.dK [])) fun x H2 => tv σ H2 fun y H3 => H3 p = some (.dK (mergeK [] es)) ∧ H3 b = some (.dK []) ∧
    ∃ k : Key, x = kV k ∧ Q (.ref p) (upd (upd H3 b (.dK [(k, y)])) p (.dK (putK (mergeK [] es) k y)))
theorem sz7 : 1000002 ≤ sizeLine := by rw [sizeLine_eq]; decide
theorem dd_at {P : Program} {w : World} {h : Heap} {d : Addr} {kvs : List (Key × Value)} (z : h.DictOf (mixKind P w) d kvs) : ∃ q, h.get? d = some q := let ⟨q, _, _, hq, _⟩ := z; ⟨q, hq⟩
theorem pe_splat {X : Cx} {e k v : Expr} {pos : Pos} {te tk tv : TE} (he : PE X e te) (hk : PE X k tk) (hv : PE X v tv) : PE X (.Dict [none, some k] [e, v] pos) (tSplat te tk tv) := by
  refine ⟨fun pins s σ H Q I q => ?_⟩
  have np := I.hok.fresh (Nat.le_refl s.heap.objs.size)
  have I1 := I.laid (a := s.heap.objs.size) (o := .dK []) (h' := s.heap.push { cls := .type "dict", data := .dict #[] }) (t' := s.toks) (fun _ _ r => Heap.get?_push_of_some _ r) (Nat.le_refl _) (dk_empty s.heap I.big)
  have q1 := q _ np
  rw [arm_eval_Dict]
  refine wpAny_bind (wpAny_standAt ?_)
  show wpAny _ _ (dictDisplay [(none, do let x ← eval e X.env; standAt pos; pure x), (some (eval k X.env), do let x ← eval v X.env; standAt pos; pure x)]) _ _ _
  unfold dictDisplay
  simp only [List.forIn_cons, List.forIn_nil, pure_bind, bind_assoc, List.isEmpty_nil, if_true, List.nil_append, List.isEmpty_cons, List.length_singleton, Bool.false_eq_true, if_false, show ((1 : Nat) == 17) = false from rfl]
  refine wpAny_bind (wpAny_alloc ?_)
  generalize s.heap.objs.size = p at np I1 q1 ⊢
  refine wpAny_bind (wpAny_holding (wpAny_bind (thn (he.run pins _ σ _ _ I1 q1) fun u s1 ⟨x, H1, J1, rx, e1, a, es, ex, ap, ea, hl, q2⟩ => wpAny_bind (wpAny_standAt (wpAny_pure ?_)))))
  subst ex
  obtain rfl : u = Value.ref a := rx
  obtain ⟨_, lp, vs0, r0, d0⟩ := dk_of J1.hok e1
  cases r0
  obtain ⟨_, la, vs1, r1, d1⟩ := dk_of J1.hok ea
  have z1 : vs1.length ≤ 1000000 := by rw [← r1.length]; exact hl
  refine wpAny_bind (wpAny_onRaise (wpAny_tryCatch (wpAny_onRaise (wpAny_holding (merge_run (kn := mixKind X.prog X.w) (Ne.symm ap) la d0 d1 (by have := sz7; simp; omega) fun h1 dm sb => ?_)))))
  have zm : (mergeK [] es).length ≤ 1000000 := by
    have a1 := length_mergeK es []
    rw [List.length_nil] at a1
    omega
  have J2 : Inv X pins σ (upd H1 p (.dK (mergeK [] es))) { s1 with heap := h1 } := d_write (t' := s1.toks) J1 (by rw [e1]; exact True.intro) sb (dd_at dm) (dk_new (by have := sz7; omega) lp (r1.merge .nil) dm)
  refine wpAny_bind (wpAny_holding (wpAny_subDict (knd := mixKind X.prog X.w) (by simp) ?_))
  have nb := J2.hok.fresh (Nat.le_refl h1.objs.size)
  have J3 := J2.laid (a := h1.objs.size) (o := .dK []) (h' := h1.push { cls := .type "dict", data := .dict #[] }) (t' := s1.toks) (fun _ _ r => Heap.get?_push_of_some _ r) (Nat.le_refl _) (dk_empty h1 J2.big)
  have bp : h1.objs.size ≠ p := fun z => by
    rw [z, upd_same] at nb
    cases nb
  have q3 := q2 _ bp nb
  show wpAny _ _ (evalPairs _) _ _ { heap := h1.push { cls := .type "dict", data := .dict #[] }, gens := s1.gens, drawn := s1.drawn, toks := s1.toks, os := s1.os }
  dsimp only
  generalize h1.objs.size = b at nb J3 bp q3 ⊢
  refine evalPairs_cons (thn (hk.run pins _ σ _ _ J3 q3) fun u2 s2 ⟨x, H2, K1, rx, q4⟩ => wpAny_bind (thn (hv.run pins s2 σ H2 _ K1 q4) fun u3 s3 ⟨y, H3, K2, ry, e3, e4, k', ek, q5⟩ => wpAny_bind (wpAny_standAt (wpAny_pure (evalPairs_nil ?_)))))
  subst ek
  obtain ⟨_, lb, vs2, r2, d2⟩ := dk_of K2.hok e4
  cases r2
  refine ⟨[(k', u3)], ⟨kV_is rx, rfl, True.intro⟩, d2, fun h2 dn sc => ?_⟩
  have rk : KV [(k', y)] [(k', u3)] := .cons ⟨rfl, ry⟩ .nil
  have K3 : Inv X pins σ (upd H3 b (.dK [(k', y)])) { s3 with heap := h2, toks := s3.toks + 1 } := d_write (t' := s3.toks + 1) K2 (by rw [e4]; exact True.intro) sc (dd_at dn) (dk_new (by show 1 ≤ sizeLine; have := sz7; omega) lb rk dn)
  have e5 : upd H3 b (.dK [(k', y)]) p = some (.dK (mergeK [] es)) := by rw [upd_ne (Ne.symm bp)]; exact e3
  obtain ⟨_, _, vs3, r3, d3⟩ := dk_of K3.hok e5
  have z3 : vs3.length ≤ 1000000 := by rw [← r3.length]; exact zm
  refine wpAny_bind (wpAny_onRaise (wpAny_holding (merge_run (kn := mixKind X.prog X.w) (Ne.symm bp) lb d3 dn (by have := sz7; show vs3.length + 1 ≤ sizeLine; omega) fun h3 dq sd => wpAny_pure ?_)))
  have zp := length_putK (mergeK [] es) k' y
  exact ⟨.ref p, _, d_write (t' := s3.toks + 1) K3 (by rw [e5]; exact True.intro) sd (dd_at dq) (dk_new (by have := sz7; omega) lp (r3.put k' ry) dq), rfl, q5⟩
end DM

set_option Elab.async false
set_option linter.all false
set_option maxRecDepth 100000
set_option maxHeartbeats 4000000
namespace DL
open PySem PySem.Spec PyProof.Rows L2 GG DD PT DM
variable {K : KX}
def dSplat (de : DE) (k : L2.Key) (i : Int) : DK := fun s P => de s fun d s1 => match d with
  | .dict kvs => kvs.length ≤ 1000000 ∧ ∃ k0, keysD kvs = some k0 ∧ P (dputD (mergeD [] k0) k (.int i)) s1
  | _ => False
theorem keyD_kOf (k : L2.Key) : kOf (keyD k) = some k := by cases k <;> rfl
theorem keysD_da {H : Hp} : ∀ {es : List (L2.Key × V)} {kvs : List (PyData × PyData)} {k0 : List (L2.Key × PyData)}, DaKv K H es kvs → keysD kvs = some k0 → Paired (fun (a : L2.Key × V) (b : L2.Key × PyData) => a.1 = b.1 ∧ Da K H a.2 b.2) es k0 ∧ es.length = kvs.length
  | _, _, _, .nil, e => by
    cases e
    exact ⟨.nil, rfl⟩
  | _, _, _, .cons (k := k) (v := v) (r := r) (d := d) (ds := ds) h t, e => by
    unfold keysD at e
    rw [keyD_kOf] at e
    cases e2 : keysD ds with
    | none => rw [e2] at e; cases e
    | some r' =>
      rw [e2] at e
      cases e
      obtain ⟨p, l⟩ := keysD_da t e2
      exact ⟨.cons ⟨rfl, h⟩ p, by simp [l]⟩
theorem keysD_kt {H : Hp} {es : List (List L2.Key × V)} {kvs : List (PyData × PyData)} {k0 : List (L2.Key × PyData)} (h : DaKt K H es kvs) (n : es ≠ []) (e : keysD kvs = some k0) : False := by
  cases h with
  | nil => exact n rfl
  | cons h t =>
    unfold keysD at e
    rw [show kOf (.tuple _) = none from rfl] at e
    cases e
theorem upd_two {H : Hp} {p b : Addr} {x y z u : HO} (n : b ≠ p) : upd (upd (upd (upd H p x) b y) b z) p u = upd (upd (del H p) b z) p u := by
  funext c
  by_cases e : c = p
  · subst e
    rw [upd_same, upd_same]
  · rw [upd_ne e, upd_ne e]
    by_cases e2 : c = b
    · subst e2
      rw [upd_same, upd_same]
    · rw [upd_ne e2, upd_ne e2, upd_ne e2, upd_ne e, del_ne e]
theorem rd_splat {te : TE} {de : DE} {k : L2.Key} {i : Int} (h1 : RE K te de) : RD K (tSplat te (tC (kV k)) (tC (.int i))) (dSplat de k i) := fun C hC s P hd σ H Q R q p np => by
  obtain ⟨n1, n2⟩ := R.new np
  have nM : ¬ Mu C.W p := fun z => n1 (.inr (.inl z))
  have R1 : Rl ((C.hide p).pin p (.dK [])) σ (upd H p (.dK [])) s := (R.hidden np).pin (.inr rfl) nM upd_same
  refine h1 ((C.hide p).pin p (.dK [])) hC s _ hd σ _ _ R1 fun m H1 d s1 hp R2 hm => ⟨R2.unpin.2, ?_⟩
  cases d with
  | dict kvs =>
    obtain ⟨hl, k0, hk, hp⟩ := hp
    cases hm with
    | dct g hn t => exact (keysD_kt t hn hk).elim
    | @dic a es _ g t =>
      obtain ⟨g1, g3⟩ := hd_some g
      have ap : a ≠ p := fun z => g1 (.inl (.inr z))
      obtain ⟨pr, len⟩ := keysD_da t hk
      refine ⟨a, es, rfl, ap, g3, by omega, fun b bp nb => ?_⟩
      have nb1 : H1 b = none := by rw [upd_ne bp] at nb; exact nb
      obtain ⟨R3, hs⟩ := R2.unpin.1.leave (fun z => n1 (.inl z)) nM n2 fun a u z => (R.fz a u z).1
      have nb2 : del H1 p b = none := by rw [del_ne bp]; exact nb1
      refine ⟨by rw [upd_ne (Ne.symm bp)]; exact upd_same, upd_same, k, rfl, ?_⟩
      rw [upd_two bp]
      refine q p _ _ _ s1 hp (R3.ext (same_upd nb2)) (by rw [upd_ne (Ne.symm bp)]; exact if_pos rfl) (put_da ?_ (.int i))
      exact (merge_da pr .nil).of (hs.trans (R3.kp nb2))
  | _ => exact hp.elim
end DL

set_option Elab.async false
set_option linter.all false
set_option maxRecDepth 100000
set_option maxHeartbeats 4000000
namespace ZS
open PySem PySem.Spec PyProof.Rows L2
/-- kinds: true lists, false tuples -/
def ItB : Bool → Heap → Addr → Addr → Nat → Prop
  | true, h, i, l, k => h.IsListIter i l k
  | false, h, i, l, k => h.IsTupleIter i l k
def SeB : Bool → Heap → Addr → Array Value → Prop
  | true, h, l, xs => h.IsList l xs
  | false, h, l, xs => h.IsTuple l xs
theorem ItB.ext {b : Bool} {h h' : Heap} {i j l : Addr} {k : Nat} (x : ItB b h i l k) (e : Heap.ExtBut j h h') (n : i ≠ j) : ItB b h' i l k := by
  cases b with
  | true => exact Heap.IsListIter.extBut x e n
  | false => exact Heap.IsTupleIter.extBut x e n
theorem ItB.mv {b : Bool} {h h' : Heap} {i l : Addr} {k : Nat} (x : ItB b h i l k) (e : ∀ o, h.get? i = some o → h'.get? i = some o) : ItB b h' i l k := by
  cases b with
  | true => exact Heap.IsListIter.at x e
  | false => exact Heap.IsTupleIter.at x e
theorem ItB.ob {b : Bool} {h : Heap} {i l : Addr} {k : Nat} (x : ItB b h i l k) : ∃ o, h.get? i = some o ∧ ∀ v, o.data ≠ .cell v := by
  cases b with
  | true =>
    obtain ⟨o, e, _, d⟩ := x
    exact ⟨o, e, fun v q => by rw [d] at q; cases q⟩
  | false =>
    obtain ⟨o, e, _, d⟩ := x
    exact ⟨o, e, fun v q => by rw [d] at q; cases q⟩
theorem SeB.ext {b : Bool} {h h' : Heap} {j l : Addr} {xs : Array Value} (x : SeB b h l xs) (e : Heap.ExtBut j h h') (n : l ≠ j) : SeB b h' l xs := by
  cases b with
  | true => exact Heap.IsList.extBut x e n
  | false => exact Heap.IsTuple.extBut x e n
section
variable {P : Program} {w : World} {A : Around} {E : Value → Shared → Prop} {s : Shared}
/-- the zip object itself -/
abbrev ZAt (h : Heap) (z TI TO : Addr) (f0 : Value) (f1 : Bool) : Prop := h.get? z = some { cls := .type "zip", dict := none, data := .fields #[f0, .bool f1, .bool true, .ref TI, .ref TO], slots := #[] }
def F0 (f0 : Value) : Prop := f0 = .none ∨ ∃ T : Addr, f0 = rawInt T
/-- the zip between two turns -/
structure ZSt (b1 b2 : Bool) (z TI TO i1 i2 l1 l2 : Addr) (k : Nat) (h : Heap) : Prop where
  z : ∃ f0 f1, F0 f0 ∧ ZAt h z TI TO f0 f1
  i : IsPair h TI (.ref i1) (.ref i2)
  o : ∃ a b, IsPair h TO a b
  j1 : ItB b1 h i1 l1 k
  j2 : ItB b2 h i2 l2 k
theorem zs_self {z TI TO : Addr} {f0 : Value} {f1 : Bool} {Q : Value → Shared → Prop} (hz : ZAt s.heap z TI TO f0 f1) (h : Q (.ref z) s) : wpAny (model P w) A (pyIter (.ref z)) Q E s := by
  have hT : s.TypeIs (.ref z) "zip" := ⟨_, hz, rfl⟩
  refine wpAny_pyIter_slot hT F.slot_zip_iter (wpAny_call_entry F.slot_zip_iter hT F.entry_zip_iter ?_ (F.args_zip_iter_1 _))
  show wpAny _ _ (ret (.ref z)) _ _ s
  exact wpAny_pure ⟨_, rfl, "zip", _, hT, F.slot_zip_next.lookup, h⟩
end
abbrev itName (b : Bool) : String := if b then "list_iterator" else "tuple_iterator"
abbrev zH1 (b1 : Bool) (h : Heap) (l1 : Addr) : Heap := h.push { cls := .type (itName b1), data := .fields #[.ref l1, .int 0 0] }
abbrev zH2 (b1 b2 : Bool) (h : Heap) (l1 l2 : Addr) : Heap := (zH1 b1 h l1).push { cls := .type (itName b2), data := .fields #[.ref l2, .int 0 0] }
abbrev zH3 (b1 b2 : Bool) (h : Heap) (l1 l2 : Addr) : Heap := (zH2 b1 b2 h l1 l2).push { cls := .type "tuple", data := .seq #[.ref h.objs.size, .ref (zH1 b1 h l1).objs.size] }
abbrev zH4 (b1 b2 : Bool) (h : Heap) (l1 l2 : Addr) : Heap := (zH3 b1 b2 h l1 l2).push { cls := .type "tuple", data := .seq #[.none, .none] }
abbrev zH5 (b1 b2 : Bool) (h : Heap) (l1 l2 : Addr) : Heap := (zH4 b1 b2 h l1 l2).push { cls := .type "zip", data := .fields #[.none, .bool false, .bool true, .ref (zH2 b1 b2 h l1 l2).objs.size, .ref (zH3 b1 b2 h l1 l2).objs.size] }
theorem meets_new (b1 b2 : Bool) (l1 l2 : Addr) (xs ys : Array Value) :
    Meets (Builtin.«zip.__new__» ⟨[.type "zip", .ref l1, .ref l2], [("strict", .bool true)]⟩) (fun _ R s => SeB b1 s.heap l1 xs ∧ SeB b2 s.heap l2 ys ∧
      R (.ok (.ret (.ref (zH4 b1 b2 s.heap l1 l2).objs.size))) { s with heap := zH5 b1 b2 s.heap l1 l2 }) :=
  .of_wp fun prog w A R s h => by
    obtain ⟨hp, g, d, tk, os⟩ := s; obtain ⟨hl1, hl2, h⟩ := h
    have hsub := sub_zip
    cases b1 <;> cases b2
    · have hL1 : Heap.IsTuple (Shared.heap ⟨hp, g, d, tk, os⟩) l1 xs := hl1
      have hL2 : Heap.IsTuple (Shared.heap ⟨hp.push { cls := .type "tuple_iterator", data := .fields #[.ref l1, .int 0 0] }, g, d, tk, os⟩) l2 ys := Heap.IsTuple.push hl2 _
      wp_walk using wpAny_pyIter_tuple hL1, wpAny_pyIter_tuple hL2
      exact ⟨_, rfl, h⟩
    · have hL1 : Heap.IsTuple (Shared.heap ⟨hp, g, d, tk, os⟩) l1 xs := hl1
      have hL2 : Heap.IsList (Shared.heap ⟨hp.push { cls := .type "tuple_iterator", data := .fields #[.ref l1, .int 0 0] }, g, d, tk, os⟩) l2 ys := Heap.IsList.push hl2 _
      wp_walk using wpAny_pyIter_tuple hL1, wpAny_pyIter_list hL2
      exact ⟨_, rfl, h⟩
    · have hL1 : Heap.IsList (Shared.heap ⟨hp, g, d, tk, os⟩) l1 xs := hl1
      have hL2 : Heap.IsTuple (Shared.heap ⟨hp.push { cls := .type "list_iterator", data := .fields #[.ref l1, .int 0 0] }, g, d, tk, os⟩) l2 ys := Heap.IsTuple.push hl2 _
      wp_walk using wpAny_pyIter_list hL1, wpAny_pyIter_tuple hL2
      exact ⟨_, rfl, h⟩
    · have hL1 : Heap.IsList (Shared.heap ⟨hp, g, d, tk, os⟩) l1 xs := hl1
      have hL2 : Heap.IsList (Shared.heap ⟨hp.push { cls := .type "list_iterator", data := .fields #[.ref l1, .int 0 0] }, g, d, tk, os⟩) l2 ys := Heap.IsList.push hl2 _
      wp_walk using wpAny_pyIter_list hL1, wpAny_pyIter_list hL2
      exact ⟨_, rfl, h⟩
end ZS

set_option Elab.async false
set_option linter.all false
set_option maxRecDepth 100000
set_option maxHeartbeats 4000000
namespace ZS
open PySem PySem.Spec PyProof.Rows L2
section
variable {P : Program} {w : World} {A : Around} {E : Value → Shared → Prop} {s : Shared}
end
end ZS

set_option Elab.async false
set_option linter.all false
set_option maxRecDepth 100000
set_option maxHeartbeats 4000000
namespace ZS
open PySem PySem.Spec PyProof.Rows L2
end ZS

set_option Elab.async false
set_option linter.all false
set_option maxRecDepth 100000
set_option maxHeartbeats 4000000
namespace DL
open PySem PySem.Spec PyProof.Rows L2 GG DD PT ZS
variable {K : KX}
end DL

set_option Elab.async false
set_option linter.all false
set_option maxRecDepth 100000
set_option maxHeartbeats 4000000
namespace DL
open PySem PySem.Spec PyProof.Rows L2 GG DD PT
variable {K : KX}
end DL

set_option Elab.async false
set_option linter.all false
set_option maxRecDepth 100000
set_option maxHeartbeats 4000000
namespace RVT
open PySem PySem.Spec PyProof.Rows L2 GG PT HT
section
variable {prog : Program} {w : World} {A : Around} {E : Value → Shared → Prop} {s : Shared}
end
section
variable {X : Cx}
end
end RVT
namespace DL
open PySem PySem.Spec PyProof.Rows L2 GG DD PT
variable {K : KX}
end DL

set_option Elab.async false
set_option linter.all false
set_option maxRecDepth 100000
set_option maxHeartbeats 4000000
namespace MLS
open PySem PySem.Spec PyProof.Rows L2 GG
end MLS
namespace DL
open PySem PySem.Spec PyProof.Rows L2 GG DD PT
variable {K : KX}
end DL

set_option Elab.async false
set_option linter.all false
set_option maxRecDepth 100000
set_option maxHeartbeats 4000000
namespace KX
open PySem PySem.Spec L2 GG
open PySem.HandSPX (excO)

abbrev veTail : List Value := [.type "ValueError", .type "Exception", .type "BaseException", .type "object"]

/-- what making and initialising lean on: the __new__ of nB, the __init__ of iB -/
structure Ways (nB newId iB initId : String) (tail : List Value) : Prop where
  nKind : builtinKind newId = some .builtinFn
  nSplit : splitId newId = some (nB, "__new__")
  nRow : Manifest.signature? newId = some ⟨.any, nB, nB, .cls, [⟨"args", .varPos, false⟩, ⟨"kwargs", .varKw, false⟩]⟩
  nStar : (nB != "*") = true
  ends : newId.endsWith ".__new__" = true
  owner : newId.dropRight 8 = nB
  entry : entryFor table newId = some Builtin.«BaseException.__new__»
  quiet : newId.startsWith "lifetime." = false
  canon : Manifest.canonical newId = Manifest.canonical "BaseException.__new__"
  iSlot : Slot iB "__init__" initId
  iEntry : entryFor table initId = some Builtin.«BaseException.__init__»
  iSplit : splitId initId = some (iB, "__init__")
  iKind : builtinKind initId = some .slot
  iRow : Manifest.signature? initId = some ⟨.positional, "*", iB, .self, [⟨"args", .varPos, false⟩]⟩
  iStar : (iB != "*") = true
  hasN : tail.contains (.type nB) = true
  hasI : tail.contains (.type iB) = true
  noA : tail.contains (.type "AttributeError") = false
  noN : tail.contains (.type "NameError") = false
  hasO : tail.contains (.type "object") = true
  passes : ∀ self, PySem.refuseLoop self "__setattr__" tail = pure ()
theorem ways_VE : Ways "ValueError" "ValueError.__new__" "ValueError" "ValueError.__init__" veTail :=
  let F := PySem.F.excBase_ValueError
  ⟨F.newKind, F.newSplit, F.newRow, F.noStar, F.ends, F.owner, F.entry, F.quiet, F.canon, F.init, F.initEntry, F.initSplit, F.initKind, F.initRow, F.noStar, F.hasB, F.hasB, F.noAttr, F.noName, by decide +kernel, PySem.F.store_ValueError.passes⟩
/-- own classes, then the tail -/
inductive Own (tail : List Value) : List Value → Prop
  | base : Own tail tail
  | more {c : Addr} {r : List Value} : Own tail r → Own tail (.ref c :: r)
theorem Own.has {tail l : List Value} (h : Own tail l) (X : String) : l.contains (.type X) = tail.contains (.type X) := by
  induction h with
  | base => rfl
  | more _ ih => rw [List.contains_cons, ih]; rfl
theorem Own.pass {tail l : List Value} (h : Own tail l) (self : Value) (p : PySem.refuseLoop self "__setattr__" tail = pure ()) : PySem.refuseLoop self "__setattr__" l = pure () := by
  induction h with
  | base => exact p
  | more _ ih => rw [PySem.refuseLoop_ref]; exact ih

section
variable {M : Model} {A : Around} {E : Value → Shared → Prop} {h : Heap} {g : Array GenState} {d : Drawn} {t : Nat} {os : OsState}
variable {nm q : Str} {C N : Addr} {bs bm tail : List Value} {hdct : Bool} {sn : List Str} {sub : List Value} {ab : Bool} {col : Option Bool} {dd : Option Addr} {k0 k1 k2 k3 k5 : Option Value} {nB newId iB initId : String}
theorem chk_init (W : Ways nB newId iB initId tail) (O : Own tail bm) {e : Addr} {oe : Obj} {rest : List Value} {Q : Unit → Shared → Prop} (hC : h.get? C = some (excClassObj nm q C N bs bm hdct sn sub ab col dd k0 k1 k2 k3 k5 newId))
    (he : h.get? e = some oe) (hcls : oe.cls = .ref C) (hq : Q () ⟨h, g, d, t, os⟩) : wpAny M A (checkBuiltinCall initId ⟨.ref e :: rest, []⟩) Q E ⟨h, g, d, t, os⟩ := by
  have hin : (Value.ref C :: bm).contains (.type iB) = true := by rw [List.contains_cons, O.has, W.hasI, Bool.or_true]
  have hs := W.iStar
  simp only [checkBuiltinCall, W.iKind, W.iSplit, W.iRow]
  repeat (first | (with_reducible refine wpAny_loadPart_at he ?_; rw [hcls]) | with_reducible refine wpAny_loadPart_at hC ?_ | (with_reducible refine wpAny_isSubtype_exc hC ?_; rw [hin]) | wp_step)
  refine wpAny_onRaise ?_
  have hchk : ∀ (a b : String) (n : Nat), Bind.check ⟨.positional, "*", iB, .self, [⟨"args", .varPos, false⟩]⟩ a b n (List.map (fun x => x.fst) ({ pos := Value.ref e :: rest } : Args).kw) = pure () := fun a b n => check_star_args _ _ _ _ _ _
  rw [hchk]
  exact wpAny_pure hq
end
section
variable {prog : Program} {w : World} {A : Around} {E : Value → Shared → Prop} {R : Result → Shared → Prop} {h : Heap} {g : Array GenState} {d : Drawn} {t : Nat} {os : OsState}
variable {nm q : Str} {C N : Addr} {bs bm tail : List Value} {hdct : Bool} {sn : List Str} {sub : List Value} {ab : Bool} {col : Option Bool} {dd : Option Addr} {k0 k1 k2 k3 k5 : Option Value} {nB newId iB initId : String}
/-- the two objects of a new exception: its arguments, itself -/
abbrev laid (h : Heap) (C : Addr) (rest : List Value) : Heap := (h.push (PySem.W.kdv_tup rest)).push (excO C h.objs.size)
/-- the base's __init__ on a new exception: its arguments are laid anew -/
theorem run_init (W : Ways nB newId iB initId tail) (O : Own tail bm) {e t0 : Addr} {rest : List Value} (hC : h.get? C = some (excClassObj nm q C N bs bm hdct sn sub ab col dd k0 k1 k2 k3 k5 newId)) (he : h.get? e = some (excO C t0)) (hrest : rest.length ≤ sizeLine)
    (hq : ∀ h' t1, (∀ b o, b ≠ e → h.get? b = some o → h'.get? b = some o) → h'.get? e = some (excO C t1) → R (.ok (.ret .none)) ⟨h', g, d, t, os⟩) :
    codeAny (model prog w) A (.call (.builtin initId) ⟨.ref e :: rest, []⟩) R ⟨h, g, d, t, os⟩ := by
  refine codeAny_call_builtin W.iSlot.plain W.iEntry (chk_init W O hC he rfl ?_)
  wp_walk
  refine hq _ h.objs.size (fun b o hb ho => ?_) ?_
  · rw [Heap.get?_update_other _ _ (Ne.symm hb)]
    exact Heap.get?_push_of_some _ ho
  · rw [Heap.get?_update_self _ (Heap.get?_push_of_some _ he) rfl]
    rfl
end
end KX

set_option Elab.async false
set_option linter.all false
set_option maxRecDepth 100000
set_option maxHeartbeats 4000000
namespace KX
open PySem PySem.Spec L2 GG Builtin Builtin.ObjectAttr
open PySem.HandSPX (excO)
/-- what the written part says of an own exception class -/
structure Xc (K : PySem.W.Frag) (newId : String) (tail : List Value) (C : Addr) : Prop where
  cls : ∃ nm q N bs bm sn sub ab col dd k0 k1 k2 k3 k5, K.lookup C = some (excClassObj nm q C N bs bm true sn sub ab col dd k0 k1 k2 k3 k5 newId) ∧ Own tail bm
  kC : PySem.W.keepIn K (.ref C) = true
  sa : PySem.W.findIn K (.ref C) "__setattr__" = some (some (.builtin "object.__setattr__"))
  ga : PySem.W.findIn K (.ref C) "__getattribute__" = some (some (.builtin "BaseException.__getattribute__"))
  gg : PySem.W.findIn K (.ref C) "__getattr__" = some none
  exC : PySem.W.subIn K (.ref C) (.type "BaseException") = some true
  dC : PySem.W.hasDictIn K C = true
  cC : PySem.W.findIn K (.ref C) "__class__" = some (some (.builtin "object.__class__"))
  mC : PySem.W.mroIn K C (.type "object") = some true
section
variable {prog : Program} {w : World} {A : Around} {E : Value → Shared → Prop} {R : Result → Shared → Prop} {hp : Heap} {g : Array GenState} {d : Drawn} {t : Nat} {os : OsState} {nB newId iB initId : String} {tail : List Value}
/-- object.__setattr__ on an own exception without a dict -/
theorem osa0 (W : Ways nB newId iB initId tail) {K : PySem.W.Frag} {name : Str} {tk : Tok} {v : Value} {x C : Addr} {fv : Array Value} {cd : ClassData} {bm : List Value}
    (X : K.In hp) (hx : hp.get? x = some { cls := .ref C, data := .fields fv }) (hcd : PySem.W.clsIn K C = some cd) (hm : cd.mro = .ref C :: bm) (O : Own tail bm) (hh : cd.hasDict = true) (ha : PySem.W.findIn K (.ref C) name = some none)
    (hq : ∀ h' tk' dx, (∀ b o, b ≠ x → hp.get? b = some o → h'.get? b = some o) → hp.objs.size ≤ dx → dx ≠ x → h'.get? x = some { cls := .ref C, dict := some dx, data := .fields fv } →
      h'.Ns1 dx (fun y => if y = name then some v else none) → R (.ok (.ret .none)) ⟨h', g, d, tk', os⟩) :
    codeAny (model prog w) A (.call (.builtin "object.__setattr__") ⟨[.ref x, .str name tk, v], []⟩) R ⟨hp, g, d, t, os⟩ := by
  have I : PySem.W.InstAt hp x { cls := .ref C, data := .fields fv } C none := ⟨hx, rfl, rfl, trivial⟩
  have SF := F.store_object
  have O' : Own tail cd.mro := by rw [hm]; exact .more O
  have hob : cd.mro.contains (.type "object") = true := (O'.has "object").trans W.hasO
  have hxs : x ≠ hp.objs.size := Nat.ne_of_lt (Heap.lt_size hx)
  have sub : PySem.W.Looks (model prog w) hp (isInstance (.ref x) (.type "object")) true := I.type.andThen (PySem.W.looks_mroIn X (by unfold PySem.W.mroIn; rw [hcd, Option.bind_some, if_neg (by rw [hm]; exact fun z => Bool.noConfusion z), hob]))
  refine codeAny_call_builtin SF.slot.plain SF.entry (@PySem.W.check_slot (model prog w) _ _ ⟨hp, g, d, t, os⟩ "object.__setattr__" "object" "__setattr__" (.ref x) [.str name tk, v] [] _ SF.kind SF.split sub (SF.args (.ref x) (.str name tk) v) ?_)
  have hmr : PySem.W.Looks (model prog w) hp (mroOf (.ref C)) cd.mro := (PySem.W.looks_clsIn X hcd).andThen .now
  have L3 : PySem.W.Looks (model prog w) hp (storeTaker? none) none := .now
  have hcls : PySem.W.Looks (model prog w) hp (classData C) cd := PySem.W.looks_clsIn X hcd
  rw [PySem.W.osa_eq, refuse_eq]
  refine wpAny_bind (wpAny_bind (I.type.at (wpAny_bind (hmr.at ?_))))
  rw [O'.pass _ (W.passes _)]
  refine wpAny_pure (wpAny_bind (I.type.at (wpAny_bind ((PySem.W.looks_findIn X ha).at (wpAny_bind (L3.at ?_))))))
  show wpAny _ _ (storeInOwnDict (.ref x) (.ref C) (.str name tk) name v false) _ _ _
  obtain ⟨nm, bs, mro, ns, qn, hd, sn, sb, ab, col, del⟩ := cd
  dsimp only at hh
  subst hh
  unfold storeInOwnDict ownDictForStores
  repeat (first | with_reducible refine PySem.HandSPX.store_in_new ?_ ?_ | with_reducible refine wpAny_loadPart_at hx ?_ | with_reducible refine hcls.at ?_ | wp_step)
  · exact ⟨_, #[], _, (Heap.get?_update_ne _ _ _ _ hxs.symm).trans (Heap.get?_push_at rfl rfl), rfl, fun e he => absurd he (by simp), fun _ => rfl⟩
  · intro h' tk' hn' hs
    have hx₁ : (hp.push { cls := .type "dict", data := .dict #[] }).get? x = some { cls := .ref C, data := .fields fv } := Heap.get?_push_of_some _ hx
    refine hq h' tk' hp.objs.size (fun b o hb ho => ?_) (Nat.le_refl _) hxs.symm ?_ hn'
    · exact (hs.2 b (Nat.ne_of_lt (Heap.lt_size ho))).trans ((Heap.get?_update_ne _ _ _ _ hb).trans (Heap.get?_push_of_some _ ho))
    · exact (hs.2 x hxs).trans (Heap.get?_update_self _ hx₁ rfl)
end
end KX
namespace KX
open PySem PySem.Spec PyProof.Rows L2 GG
open PySem.HandSPX (excO)
section
variable {X : Cx} {pins : List (Addr × Obj)} {σ : L2.St} {H : Hp} {s : Shared} {a C dx : Addr} {f : Str} {y : V} {u : Value} {fs : List (Str × V)} {nB newId iB initId : String} {tail : List Value}
/-- an exception gets its dict -/
theorem inv_dict {t1 : Addr} {h' : Heap} {tk' : Nat} (I : Inv X pins σ H s) (e : H a = some (exo a C none)) (k : ∀ b o, b ≠ a → s.heap.get? b = some o → h'.get? b = some o) (dn : s.heap.objs.size ≤ dx) (dne : dx ≠ a)
    (hx : h'.get? a = some { cls := .ref C, dict := some dx, data := .fields #[.ref t1, .none, .none, .none, .bool false, .none] }) {mA : Str → Option Value} (hn : h'.Ns1 dx mA) (r : ∀ g, RelO (fs.lookup g) (mA g)) :
    H dx = none ∧ Inv X pins σ (upd (upd H dx (exd dx fs)) a (exo a C (some dx))) { s with heap := h', toks := tk' } := by
  have hnd : H dx = none := I.hok.fresh dn
  have lt : ∀ {b : Addr} {o : Obj}, s.heap.get? b = some o → b ≠ dx := fun {b o} q => Nat.ne_of_lt (Nat.lt_of_lt_of_le (Heap.lt_size q) dn)
  have na : ∀ {b : Addr}, H b = none → b ≠ a := fun {b} n z => by
    rw [z, e] at n
    cases n
  have far : ∀ {b : Addr} {o : HO}, H b = some o → exo a C none ≠ o → upd (upd H dx (exd dx fs)) a (exo a C (some dx)) b = some o := fun {b o} q ne => by
    rw [upd_ne (at_ne e q ne), upd_ne (ne_of_none q hnd)]
    exact q
  refine ⟨hnd, I.un (t' := tk') {
    keep := fun b o q n _ _ => k b o (na n) q
    slot := fun b o q n _ _ => ⟨o.slots, k b o (na n) q⟩
    free := fun b o q n _ => by rw [upd_ne (na n), upd_ne (lt q)]; exact n
    there := fun b o q _ => by
      by_cases hb : b = a
      · rw [hb]
        exact ⟨_, hx⟩
      · exact ⟨o, k b o hb q⟩
    tups := fun b xs q => far q exo_tup
    frzs := fun b o v q => far q exo_frz
    tbls := fun b ps q => ⟨#[], by rw [far q exo_tbl]; simp⟩ } fun b o q => ?_⟩
  by_cases hb : b = a
  · subst hb
    rw [upd_same] at q
    cases q
    exact exo_ok hx
  · rw [upd_ne hb] at q
    by_cases hd : b = dx
    · subst hd
      rw [upd_same] at q
      cases q
      exact exd_ok hn r
    · rw [upd_ne hd] at q
      refine (I.hok b o q).stay (fun c v hc z => k c v ?_ z) (fun c hc => far hc exo_own) (fun c xs hc => far hc exo_tup)
      rcases hc with hc | hc
      · rw [hc]
        exact hb
      · exact at_ne e hc exo_own
/-- self.f = y on an exception without a dict -/
theorem put_new {A : Around} {Q : Unit → Shared → Prop} {E : Value → Shared → Prop} (W : Ways nB newId iB initId tail) (T : Xc X.K newId tail C) (I : Inv X pins σ H s) (e : H a = some (exo a C none)) (hno : PySem.W.findIn X.K (.ref C) f = some none) (ry : RelV y u)
    (h : ∀ dx s', H dx = none → dx ≠ a → Inv X pins σ (upd (upd H dx (exd dx [(f, y)])) a (exo a C (some dx))) s' → Q () s') : wpAny (model X.prog X.w) A (setAttr (.ref a) f u) Q E s := by
  obtain ⟨nm, q, N, bs, bm, sn, sub, ab, col, dd, k0, k1, k2, k3, k5, hC, hO⟩ := T.cls
  have hcl : PySem.W.clsIn X.K C = some { name := nm, bases := bs, mro := .ref C :: bm, ns := N, qualname := q, hasDict := true, slotNames := sn, subclasses := sub, abstract := ab, collection := col, hasDel := false } := by unfold PySem.W.clsIn; rw [hC] <;> rfl
  obtain ⟨t1, ho⟩ := exo_at I.hok e
  obtain ⟨hp, g, d, t, os⟩ := s
  refine PySem.W.set_plain I.kIn (ox := { cls := .ref C, dict := none, data := .fields #[.ref t1, .none, .none, .none, .bool false, .none] }) (od := none) ⟨ho, rfl, rfl, trivial⟩ T.sa ?_
  refine osa0 W I.kIn ho hcl rfl hO rfl hno (fun h' tk' dx k dn dne hx hn => ?_)
  obtain ⟨z, J⟩ := inv_dict (tk' := tk') (fs := [(f, y)]) I e k dn dne hx hn (relO_put (fs := []) ry fun g => True.intro)
  exact h dx _ z dne J
/-- the base's __init__ on a new exception -/
theorem init_go {us : List Value} {A : Around} {Q : Value → Shared → Prop} {E : Value → Shared → Prop} (W : Ways nB newId iB initId tail) (T : Xc X.K newId tail C) (I : Inv X pins σ H s) (e : H a = some (exo a C none)) (hl : us.length ≤ sizeLine) (h : ∀ s', Inv X pins σ H s' → Q .none s') :
    wpAny (model X.prog X.w) A (call (.builtin initId) (.ref a :: us)) Q E s := by
  obtain ⟨nm, q, N, bs, bm, sn, sub, ab, col, dd, k0, k1, k2, k3, k5, hC, hO⟩ := T.cls
  obtain ⟨t1, ho⟩ := exo_at I.hok e
  obtain ⟨hp, g, d, t, os⟩ := s
  refine wpAny_call (run_init W hO (I.kIn _ _ hC) ho hl fun h' t2 k hx => ?_)
  have J := I.write (t' := t) (x := a) (e := a) (o := exo a C none) (by rw [e]; exact True.intro) (.inl rfl) k ⟨_, hx⟩ (exo_ok hx)
  have same : upd H a (exo a C none) = H := by
    funext b
    by_cases hb : b = a
    · rw [hb, upd_same, e]
    · rw [upd_ne hb]
  rw [same] at J
  exact h _ J
end

/-- B.__init__(self, ..), B an own exception class or a built-in one -/
def tBI (K : PySem.W.Frag) (newId : String) (tail : List Value) (ta : TA) : TE := fun σ H Q => ta σ H fun vs H1 => ∃ (a C : Addr) (ws : List V), vs = .ref a :: ws ∧ ws.length ≤ 1000 ∧ Xc K newId tail C ∧ H1 a = some (exo a C none) ∧ Q .non H1
/-- self.f = e, the first field of a new exception -/
def tPut (K : PySem.W.Frag) (newId : String) (tail : List Value) (f : Str) (to te : TE) : TS := fun D σ H => te σ H fun y H1 => to σ H1 fun x H2 => ∃ a C : Addr, x = .ref a ∧ Xc K newId tail C ∧ PySem.W.findIn K (.ref C) f = some none ∧
  H2 a = some (exo a C none) ∧ ∀ dx, H2 dx = none → dx ≠ a → D.nx σ (upd (upd H2 dx (exd dx [(f, y)])) a (exo a C (some dx)))
section
variable {X : Cx} {o e : Expr} {es : List Expr} {to te : TE} {ta : TA} {f x : Str} {p p' p1 p2 pos : Pos} {nB newId iB initId : String} {tail : List Value}
theorem bi_tail {pins : List (Addr × Obj)} {σ : L2.St} {H : Hp} {s : Shared} {Q : VK} (W : Ways nB newId iB initId tail) (ha : PA X (e :: es) ta) (I : Inv X pins σ H s) (h : tBI X.K newId tail ta σ H Q)
    (he : starEach (e :: es) X.env = (false, eval e X.env) :: starEach es X.env) (hpl : (backTo pos (starEach es X.env)).any (·.1) = false) :
    wpAny (model X.prog X.w) X.A (callWith pos (Value.builtin initId) [] (backTo pos (starEach (e :: es) X.env)) []) (EP X pins σ Q) X.xe s := by
  refine PyProof.Rows.callWith_method1 (thn (ha.run pos pins _ σ H _ I h) fun us s1 ⟨vs, H1, I1, r1, a, C, ws, ev, hl, T, ea, q⟩ => ?_) he hpl
  subst ev
  cases r1 with
  | @cons _ u0 _ ur ra rw' =>
    obtain rfl : u0 = Value.ref a := ra
    have hlen : ur.length ≤ sizeLine := by
      rw [← Paired.length rw', sizeLine_eq]
      omega
    exact init_go W T I1 ea hlen fun s' J => ⟨.non, H1, J, rfl, q⟩
/-- B a class of the text -/
theorem pe_bi {C0 : Addr} {pl : Sem Bool} (W : Ways nB newId iB initId tail) (hg : Gl X x) (hm : X.mg x = some (.ref C0)) (sp : PySem.W.specialIn X.K (.ref C0) "__getattribute__" = some (some (.builtin "type.__getattribute__")))
    (rd : PySem.W.readsIn X.K C0 (.type "type") = true) (fc : PySem.W.findCls X.K (.ref C0) (.type "type") "__init__" = some (.val (.builtin initId))) (hdd : PySem.W.handedIn (.builtin initId) = true) (ha : PA X (e :: es) ta) (hdb : (x == ("__debug__" : Str)) = false := by decide)
    (hc : eval (.Call (.Attribute (.Name x p1) "__init__" p2) (e :: es) [] pos) X.env = (do
      let ov ← eval (.Name x p1) X.env
      standAt p2.atName
      let (f, first) ← holding [ov] (getMethod ov "__init__" pl)
      callWith pos f first (backTo pos (starEach (e :: es) X.env)) (backToKw pos (keywordEach [] X.env))) := by rfl)
    (he : starEach (e :: es) X.env = (false, eval e X.env) :: starEach es X.env := by rfl) (hpl : (backTo pos (starEach es X.env)).any (·.1) = false := by rfl) :
    PE X (.Call (.Attribute (.Name x p1) "__init__" p2) (e :: es) [] pos) (tBI X.K newId tail ta) := by
  refine ⟨fun pins s σ H Q I h => ?_⟩
  refine PySem.W.methodCall_KW (ld_glob I hg hm ?_ hdb) hc
  refine PySem.W.method_cls I.kIn sp (PySem.W.cls_value I.kIn rd fc hdd ?_)
  exact bi_tail W ha (I.tok _) h he hpl
theorem ps_put (W : Ways nB newId iB initId tail) (ho : PE X o to) (he : PE X e te) (hs : swapsWith e (some (.Attribute o f p')) pos.line X.env = pure false := by rfl) : PS X (.Assign [.Attribute o f p'] e pos) (tPut X.K newId tail f to te) := by
  refine ⟨fun pins s σ H D I h => ?_⟩
  refine plainObj_wpAny_Assign_Attribute (thn (he.run pins s σ H _ I h) fun v s1 ⟨y, H1, I1, r1, q1⟩ => thn (ho.run pins s1 σ H1 _ I1 q1) fun u s2 ⟨x, H2, I2, r2, a, C, ex, T, hno, ea, q⟩ => ?_) hs
  subst ex
  obtain rfl : u = Value.ref a := r2
  exact put_new W T I2 ea hno r1 fun dx s' n ne J => ⟨σ, _, J, q dx n ne⟩
end
end KX

set_option Elab.async false
set_option linter.all false
set_option maxRecDepth 100000
set_option maxHeartbeats 4000000
namespace KX
open PySem PySem.Spec PyProof.Rows L2 GG
open PySem.HandSPX (excO)
/-- the promise of such an __init__ -/
def spI (K : PySem.W.Frag) (newId : String) (tail : List Value) (f : Str) : Sp := fun vs H Q _ => ∃ (a C : Addr) (v : V), vs = [.ref a, v] ∧ Xc K newId tail C ∧ PySem.W.findIn K (.ref C) f = some none ∧ H a = some (exo a C none) ∧
  ∀ d, H d = none → d ≠ a → Q .non (upd (upd H d (exd d [(f, v)])) a (exo a C (some d)))
section
variable {X : Cx} {C fI : Addr} {k : Nat} {fd : FuncData} {f x n : Str} {p pos : Pos} {e : Expr} {es : List Expr} {kws : List Keyword} {ta te : TA} {tx : TE} {nB newId iB initId : String} {tail : List Value}
structure ClsRead (K : PySem.W.Frag) : Prop where
  gs : PySem.W.specialIn K (.builtin "object.__class__") "__get__" = some (some (.builtin "getset_descriptor.__get__"))
  tk : PySem.W.takesIn K (.builtin "object.__class__") = some true
end
end KX

set_option Elab.async false
set_option linter.all false
set_option maxRecDepth 100000
set_option maxHeartbeats 4000000
namespace KX
open PySem PySem.Spec L2 GG
def ownB (tail : List Value) : List Value → Bool
  | .ref c :: r => ownB tail r
  | l => l == tail
theorem own_of {tail : List Value} : ∀ {l : List Value}, ownB tail l = true → Own tail l
  | [], h => by
    have e : ([] : List Value) = tail := beq_iff_eq.mp h
    rw [← e]
    exact .base
  | v :: r, h => by
    cases v with
    | ref c => exact .more (own_of h)
    | _ =>
      have e := beq_iff_eq.mp h
      rw [e]
      exact .base
def clsOk (K : PySem.W.Frag) (newId : String) (tail : List Value) (C : Addr) : Bool := match K.lookup C with
  | some ⟨cl, _, .cls cd, sl⟩ => (match cd.mro, sl.toList with
    | .ref C' :: bm, [_, _, _, _, some (.builtin n), _] => cl == .type "type" && C' == C && n == newId && !cd.hasDel && cd.hasDict && ownB tail bm
    | _, _ => false)
  | _ => false
theorem clsOk_of {K : PySem.W.Frag} {newId : String} {tail : List Value} {C : Addr} (q : clsOk K newId tail C = true) : ∃ nm q N bs bm sn sub ab col dd k0 k1 k2 k3 k5, K.lookup C = some (excClassObj nm q C N bs bm true sn sub ab col dd k0 k1 k2 k3 k5 newId) ∧ Own tail bm := by
  unfold clsOk at q
  split at q
  · rename_i cl dd cd sl ho
    split at q
    · rename_i C' bm k0 k1 k2 k3 n k5 hm hs
      simp only [Bool.and_eq_true, beq_iff_eq, Bool.not_eq_true'] at q
      obtain ⟨⟨⟨⟨⟨rfl, rfl⟩, rfl⟩, hdel⟩, hdd⟩, ht⟩ := q
      obtain ⟨nm, bs, mro, ns, qn, hd, sn, sub, ab, col, del⟩ := cd
      dsimp only at hm hdel hdd
      subst hm hdel hdd
      have hsl : sl = #[k0, k1, k2, k3, some (.builtin n), k5] := by
        obtain ⟨l⟩ := sl
        simp only at hs
        rw [hs]
      subst hsl
      exact ⟨nm, qn, ns, bs, bm, sn, sub, ab, col, dd, k0, k1, k2, k3, k5, ho, own_of ht⟩
    · cases q
  · cases q
def xcOk (K : PySem.W.Frag) (newId : String) (tail : List Value) (C : Addr) : Bool := clsOk K newId tail C && (PySem.W.keepIn K (.ref C) && (PySem.W.findIn K (.ref C) "__setattr__" == some (some (.builtin "object.__setattr__")) && (PySem.W.findIn K (.ref C) "__getattribute__" == some (some (.builtin "BaseException.__getattribute__")) && (PySem.W.findIn K (.ref C) "__getattr__" == some none &&
  (PySem.W.subIn K (.ref C) (.type "BaseException") == some true && (PySem.W.hasDictIn K C && (PySem.W.findIn K (.ref C) "__class__" == some (some (.builtin "object.__class__")) && PySem.W.mroIn K C (.type "object") == some true)))))))
theorem xc_of {K : PySem.W.Frag} {newId : String} {tail : List Value} {C : Addr} (q : xcOk K newId tail C = true) : Xc K newId tail C := by
  unfold xcOk at q
  simp only [Bool.and_eq_true, beq_iff_eq] at q
  obtain ⟨h0, h1, h2, h3, h4, h5, h6, h7, h8⟩ := q
  exact ⟨clsOk_of h0, h1, h2, h3, h4, h5, h6, h7, h8⟩
end KX

set_option Elab.async false
set_option linter.all false
set_option maxRecDepth 100000
set_option maxHeartbeats 4000000
namespace EXI
open PySem PySem.Spec PyProof.Rows L2 GG KX
section
variable {P : Program} {w : World} {K : PySem.W.Frag} {mg : Str → Option Value} {base : Heap}
theorem init_VE {nB newId iB initId : String} {tail : List Value} {fI C0 : Addr} {fd : FuncData} {st : Stmt} {qual f : Str} {p1 p2 p3 p4 p5 p6 p7 p8 p9 p10 : Pos} (W : Ways nB newId iB initId tail) (F : L2.Fun K "__init__" qual st fI fd) (S : FnScope ["self", f] ["self", f] (defScope st))
    (hb : defBody st = [.Expr (.Call (.Attribute (.Name "RoundCallsError" p1) "__init__" p2) [.Name "self" p3, .Name f p4] [] p5) p6, .Assign [.Attribute (.Name "self" p7) f p8] (.Name f p9) p10])
    (hx : (defScope st).names.lookup ("RoundCallsError" : Str) = some .globalImplicit) (hs : (defScope st).names.lookup ("self" : Str) = some .local) (hf : (defScope st).names.lookup f = some .local) (hd : (f == ("__debug__" : Str)) = false) (hcd : (f == ("__classdict__" : Str)) = false)
    (how : (mg "RoundCallsError" = some (.ref C0) ∧ PySem.W.specialIn K (.ref C0) "__getattribute__" = some (some (.builtin "type.__getattribute__")) ∧ PySem.W.readsIn K C0 (.type "type") = true ∧ PySem.W.findCls K (.ref C0) (.type "type") "__init__" = some (.val (.builtin initId))))
    (hc : ∀ env : Env, ∃ pl : Sem Bool, eval (.Call (.Attribute (.Name "RoundCallsError" p1) "__init__" p2) [.Name "self" p3, .Name f p4] [] p5) env = (do
      let ov ← eval (.Name "RoundCallsError" p1) env
      standAt p2.atName
      let (g, first) ← holding [ov] (getMethod ov "__init__" pl)
      callWith p5 g first (backTo p5 (starEach [.Name "self" p3, .Name f p4] env)) (backToKw p5 (keywordEach [] env))))
    (hdd : PySem.W.handedIn (.builtin initId) = true) : FnOk P w K mg base CX0 1 fI fd ["self", f] (spI K newId tail f) := by
  refine F.ok S (fun vs H Q E h => ?_) (fun cdv A outer s H vs Q E hr h => ?_)
  · obtain ⟨a, C, v, rfl, _⟩ := h
    rfl
  · obtain ⟨a, C, v, rfl, T, hno, ha, q⟩ := h
    have q2 : ∀ (sg : L2.St), sg = [some (.ref a), some v] → tPut K newId tail f (tVar 0) (tVar 1) { nx := fun _ H' => Q .non H', rt := Q } sg H := fun sg e => by
      subst e
      exact ⟨v, rfl, .ref a, rfl, a, C, rfl, T, hno, ha, fun dx n ne => q dx n ne⟩
    rw [hb]
    obtain ⟨pl, hc⟩ := hc (cxOf CX0 P w K mg base ["self", f] qual (defScope st) fI cdv A outer s H E).nox.env
    obtain ⟨hm, h1, h2, h3⟩ := how
    refine ⟨_, pss_cons (ps_expr (pe_bi (pl := pl) (hc := hc) W hx hm h1 h2 h3 hdd (pa_cons (pv 0 rfl (.inl hs)) (pa_cons (pv 1 rfl (.inl hf) hd hcd) pa_nil)))) (pss_one (ps_put W (pv 0 rfl (.inl hs)) (pv 1 rfl (.inl hf) hd hcd))), ?_⟩
    exact ⟨.ref a, rfl, v, rfl, a, C, [v], rfl, (by show 1 ≤ 1000; decide), T, ha, q2 _ rfl⟩
end
end EXI

set_option Elab.async false
set_option linter.all false
set_option maxRecDepth 100000
set_option maxHeartbeats 4000000
namespace GG
open PySem PySem.Spec PyProof.Rows L2
/-- a def keeps a promise wherever no repr runs around; it may raise -/
structure Fgx (P : Program) (w : World) (K : PySem.W.Frag) (mg : Str → Option Value) (base : Heap) (k : Nat) (f : Addr) (fd : FuncData) (ps : List Str) (sp : Sp) : Prop where
  size : ∀ vs H Q E, sp vs H Q E → vs.length = ps.length
  go : ∀ (A : Around) (outer : List Env) (s : Shared) (H : Hp) (args : Args) (us : List Value) (vs : List V) (Q : VK) (E : XK), Rm k A → Env0 P w K mg base A outer s H → BindsTo s fd args (ps.zip us) → Vals vs us → sp vs H Q E →
    codeAny (model P w) A (.call (.ref f) args) (CR (L2.CX P w) outer P w H s Q E) s
section
variable {P : Program} {w : World} {K : PySem.W.Frag} {mg : Str → Option Value} {base : Heap} {j k : Nat} {f : Addr} {fd : FuncData} {ps : List Str} {sp : Sp}
theorem Fgx.mono (F : Fgx P w K mg base j f fd ps sp) (h : j ≤ k) : Fgx P w K mg base k f fd ps sp := ⟨F.size, fun A o s H a us vs Q E r => F.go A o s H a us vs Q E (r.mono h)⟩
theorem okgx {x qual : Str} {st : Stmt} {N : List Str} (F : L2.Fun K x qual st f fd) (S : FnScope N ps (defScope st)) (size : ∀ vs H Q E, sp vs H Q E → vs.length = ps.length)
    (body : ∀ (cdv : Value) (A : Around) (outer : List Env) (s : Shared) (H : Hp) (vs : List V) (Q : VK) (E : XK), Rm k (A.deeper (envOfC qual (defScope st) s.heap.objs.size f cdv)) → sp vs H Q E →
      ∃ t, PSs (cxOf (L2.CX P w) P w K mg base N qual (defScope st) f cdv A outer s H E) (defBody st) t ∧ t { nx := fun _ H' => Q .non H', rt := Q } (start N vs) H) :
    Fgx P w K mg base (k + 1) f fd ps sp := by
  obtain ⟨oc, od, kV, doc, pm, an, cdv, ct, osl, rfl, lk, hcd⟩ := F.ex
  refine ⟨size, fun A outer s H args us vs Q E hr e0 hb r hsp => ?_⟩
  have hl := size _ _ _ _ hsp
  have keep : ∀ b o, base.get? b = some o → s.heap.get? b = some o := fun b o e => (e0.bs b o e).1
  have KX : K.In s.heap := e0.mod.kin.keeps keep
  have lim : s.heap.NoLimit := e0.mod.nolimit.keeps keep
  have hkind : ∀ y ∈ ps.zip us, (defScope st).names.lookup y.1 = some .local ∨ ((defScope st).names.lookup y.1 = some .cell ∧ ((cellsFrom (s.heap.objs.size + 1) (defScope st).names []).lookup y.1).isSome = true) := by
    rintro ⟨n, v⟩ hy
    rcases S.par n (List.of_mem_zip hy).1 with q | q
    · exact .inl q
    · exact .inr ⟨q, PySem.W.cellsFrom_some _ _ _ (.inl q)⟩
  refine codeAny_call_function hr.room.depth (KX _ _ lk) rfl S.co S.gen rfl (PySem.W.codeRec_of KX hcd) (hb _ _ _ _ ?_)
  refine wpAny_newFunctionEnv_cells S.kind hkind fun env he s1 x => ?_
  subst he
  refine ⟨lim.keeps x.toInCall.keep, codeAny_func ?_⟩
  obtain ⟨t, ht, hq⟩ := body cdv A outer s H vs Q E (hr.deep _) hsp
  have I := inv_start (CX := L2.CX P w) (E := E) S hr.room.hd e0 hl r x
  refine wpAny_mono (ht.run [] s1 (start N vs) H _ I hq) (fun fl s' hs => ?_) fun e s' hs => hs
  have fin : ∀ {σ' : L2.St} {H' : Hp} {v : V} {u : Value}, Inv (cxOf (L2.CX P w) P w K mg base N qual (defScope st) f cdv A outer s H E) [] σ' H' s' → RelV v u → Q v H' → CE outer P w H s Q u s' :=
    fun {σ' H' v u} J rv q => ⟨v, H', J.os, J.bare, J.base, J.hok, rv, q⟩
  cases fl with
  | ret u => obtain ⟨v, σ', H', J, rv, q⟩ := hs; exact fin J rv q
  | next => obtain ⟨σ', H', J, q⟩ := hs; exact fin (v := V.non) (u := Value.none) J rfl q
  | brk => obtain ⟨_, _, _, q⟩ := hs; exact q.elim
  | cont => obtain ⟨_, _, _, q⟩ := hs; exact q.elim
end
structure DfX (P : Program) (w : World) (K : PySem.W.Frag) (mg : Str → Option Value) (base : Heap) (k : Nat) (nm : Str) (ps : List Str) (sp : Sp) : Prop where
  ex : ∃ f fd, Fgx P w K mg base k f fd ps sp ∧ mg nm = some (.ref f) ∧ PySem.W.keepIn K (.ref f) = true ∧ Binds K fd ps []
section
variable {X : Cx} {W : WX} {k : Nat} {nm : Str} {ps ks : List Str} {sp : Sp} {p pos : Pos} {e : Expr} {es : List Expr} {t tk : TA} {π : List Nat} {kws : List Keyword}
theorem takes0 : L2.Takes X (fun _ _ _ _ => False) := fun u s' ⟨_, _, _, _, _, _, _, _, _, _, _, _, _, _, _, _, w⟩ => w.elim
def tCallX (W : WX) (sp : Sp) (t : TA) : TE := fun σ H Q => t σ H fun vs H1 => sp vs H1 Q (fun cls d H' => W cls d σ H')
theorem retx_of {pins : List (Addr × Obj)} {σ : L2.St} {H : Hp} {s s' : Shared} {Q : VK} {r : Result} (tk : L2.Takes X W) (I : Inv X pins σ H s) (h : CR (L2.CX X.prog X.w) X.stack X.prog X.w H s Q (fun cls d H' => W cls d σ H') r s') : RP X pins σ Q r s' := by
  cases r with
  | error e => exact tk e s' (L2.XE.of_call I (fun _ _ _ h => h) h)
  | ok fl =>
    cases fl with
    | ret u => exact I.after h
    | next => exact False.elim h
    | brk => exact False.elim h
    | cont => exact False.elim h
theorem dcallx (tk : L2.Takes X W) (D : DfX X.prog X.w X.K X.mg X.base k nm ps sp) (hr : Rm k X.A) (hg : Gl X nm) (ha : PA X (e :: es) t)
    (hdb : (nm == ("__debug__" : Str)) = false := by decide) (he : starEach (e :: es) X.env = (false, eval e X.env) :: starEach es X.env := by rfl) (hpl : (backTo pos (starEach es X.env)).any (·.1) = false := by rfl) :
    PE X (.Call (.Name nm p) (e :: es) [] pos) (tCallX W sp t) := by
  obtain ⟨f, fd, F, hm, hk, hb⟩ := D.ex
  refine ⟨fun pins s σ H Q I h => ?_⟩
  refine wpAny_Call_Name_kw (ld_glob I hg hm ?_ hdb)
  refine PySem.W.callWith_K (h₀ := X.base) I.ok.mod.kin hk (thn (ha.run pos pins s σ H _ I h) fun us s1 ⟨vs, H1, I1, r, q⟩ => ⟨I1.kIn, ?_⟩) he hpl
  have hl : (us ++ []).length = ps.length := by rw [List.append_nil, ← r.length]; exact F.size _ _ _ _ q
  have b := hb s1 us I1.kIn hl
  rw [List.append_nil] at b
  refine wpAny_call (codeAny_mono (F.go X.A X.stack s1 H1 ⟨us, []⟩ us vs Q _ hr I1.env0 b r q) fun r s' hq => ?_)
  exact retx_of tk I1 hq
end
section
variable {X : Cx} {W : WX} {k : Nat} {C fI : Addr} {fd : FuncData} {x f : Str} {newId : String} {tail : List Value} {p pos pos' : Pos} {e : Expr} {es : List Expr} {t : TA}
/-- raise C(e): the exception's dict has the field -/
def tRaiseX (W : WX) (K : PySem.W.Frag) (newId : String) (tail : List Value) (C : Addr) (f : Str) (ta : TA) : TS := fun _ σ H => tMkO C (KX.spI K newId tail f) [] ta σ H fun cls d H' => W cls d σ H'
theorem ps_raisex (hc : X.calm = true) (tk : L2.Takes X W) (T : OexC X.K C) (iC : PySem.W.findIn X.K (.ref C) "__init__" = some (some (.ref fI))) (tI : PySem.W.typeIn X.K (.ref fI) = some (.type "function"))
    (F1 : FnOk X.prog X.w X.K X.mg X.base CX0 k fI fd ["self", f] (KX.spI X.K newId tail f)) (hr : Room (k + 1) X.A) (hb : Binds X.K fd ["self", f] []) (hg : Gl X x) (hm : X.mg x = some (.ref C)) (ha : PA X (e :: es) t)
    (hdb : (x == ("__debug__" : Str)) = false := by decide) (he : starEach (e :: es) X.env = (false, eval e X.env) :: starEach es X.env := by rfl) (hpl : (backTo pos (starEach es X.env)).any (·.1) = false := by rfl) :
    PS X (.Raise (some (.Call (.Name x p) (e :: es) [] pos)) none pos') (tRaiseX W X.K newId tail C f t) :=
  L2.ps_raise (W := W) hc tk (L2.pmk_oex (sp := KX.spI X.K newId tail f) (dvs := []) T iC tI F1 hr hb .nil (fun _ _ _ _ _ _ _ z => z.elim) hg hm ha hdb he hpl)
theorem raise_rd {K : PySem.W.Frag} {σ : L2.St} {H1 : Hp} {v : V} (T : KX.Xc K newId tail C) (nF : PySem.W.findIn K (.ref C) f = some none) (h : ∀ d, H1 d = none → W (.ref C) (some d) σ (upd H1 d (.xd [(f, v)]))) :
    [v].length ≤ 1000 ∧ ∀ a, H1 a = none → KX.spI K newId tail f (.ref a :: ([v] ++ [])) (upd H1 a (exo a C none)) (fun u H2 => u = .non ∧ ∃ (d : Addr) (fs : List (Str × V)), H2 a = some (exo a C (some d)) ∧ H2 d = some (exd d fs) ∧ H1 d = none ∧ W (.ref C) (some d) σ (upd (L2.del H2 a) d (.xd fs))) E0 := by
  refine ⟨by show 1 ≤ 1000; decide, fun a na => ⟨a, C, v, rfl, T, nF, upd_same, fun d nd hda => ⟨rfl, d, [(f, v)], upd_same, ?_, ?_, ?_⟩⟩⟩
  · rw [upd_ne hda, upd_same]
  · rw [upd_ne hda] at nd
    exact nd
  · rw [upd_ne hda] at nd
    have e : upd (L2.del (upd (upd (upd H1 a (exo a C none)) d (exd d [(f, v)])) a (exo a C (some d))) a) d (.xd [(f, v)]) = upd H1 d (.xd [(f, v)]) := by
      funext b
      by_cases hb : b = d
      · rw [hb, upd_same, upd_same]
      · rw [upd_ne hb, upd_ne hb]
        by_cases hba : b = a
        · rw [hba, L2.del_same, na]
        · rw [L2.del_ne hba, upd_ne hba, upd_ne hb, upd_ne hba]
    rw [e]
    exact h d nd
end
section
variable {X : Cx} {a C : Addr} {oe : Obj} {cls : Value} {d : Option Addr} {pn : List (Addr × Obj)} {f : Str} {newId : String} {tail : List Value} {pos : Pos} {e : Expr} {te : TE}
end
structure XC (P : Program) (w : World) (K : PySem.W.Frag) (mg : Str → Option Value) (base : Heap) (x f : Str) (newId : String) (tail : List Value) (C : Addr) : Prop where
  ox : OexC K C
  xc : KX.Xc K newId tail C
  nF : PySem.W.findIn K (.ref C) f = some none
  ex : PySem.W.exmOne K (.ref C) (.ref C) = some true
  nm : mg x = some (.ref C)
  ini : ∃ fI fd, PySem.W.findIn K (.ref C) "__init__" = some (some (.ref fI)) ∧ PySem.W.typeIn K (.ref fI) = some (.type "function") ∧ FnOk P w K mg base CX0 1 fI fd ["self", f] (KX.spI K newId tail f) ∧ Binds K fd ["self", f] []
section
variable {X : Cx} {W : WX} {C : Addr} {x f : Str} {newId : String} {tail : List Value} {p pos pos' : Pos} {e : Expr} {es : List Expr} {t : TA}
theorem ps_raisec (hc : X.calm = true) (tk : L2.Takes X W) (T : XC X.prog X.w X.K X.mg X.base x f newId tail C) (hr : Rm 2 X.A) (hg : Gl X x) (ha : PA X (e :: es) t)
    (hdb : (x == ("__debug__" : Str)) = false := by decide) (he : starEach (e :: es) X.env = (false, eval e X.env) :: starEach es X.env := by rfl) (hpl : (backTo pos (starEach es X.env)).any (·.1) = false := by rfl) :
    PS X (.Raise (some (.Call (.Name x p) (e :: es) [] pos)) none pos') (tRaiseX W X.K newId tail C f t) := by
  obtain ⟨fI, fd, h1, h2, h3, h4⟩ := T.ini
  exact ps_raisex hc tk T.ox h1 h2 h3 hr.room h4 hg T.nm ha hdb he hpl
end
section
variable {X : Cx} {x n : Str} {c : Value} {i : Nat} {body suite : List Stmt} {b₀ : Stmt} {np pos pos' : Pos} {tb : WX → TS} {ts : Addr → Value → Option Addr → TS} {Wout : WX}
end
end GG

set_option Elab.async false
set_option linter.all false
set_option maxRecDepth 100000
set_option maxHeartbeats 4000000
namespace GG
open PySem PySem.Spec PyProof.Rows L2
section
variable {X : Cx} {W : WX} {C : Addr} {x : Str} {p pos pos' : Pos}
end
end GG

set_option Elab.async false
set_option linter.all false
set_option maxRecDepth 100000
set_option maxHeartbeats 4000000
namespace DL
open PySem PySem.Spec PyProof.Rows L2 GG DD PT
/-- what is wished of an exception: its class, its fields, the state where it is raised -/
abbrev PXt := Addr → Option (List (Str × PyData)) → DSt → Prop
inductive FsOk (K : PySem.W.Frag) (H : Hp) : List (Str × V) → List (Str × PyData) → Prop
  | nil : FsOk K H [] []
  | cons {n : Str} {v : V} {d : PyData} {xs : List (Str × V)} {fs : List (Str × PyData)} : Da K H v d → FsOk K H xs fs → FsOk K H ((n, v) :: xs) ((n, d) :: fs)
theorem FsOk.of {K : PySem.W.Frag} {H H' : Hp} {xs : List (Str × V)} {fs : List (Str × PyData)} (h : FsOk K H xs fs) (s : Same H H') : FsOk K H' xs fs := by
  induction h with
  | nil => exact .nil
  | cons h1 _ ih => exact .cons (h1.of s) ih
/-- the fields' data -/
def FsG (xs : List (Str × V)) (fs : List (Str × PyData)) : V → PyData → Prop := fun v d => ∃ n, xs.lookup n = some v ∧ fs.lookup n = some d
def FsIn (G : V → PyData → Prop) (xs : List (Str × V)) (fs : List (Str × PyData)) : Prop := ∀ n d, fs.lookup n = some d → ∃ v, xs.lookup n = some v ∧ G v d
theorem FsOk.g {K : PySem.W.Frag} {H : Hp} {xs : List (Str × V)} {fs : List (Str × PyData)} (h : FsOk K H xs fs) : ∀ v d, FsG xs fs v d → Da K H v d := by
  rintro v d ⟨n, h1, h2⟩
  induction h with
  | nil => cases h1
  | @cons m u e xs fs h3 _ ih =>
    rw [List.lookup_cons] at h1 h2
    cases q : n == m with
    | true =>
      rw [q] at h1 h2
      cases h1
      cases h2
      exact h3
    | false =>
      rw [q] at h1 h2
      exact ih h1 h2
theorem FsOk.ins {K : PySem.W.Frag} {H : Hp} {xs : List (Str × V)} {fs : List (Str × PyData)} (h : FsOk K H xs fs) : FsIn (FsG xs fs) xs fs := by
  intro n d h2
  have : ∃ v, xs.lookup n = some v := by
    induction h with
    | nil => cases h2
    | @cons m u e xs fs h3 _ ih =>
      rw [List.lookup_cons] at h2 ⊢
      cases q : n == m with
      | true => exact ⟨_, rfl⟩
      | false =>
        rw [q] at h2
        exact ih h2
  obtain ⟨v, h1⟩ := this
  exact ⟨v, h1, n, h1, h2⟩
/-- what a def does that may raise -/
abbrev FDX := List DV → Nat → (PyData → Nat → Prop) → (Addr → Option (List (Str × PyData)) → Nat → Prop) → Prop
def spX (K : PySem.W.Frag) (m : Nat) (F : FDX) : Sp := fun vs H Q E => vs.length = m ∧ ∃ (W : Wo) (S0 : Addr → Prop) (n : Nat) (as : List DV) (P : PyData → Nat → Prop) (PX : Addr → Option (List (Str × PyData)) → Nat → Prop), Taken H S0 ∧ DkOk W H n ∧ (∀ b, Mu W b → S0 b) ∧ ArgsOk K W S0 H vs as ∧ F as n P PX ∧
  (∀ v H' d n', P d n' → DkOk W H' n' → ButW W H H' → Da K (Hd S0 H') v d → Q v H') ∧
  (∀ Cx dd xs fs H' n', PX Cx (some fs) n' → DkOk W H' n' → ButW W H H' → H dd = none → ¬ Mu W dd → H' dd = some (.xd xs) → FsOk K (Hd (fun b => S0 b ∨ b = dd) H') xs fs → E (.ref Cx) (some dd) H') ∧
  ∀ Cx H' n', PX Cx none n' → DkOk W H' n' → ButW W H H' → E (.ref Cx) none H'
/-- the wish about exceptions is told by data -/
structure XOk (K : KX) (W : WX) (PX : PXt) : Prop where
  n : ∀ C : DC, C.K = K → ∀ (σ : L2.St) (H : Hp) (s : DSt) (Cx : Addr), PX Cx none s → Rl C σ H s → W (.ref Cx) none σ H
  d : ∀ C : DC, C.K = K → ∀ (σ : L2.St) (H : Hp) (s : DSt) (Cx dd : Addr) (xs : List (Str × V)) (fs : List (Str × PyData)), PX Cx (some fs) s → Rl (C.hide dd) σ H s → C.H0 dd = none → ¬ C.S0 dd → ¬ Mu C.W dd → H dd = some (.xd xs) →
  FsOk C.K (Hd (Sof (C.hide dd) σ s) H) xs fs → W (.ref Cx) (some dd) σ H
def bodyX (d : PXt → DS) (m : Nat) : FDX := fun as n P PX => d (fun Cx fs s => PX Cx fs s.n.n) { nx := fun s => P .none s.n.n, rt := fun v s => P v s.n.n } ⟨as ++ List.replicate m .un, g0 n⟩
theorem body_okX {K : PySem.W.Frag} {E : XK} {d : PXt → DS} {N : List Str} {k : Nat} {vs : List V} {H : Hp} {Q : VK} {X : TS → Prop} (h : ∀ W B H0 G0 Z0 PX, XOk ⟨K, W, B, H0, G0, Z0⟩ (fun cls d _ H => E cls d H) PX → ∃ t, X t ∧ RS ⟨K, W, B, H0, G0, Z0⟩ t (d PX))
    (hsp : spX K k (bodyX d (N.length - k)) vs H Q E) : ∃ t, X t ∧ t { nx := fun _ H' => Q .non H', rt := Q } (L2.start N vs) H := by
  obtain ⟨hl, W, S0, n, as, P, PX, T, dk, hm, ha, hF, q, qx⟩ := hsp
  obtain ⟨t, hX, h⟩ := h W S0 H (fun _ _ => False) (fun _ _ => False) (fun Cx fs s => PX Cx fs s.n.n) (⟨fun C hC σ H' s Cx hp R => by
    obtain ⟨CK, cex, csub, cG, cZ, cg, cz⟩ := C
    dsimp only at hC
    subst hC
    exact qx.2 Cx H' s.n.n hp R.dk R.but, fun C hC σ H' s Cx dd xs fs hp R h1 h2 h3 h4 h5 => by
    obtain ⟨CK, cex, csub, cG, cZ, cg, cz⟩ := C
    dsimp only at hC
    subst hC
    refine qx.1 Cx dd xs fs H' s.n.n hp R.dk R.but h1 h3 h4 (h5.of (hd_mono fun b hb => ?_))
    rcases hb with hb | hb
    · exact .inl (.inl (csub _ _ hb))
    · exact sof_hide.mpr (.inr hb)⟩)
  refine ⟨t, hX, ?_⟩
  unfold L2.start
  rw [hl]
  refine h (DC.base ⟨K, W, S0, H, fun _ _ => False, fun _ _ => False⟩) rfl _ _ hF _ H _ (rl_start _ T dk hm ha) ⟨fun σ H' s hp R => ?_, fun σ v H' d s hp R hv => ?_, fun _ _ _ h => h.elim, fun _ _ _ h => h.elim, fun _ _ _ _ h => h.elim⟩
  · exact q _ H' _ _ hp R.dk R.but .non
  · exact q v H' d s.n.n hp R.dk R.but (hv.of (hd_mono fun b hb => .inl hb))
section
variable {P : Program} {w : World} {K : PySem.W.Frag} {mg : Str → Option Value} {base : Heap} {k : Nat} {f : Addr} {fd : FuncData} {ps : List Str}
theorem okdX {x qual : Str} {st : Stmt} {N : List Str} {d : PXt → DS} {m : Nat} (hm : ps.length = m) (F : L2.Fun K x qual st f fd) (S : FnScope N ps (defScope st))
    (body : ∀ (cdv : Value) (A : Around) (outer : List Env) (s : Shared) (H : Hp) (E : XK), Rm k (A.deeper (envOfC qual (defScope st) s.heap.objs.size f cdv)) → ∀ W B H0 G0 Z0 PX, XOk ⟨K, W, B, H0, G0, Z0⟩ (fun cls d _ H => E cls d H) PX →
      ∃ t, PSs (cxOf (L2.CX P w) P w K mg base N qual (defScope st) f cdv A outer s H E) (defBody st) t ∧ RS ⟨K, W, B, H0, G0, Z0⟩ t (d PX)) :
    Fgx P w K mg base (k + 1) f fd ps (spX K m (bodyX d (N.length - m))) :=
  okgx F S (fun vs H Q E h => by rw [h.1]; exact hm.symm) fun cdv A outer s H vs Q E hr h => body_okX (body cdv A outer s H E hr) h
end
variable {K : KX}
def dCallX (PX : PXt) (m : Nat) (F : FDX) (da : DX) : DE := fun s P => da s fun as s1 => as.length = m ∧ F as s1.n.n (fun d n' => P d ⟨s1.sl, s1.n.on n'⟩) fun Cx fs n' => PX Cx fs ⟨s1.sl, s1.n.on n'⟩
theorem Rl.raised {C : DC} {σ : L2.St} {H H' : Hp} {s : DSt} {dd : Addr} {xs : List (Str × V)} {n' : Nat} (R : Rl C σ H s) (hn : H dd = none) (d : DkOk C.W.pl H' n') (b : ButW C.W.pl H H') (e : H' dd = some (.xd xs)) : Rl (C.hide dd) σ H' ⟨s.sl, s.n.on n'⟩ := by
  refine (R.hidden (o := .xd xs) hn).step (fun c o hc h => ?_) d
  by_cases z : c = dd
  · rw [z, upd_same] at h
    rw [z, e]
    exact h
  · rw [upd_ne z] at h
    exact b c o hc h
theorem x_call {W : WX} {PX : PXt} {C : DC} (xo : XOk C.K W PX) {σ : L2.St} {H1 : Hp} {s1 : DSt} (R1 : Rl C σ H1 s1) {F : FDX} {as : List DV} {vs : List V} {m : Nat} {P : PyData → DSt → Prop} {Q : VK} (hl : vs.length = m) (hv : ArgsOk C.K C.W (Sof C σ s1) H1 vs as)
    (hF : F as s1.n.n (fun d n' => P d ⟨s1.sl, s1.n.on n'⟩) fun Cx fs n' => PX Cx fs ⟨s1.sl, s1.n.on n'⟩) (q : ∀ v H' d s', P d s' → Rl C σ H' s' → Da C.K (Hd (Sof C σ s') H') v d → Q v H') : spX C.K m F vs H1 Q (fun cls d H' => W cls d σ H') := by
  refine ⟨hl, C.W.pl, Sof C σ s1, s1.n.n, as, _, _, R1.taken, R1.dk.pl, fun b hb => .inr (.inl (mu_pl hb)), hv.pl, hF, fun v H' d n' hP hD hB hda => ?_, ⟨fun Cx dd xs fs H' n' hP hD hB hn hM hx hfs => ?_, fun Cx H' n' hP hD hB => xo.n C rfl σ H' ⟨s1.sl, s1.n.on n'⟩ Cx hP (R1.step hB hD)⟩⟩
  · exact q v H' d ⟨s1.sl, s1.n.on n'⟩ hP (R1.step hB hD) hda
  · obtain ⟨n1, n2⟩ := R1.new hn
    exact xo.d C rfl σ H' ⟨s1.sl, s1.n.on n'⟩ Cx dd xs fs hP (R1.raised hn hD hB hx) n2 (fun z => n1 (.inl z)) (fun z => n1 (.inr (.inl z))) hx (hfs.of (hd_mono fun b hb => sof_hide.mp hb))
theorem re_callX {W : WX} {PX : PXt} {m : Nat} {F : FDX} {ta : TA} {da : DX} (xo : XOk K W PX) (h : RX K ta da) : RE K (tCallX W (spX K m F) ta) (dCallX PX m F da) := fun C hC s P hd σ H Q R q =>
  h C hC s _ hd σ H _ R fun vs H1 as s1 hp R1 hv => by
    subst hC
    exact x_call xo R1 (by rw [hv.len]; exact hp.1) hv hp.2 q
def dRaise (PX : PXt) (Cx : Addr) (f : Str) (de : DE) : DS := fun _ s => de s fun d s1 => PX Cx (some [(f, d)]) s1
theorem rs_raise {W : WX} {PX : PXt} {newId : String} {tail : List Value} {Cx : Addr} {f : Str} {te : TE} {de : DE} (T : KX.Xc K.fr newId tail Cx) (nF : PySem.W.findIn K.fr (.ref Cx) f = some none) (xo : XOk K W PX) (h : RE K te de) : RS K (tRaiseX W K.fr newId tail Cx f (tCons te tNil)) (dRaise PX Cx f de) := fun C hC E s hd σ H D R o => by
  unfold tRaiseX tMkO
  refine rd_cons (h C hC s _ hd σ H _ R fun v H1 d s1 hp R1 hv => rd_nil ?_)
  refine raise_rd (W := W) T nF fun dd nd => ?_
  obtain ⟨n1, n2⟩ := R1.new nd
  have R2 := (R1.keep hv).hidden (o := .xd [(f, v)]) nd
  have R3 := R1.hidden (o := .xd [(f, v)]) nd
  exact xo.d C hC σ _ s1 Cx dd [(f, v)] [(f, d)] hp R3 n2 (fun z => n1 (.inl z)) (fun z => n1 (.inr (.inl z))) upd_same (.cons (R2.gh v d (.inr ⟨rfl, rfl⟩)) .nil)
def NoLock (sl : List DV) : Prop := ∀ (i : Nat) a o kvs, sl[i]? ≠ some (.lkd a o kvs) ∧ sl[i]? ≠ some (.lkk a o kvs)
def noLockB (sl : List DV) : Bool := sl.all fun dv => match dv with
  | .lkd _ _ _ => false
  | .lkk _ _ _ => false
  | _ => true
theorem Rl.trans {C C' : DC} {σ : L2.St} {H : Hp} {s : DSt} (R : Rl C σ H s) (hK : C'.K.fr = C.K.fr) (hW : C'.W = C.W) (hH : C'.H0 = C.H0) (hS : ∀ b, C'.S0 b → C.S0 b) (hG : ∀ v d, C'.G v d → C.G v d) (hZ : ∀ a o, C'.Z a o → C.Z a o ∧ C'.S0 a) (hlk : (∀ a o, C.Z a o → C'.Z a o) ∨ NoLock s.sl) :
    Rl C' σ H s ∧ Same (Hd (Sof C σ s) H) (Hd (Sof C' σ s) H) := by
  have hs : Same (Hd (Sof C σ s) H) (Hd (Sof C' σ s) H) := hd_mono fun b z => by
    rcases z with z | z | z
    · exact .inl (hS b z)
    · exact .inr (.inl (hW ▸ z))
    · exact .inr (.inr z)
  refine ⟨⟨R.len, fun i dv h => ?_, R.nd, fun i a dv h1 h2 h3 => ?_, hW ▸ R.dk, ?_, fun b hb => R.tk b (hS b hb), fun v d h => ?_, fun a o h => ?_, fun a o h => (R.ob a o h).move hK hW hs (fun _ u => u) (fun x y => ⟨by rw [hH]; exact x, fun z => y (hS a z)⟩) (R.ob a o h).no⟩, hs⟩
  · obtain ⟨sl, e1, e2⟩ := R.slots i dv h
    refine ⟨sl, e1, ?_⟩
    cases dv with
    | un => trivial
    | dat d =>
      obtain ⟨v, h1, h2⟩ := e2
      exact ⟨v, h1, hK ▸ h2.of hs⟩
    | own ds =>
      obtain ⟨a, vs, h1, h2, h3⟩ := e2
      exact ⟨a, vs, h1, h2, hK ▸ h3.of hs⟩
    | arg b ds =>
      obtain ⟨vs, h1, h2, h3⟩ := e2
      exact ⟨vs, h1, h2, hK ▸ h3.of hs⟩
    | argd b ds =>
      obtain ⟨vs, h1, h2, h3⟩ := e2
      exact ⟨vs, h1, h2, hK ▸ h3.of hs⟩
    | owd kvs =>
      obtain ⟨a, vs, h1, h2, h3⟩ := e2
      exact ⟨a, vs, h1, h2, hK ▸ h3.of hs⟩
    | owt kvs =>
      obtain ⟨a, vs, h1, h2, h3⟩ := e2
      exact ⟨a, vs, h1, h2, hK ▸ h3.of hs⟩
    | owx w kvs =>
      obtain ⟨a, vs, h1, h2, h3⟩ := e2
      exact ⟨a, vs, h1, h2, hK ▸ h3.of hs⟩
    | lkd a ob kvs =>
      rcases hlk with hlk | hlk
      · obtain ⟨h1, h2, od, es, h3, h4⟩ := e2
        exact ⟨h1, hlk a ob h2, od, es, h3, hK ▸ h4.of hs⟩
      · exact absurd h (hlk i a ob kvs).1
    | lkk a ob kvs =>
      rcases hlk with hlk | hlk
      · obtain ⟨h1, h2, od, es, h3, h4⟩ := e2
        exact ⟨h1, hlk a ob h2, od, es, h3, hK ▸ h4.of hs⟩
      · exact absurd h (hlk i a ob kvs).2
    | deck =>
      obtain ⟨p, l, h1, h2⟩ := e2
      exact ⟨p, l, by rw [hW]; exact h1, h2⟩
    | exc a => exact e2
    | obj a => exact e2
  · obtain ⟨f1, f2, f3⟩ := R.fr i a dv h1 h2 h3
    exact ⟨by rw [hH]; exact f1, fun z => f2 (hS a z), by rw [hW]; exact f3⟩
  · rw [hW, hH]
    exact R.but
  · have z := (R.gh v d (hG v d h)).of hs
    rw [hK]
    exact z
  · obtain ⟨h1, h2⟩ := hZ a o h
    obtain ⟨f1, f2, f3⟩ := R.fz a o h1
    exact ⟨h2, by rw [hW]; exact f2, f3⟩
theorem Rl.put {C : DC} {σ : L2.St} {H : Hp} {s : DSt} (R : Rl C σ H s) (i : Nat) (v : Option V) (dv : DV) (ho : isOwn dv = false) (h : SlotOk C (Sof C σ s) H v dv) : Rl C (σ.set i v) H ⟨s.sl.set i dv, s.n⟩ := by
  refine (R.rewire (by rw [List.length_set, List.length_set]; exact R.len) fun j ev e => ?_).1
  rw [List.getElem?_set] at e
  by_cases z : i = j
  · subst z
    rw [if_pos rfl] at e
    by_cases hl : i < s.sl.length
    · rw [if_pos hl] at e
      cases e
      exact .inr ⟨ho, v, by rw [List.getElem?_set, if_pos rfl, if_pos (by rw [R.len]; exact hl)], h⟩
    · rw [if_neg hl] at e
      cases e
  · rw [if_neg z] at e
    exact .inl ⟨e, by rw [List.getElem?_set, if_neg z]⟩
/-- except C as e (slot i) -/
def dTryAs (C0 : Addr) (i : Nat) (db : PXt → DS) (dsu : Addr → List (Str × PyData) → DS) : DS := fun E s => db (fun (Cx : Addr) (ox : Option (List (Str × PyData))) (s1 : DSt) => match ox with | none => False | some fs => Cx = C0 ∧ noLockB s1.sl = true ∧ ∀ a, dsu a fs { nx := fun s2 => noLockB s2.sl = true ∧ E.nx ⟨s2.sl.set i .un, s2.n⟩, rt := fun d s2 => noLockB s2.sl = true ∧ E.rt d s2, bk := fun s2 => noLockB s2.sl = true ∧ E.bk ⟨s2.sl.set i .un, s2.n⟩, ct := fun s2 => noLockB s2.sl = true ∧ E.ct ⟨s2.sl.set i .un, s2.n⟩ } ⟨s1.sl.set i (.exc a), s1.n⟩) E s
/-- except c as e (slot i), an exception without fields -/
def dTryAs0 (C0 : Addr) (i : Nat) (db : PXt → DS) (dsu : Addr → DS) : DS := fun E s => db (fun (Cx : Addr) (ox : Option (List (Str × PyData))) (s1 : DSt) => match ox with | some _ => False | none => Cx = C0 ∧ noLockB s1.sl = true ∧ ∀ a, dsu a { nx := fun s2 => noLockB s2.sl = true ∧ E.nx ⟨s2.sl.set i .un, s2.n⟩, rt := fun d s2 => noLockB s2.sl = true ∧ E.rt d s2, bk := fun s2 => noLockB s2.sl = true ∧ E.bk ⟨s2.sl.set i .un, s2.n⟩, ct := fun s2 => noLockB s2.sl = true ∧ E.ct ⟨s2.sl.set i .un, s2.n⟩ } ⟨s1.sl.set i (.exc a), s1.n⟩) E s
end DL

set_option Elab.async false
set_option linter.all false
set_option maxRecDepth 100000
set_option maxHeartbeats 4000000
namespace ENT
open PySem PySem.Spec PyProof.Rows L2
theorem meets_new (l : Addr) (items : Array Value) :
    Meets (Builtin.«enumerate.__new__» ⟨[.type "enumerate", .ref l], []⟩) (fun _ R s => s.heap.IsTuple l items ∧
      R (.ok (.ret (.ref (s.heap.push { cls := .type "tuple_iterator", data := .fields #[.ref l, .int 0 0] }).objs.size)))
        { s with heap := (s.heap.push { cls := .type "tuple_iterator", data := .fields #[.ref l, .int 0 0] }).push { cls := .type "enumerate", data := .fields #[.none, .bool false, .ref s.heap.objs.size, rawInt 0, .none, .none] } }) :=
  .of_wp fun prog w A R s h => by
    obtain ⟨hp, g, d, tk, os⟩ := s
    obtain ⟨h1, h⟩ := h
    have hsub := sub_enumerate
    have q1 : ∀ {A' : Around} {E : Value → Shared → Prop} {Q : Value → Shared → Prop}, Q (.ref hp.objs.size) ⟨hp.push { cls := .type "tuple_iterator", data := .fields #[.ref l, .int 0 0] }, g, d, tk, os⟩ → wpAny (model prog w) A' (pyIter (.ref l)) Q E ⟨hp, g, d, tk, os⟩ :=
      fun q => wpAny_pyIter_tuple (s := ⟨hp, g, d, tk, os⟩) h1 q
    wp_walk using q1
    refine wpAny_stack_any fun st => wpAny_pure ?_
    split
    · rename_i c _ _ _ _ _
      cases (c == Value.type "enumerate")
      · wp_walk using q1
        exact ⟨_, rfl, h⟩
      · wp_walk using q1
        exact ⟨_, rfl, h⟩
    · wp_walk using q1
      exact ⟨_, rfl, h⟩
section
variable {prog : Program} {w : World} {A : Around} {E : Value → Shared → Prop} {s : Shared}
theorem call_enum {l : Addr} {items : Array Value} {Q : Value → Shared → Prop} (hl : s.heap.IsTuple l items)
    (h : ∀ h', IsEnum h' (s.heap.objs.size + 1) s.heap.objs.size 0 .none → h'.IsTupleIter s.heap.objs.size l 0 → h'.objs.size = s.heap.objs.size + 2 →
      (∀ b o, s.heap.get? b = some o → h'.get? b = some o) → Q (.ref (s.heap.objs.size + 1)) { s with heap := h' }) :
    wpAny (model prog w) A (call (.type "enumerate") [.ref l]) Q E s := by
  refine callType_new F.called_enumerate (by decide) (F.typeCall_enumerate_1 _) (F.newCall_enumerate_1 _) (fun obj => F.args_object_init_2 obj _) F.entry_enumerate_new
    (meets_new l items) ⟨hl, ?_⟩
  have hz : (s.heap.push { cls := .type "tuple_iterator", data := .fields #[.ref l, .int 0 0] }).objs.size = s.heap.objs.size + 1 := Heap.size_push ..
  show _ ∧ _
  rw [hz]
  have he : IsEnum ((s.heap.push { cls := .type "tuple_iterator", data := .fields #[.ref l, .int 0 0] }).push { cls := .type "enumerate", data := .fields #[.none, .bool false, .ref s.heap.objs.size, rawInt 0, .none, .none] }) (s.heap.objs.size + 1) s.heap.objs.size 0 .none := by
    have := Heap.get?_push_size (s.heap.push { cls := .type "tuple_iterator", data := .fields #[.ref l, .int 0 0] }) (o := { cls := .type "enumerate", data := .fields #[.none, .bool false, .ref s.heap.objs.size, rawInt 0, .none, .none] }) rfl
    rw [hz] at this; exact this
  exact ⟨⟨_, he, rfl⟩, h _ he ⟨_, Heap.get?_push_of_some _ (Heap.get?_push_size _ rfl), rfl, rfl⟩ (by rw [Heap.size_push, hz]) fun b o x => Heap.get?_push_of_some _ (Heap.get?_push_of_some _ x)⟩
end
/-- the tuple at a, each item in a new pair -/
def IteT (K : PySem.W.Frag) (a : Addr) : It :=
  ⟨fun i H => ∃ (xs : List V) (x : V), SqT K H a xs ∧ xs[i]? = some x, fun i H v H' => ∃ T x, v = .ref T ∧ H T = none ∧ H' = upd H T (.tup [.int (i : Nat), x]) ∧ ∀ xs, SqT K H a xs → xs[i]? = some x, fun i H => ∃ xs : List V, SqT K H a xs ∧ xs.length = i⟩
theorem turn_enumT {P : Program} {w : World} {K : PySem.W.Frag} {elts : List Expr} {kk : Nat} {tpos : Pos} (a e it : Addr) (hai : a ≠ it) (hae : a ≠ e) :
    Turn P w K (.Tuple elts kk tpos) (IteT K a) [e, it] e (fun i h => (∃ old, IsEnum h e it ((i : Nat) : Int) old) ∧ h.IsTupleIter it a i ∧ e ≠ it) where
  mem := by simp
  obj := fun i h st b hb => by
    obtain ⟨⟨old, he⟩, ⟨o, ho, hc, hd⟩, _⟩ := st
    have e' : b = e ∨ b = it := by simpa using hb
    rcases e' with z | z
    · rw [z]; exact ⟨_, he, fun v q => nomatch q⟩
    · rw [z]; exact ⟨o, ho, fun v q => by rw [hd] at q; cases q⟩
  keep := fun i h h' st k => let ⟨⟨old, he⟩, hi, hne⟩ := st; ⟨⟨old, k e (by simp) _ he⟩, hi.at fun o q => k it (by simp) o q, hne⟩
  item := by
    intro X hP hw hK hc i pins s σ H E I hf st hg
    subst hP hw hK
    obtain ⟨⟨old, he⟩, hit, hne⟩ := st
    obtain ⟨xs, x, hq, hx⟩ := hg
    obtain ⟨its, rv, p, hz⟩ := I.tuple hq
    obtain ⟨u, hu, ru⟩ := rv.get hx
    have hel : e < s.heap.objs.size := Heap.lt_size he
    have hil : it < s.heap.objs.size := by obtain ⟨_, q, _⟩ := hit; exact Heap.lt_size q
    have hlt : i < its.toArray.size := by
      rw [List.size_toArray]
      exact (List.getElem?_eq_some_iff.mp hu).1
    refine wpAny_pyNext_enum_itemC (Draws.tuple (A := X.A.in1) (I.ok.hd hc) it a hai its.toArray) he ⟨hit, p⟩ hlt hne (fun z => (List.mem_cons.mp z).elim hne fun z => hae (List.mem_singleton.mp z).symm) fun v h' tk hv ho hst hT hsz hk => ?_
    obtain ⟨hit', _⟩ := hst
    have ev : v = u := by
      have hv' : its[i]? = some v := by simpa using hv
      rw [hu] at hv'
      exact (Option.some.inj hv').symm
    subst ev
    refine ⟨_, rfl, wpAny_letOwnedTupleGo_enum (s := { s with heap := h', toks := tk + 1 }) ho fun h'' he' sb => ?_⟩
    have hT2 : h''.get? s.heap.objs.size = some { cls := .type "tuple", data := .seq #[.int i tk, v] } := (sb.2 _ (Nat.ne_of_gt hel)).trans hT
    have new : ObjOk X.prog X.w (upd H s.heap.objs.size (.tup [.int (i : Nat), x])) h'' s.heap.objs.size (.tup [.int (i : Nat), x]) :=
      ⟨by show 2 ≤ sizeLine; decide, [.int i tk, v], .cons ⟨_, rfl⟩ (.cons ru .nil), ⟨_, hT2, rfl, _, rfl⟩⟩
    have I1 : Inv X pins σ (upd H s.heap.objs.size (.tup [.int (i : Nat), x])) { s with heap := h'', toks := tk + 1 } :=
      I.turnedNew (ch := [e, it]) (fun b ob hb q => (sb.2 b (fun z => hb (by simp [z]))).trans (hk b ob (fun z => hb (by simp [z])) (fun z => hb (by simp [z])) q)) hf (Nat.le_refl _) new
    refine ⟨.ref s.heap.objs.size, _, I1, rfl, ⟨_, x, rfl, I.hok.fresh (Nat.le_refl _), rfl, fun ys hy => by rw [I.tuple_inj hy hq]; exact hx⟩, ⟨⟨v, ?_⟩, hit'.at fun o q => (sb.2 it (Ne.symm hne)).trans q, hne⟩, fun b hb => ?_⟩
    · have e1 : ((i + 1 : Nat) : Int) = (i : Int) + 1 := by omega
      rw [e1]; exact he'
    · have hb' : b < s.heap.objs.size := by
        have e' : b = e ∨ b = it := by simpa using hb
        rcases e' with z | z
        · rw [z]; exact hel
        · rw [z]; exact hil
      rw [upd_ne (Nat.ne_of_lt hb')]
      exact (hf b hb).1
  done := by
    intro X hP hw hK hc i pins s σ H E I hf st hg
    subst hP hw hK
    obtain ⟨⟨old, he⟩, hit, hne⟩ := st
    obtain ⟨xs, hq, hx⟩ := hg
    obtain ⟨its, rv, p, hz⟩ := I.tuple hq
    obtain ⟨f0, f1, f2, f3, f4, f5⟩ := hf it (by simp)
    have hl : i = its.toArray.size := by
      rw [List.size_toArray, ← rv.length, hx]
    rw [hl] at hit he
    exact wpAny_pyNext_enum_endD (Draws.tuple (A := X.A.in1) (I.ok.hd hc) it a hai its.toArray) he ⟨hit, p⟩ fun h' eb => ⟨rfl, I.turned (t' := s.toks) (fun b o hb q => eb b o hb q) f0 f1 f3 f4 f5⟩
  self := fun A i s Q E st h => let ⟨⟨_, he⟩, _⟩ := st; wpAny_pyIter_enum he h
def iEnumT (K : PySem.W.Frag) (ta : TA) : TI := fun σ H R => ta σ H fun vs H1 => ∃ a xs, vs = [.ref a] ∧ SqT K H1 a xs ∧ R (IteT K a) H1
theorem pi_enumT {X : Cx} {e : Expr} {ta : TA} {p pos tpos : Pos} {elts : List Expr} {kk : Nat} (hg : Gl X "enumerate") (hm : X.mg "enumerate" = none) (ha : PA X [e] ta) (hs : starEach [e] X.env = [(false, eval e X.env)] := by rfl) :
    PI X (.Tuple elts kk tpos) (.Call (.Name "enumerate" p) [e] [] pos) (iEnumT X.K ta) := by
  refine ⟨fun pins s σ H R I h => ?_⟩
  refine Call_ (ld_blt I hg hm boot_enumerate (PyProof.Rows.callWith_type1 (thn (ha.run pos pins s σ H _ I h) fun us s1 ⟨vs, H1, I1, r1, q1⟩ => ?_) hs rfl))
  obtain ⟨a, xs, ex, hq, q⟩ := q1
  subst ex
  cases r1 with
  | cons r rr =>
    cases rr
    cases r
    obtain ⟨its, rv, p', hz⟩ := I1.tuple hq
    have la : a < s1.heap.objs.size := by
      obtain ⟨o, ho, _⟩ := id p'
      exact Heap.lt_size ho
    refine call_enum (show s1.heap.IsTuple a its.toArray from p') fun h' he hit hsz hk => wpAny_pyIter_enum he ?_
    have I2 : Inv X pins σ H1 { s1 with heap := h' } := I1.kept (t' := s1.toks) hk
    refine ⟨s1.heap.objs.size + 1, [s1.heap.objs.size + 1, s1.heap.objs.size], _, _, H1, rfl, I2, turn_enumT a (s1.heap.objs.size + 1) s1.heap.objs.size (Nat.ne_of_lt la) (Nat.ne_of_lt (Nat.lt_succ_of_lt la)), ⟨⟨.none, he⟩, hit, Nat.succ_ne_self _⟩, fun b hb => ?_, q⟩
    have e' : b = s1.heap.objs.size + 1 ∨ b = s1.heap.objs.size := by simpa using hb
    have hle : s1.heap.objs.size ≤ b := by
      rcases e' with z | z
      · rw [z]; exact Nat.le_add_right _ _
      · rw [z]; exact Nat.le_refl _
    exact I1.fpOk hle (I1.hok.fresh hle)
end ENT
namespace DL
open PySem PySem.Spec PyProof.Rows L2 GG DD PT ENT
variable {K : KX}
def dEnumT (de : DE) : DA := fun s P => de s fun d s1 => match d with
  | .tuple ds => P (enumD ds) s1
  | _ => False
theorem ri_enumT {te : TE} {de : DE} (h : RE K te de) : RI true K (iEnumT K (tCons te tNil)) (dEnumT de) := fun C hC s P hd σ H R0 R q =>
  rd_cons (Q := fun vs H1 => ∃ a xs, vs = [.ref a] ∧ SqT K H1 a xs ∧ R0 (IteT K a) H1) (h C hC s _ hd σ H _ R fun v H1 d s1 hp R1 hv => by
    cases d with
    | tuple ds =>
      obtain ⟨a, vs, rfl, k1, k2⟩ := da_tup hv
      subst hC
      refine rd_nil ⟨a, vs, rfl, k1, q _ H1 (enumD ds) s1 (fun x y => x = .ref a ∧ y = .tuple ds) (fun _ _ => False) hp (R1.more fun x y z => by
        obtain ⟨rfl, rfl⟩ := z
        exact hv) (fun _ _ z => z.elim) ?_⟩
      intro C' hK hG _ σ' H' s' R'
      obtain ⟨b, us, e, k3, k4⟩ := da_tup (R'.gh _ _ (hG _ _ ⟨rfl, rfl⟩))
      cases e
      rw [hK] at k3
      refine ⟨⟨us, k3, by rw [enum_len, k4.len]⟩, fun i d hi => ?_⟩
      obtain ⟨x0, hx0, rfl⟩ := enum_get hi
      obtain ⟨u, hu, hud⟩ := k4.getD hx0
      refine ⟨⟨us, u, k3, hu⟩, fun x H2 hy => ?_⟩
      obtain ⟨T, z, rfl, nT, rfl, hy⟩ := hy
      have e := hy us k3
      rw [hu] at e
      cases e
      exact ⟨R'.ext (same_upd nT), same_upd nT, .inr ⟨rfl, T, _, _, rfl, rfl, sqt upd_same, .cons (.int _) (.cons (hud.of (R'.kp nT)) .nil)⟩⟩
    | _ => exact hp.elim)
end DL

set_option Elab.async false
set_option linter.all false
set_option maxRecDepth 100000
set_option maxHeartbeats 4000000
namespace GXR
open PySem PySem.Spec PyProof.Rows L2 GG GxR GenW
/-- the total that stands in the state list -/
def CgS (S : Addr) (c : Int) (s : Shared) : Prop := ∃ (tk : Tok) (n : Nat), s.heap.get? S = some { cls := .type "list", data := .seq #[.int c tk] n }
theorem cgS_inv {Y : Cx} {pl : List (Addr × Obj)} {σ : L2.St} {H : Hp} {s : Shared} {S : Addr} {c : Int} (I : Inv Y pl σ H s) (h : H S = some (.lst [.int c])) : CgS S c s := by
  obtain ⟨its, n, r, e, _⟩ := I.lst h
  cases r with
  | cons h1 h2 =>
    cases h2
    obtain ⟨t, rfl⟩ := h1
    exact ⟨t, n, e⟩
section
variable {Y : Cx} {A : Around} {pl : List (Addr × Obj)} {σ0 : L2.St} {fp : List Addr} {tn : Nat → Heap → Prop} {m : Nat} {W : Nat → Int → Hp → Prop} {Qs : Int → Hp → Prop} {a S : Addr} {g : Nat} {R : Result → Shared → Prop}
/-- the state list gets another total -/
theorem GSt.put (keep : ∀ j h h', tn j h → (∀ b ∈ fp, ∀ o, h.get? b = some o → h'.get? b = some o) → tn j h') {i : Nat} {H : Hp} {s : Shared} {c d : Int} (G : GSt Y pl σ0 fp tn i H s) (h : H S = some (.lst [.int c])) (tk t' : Nat) :
    GSt Y pl σ0 fp tn i (upd H S (.lst [.int d])) { s with heap := s.heap.update S (Obj.mapSeq fun _ => #[.int d tk]), toks := t' } := by
  have nf : ∀ b ∈ fp, b ≠ S := fun b hb z => by
    have := G.nf b hb
    rw [z, h] at this
    cases this
  obtain ⟨t, n, e⟩ := cgS_inv G.inv h
  refine ⟨G.inv.lset (its := [.int c t]) (its' := [.int d tk]) h e rfl (.cons ⟨tk, rfl⟩ .nil) (by show 1 ≤ sizeLine; decide), keep _ _ _ G.tn fun b hb o eo => ?_, fun b hb => by rw [upd_ne (nf b hb)]; exact G.nf b hb⟩
  exact (Heap.get?_update_other _ _ (Ne.symm (nf b hb))).trans eo
end
section
variable {X : Cx} {c P : Addr} {elt tg iter : Expr} {ifs : List Expr} {gpos p pos : Pos} {scope : Scope} {wi : TI} {g : TG} {tt : TT} {te : TE} {vs : List Nat} {k : Nat}
end
end GXR

set_option Elab.async false
set_option linter.all false
set_option maxRecDepth 100000
set_option maxHeartbeats 4000000
namespace DL
open PySem PySem.Spec PyProof.Rows L2 GG DD PT GXR
variable {K : KX}
end DL

set_option Elab.async false
set_option linter.all false
set_option maxRecDepth 100000
set_option maxHeartbeats 4000000
namespace DL
open PySem PySem.Spec PyProof.Rows L2 GG DD PT
variable {K : KX}
section
variable {P : Program} {w : World} {K : PySem.W.Frag} {mg : Str → Option Value} {base : Heap} {k : Nat} {f : Addr} {fd : FuncData} {ps : List Str}
end
theorem ArgsOk.move {K : PySem.W.Frag} {W : Wo} {S S' : Addr → Prop} {H H' : Hp} (hs : Same (Hd S H) (Hd S' H')) : ∀ {vs : List V} {as : List DV}, ArgsOk K W S H vs as → ArgsOk K W S' H' vs as
  | _, _, .nil => .nil
  | _, _, .cons (a := dv) h t => .cons (by
      cases dv with
      | dat d => exact Da.of h hs
      | _ => exact h) (ArgsOk.move hs t)
/-- a, b = {}, a value -/
def dPar0E (i j : Nat) (de : DE) : DS := fun E s => i < s.sl.length ∧ j < s.sl.length ∧ i ≠ j ∧ de ⟨s.sl, s.n⟩ fun d s2 => s2.sl = s.sl ∧ E.nx ⟨(s2.sl.set i (.owd [])).set j (.dat d), s2.n⟩
theorem rs_par0E {i j : Nat} {te : TE} {de : DE} (h2 : RE K te de) : RS K (tPar i j (tCons tDNewK (tCons te tNil))) (dPar0E i j de) := fun C hC E s hd σ H D R o => by
  obtain ⟨hi, hj, hij, hd⟩ := hd
  intro a na
  obtain ⟨n1, n2⟩ := R.new na
  have R2 := (R.hidden (o := .dK []) na).pin (L := a) (.inr rfl) (fun z => n1 (.inr (.inl z))) upd_same
  refine h2 ((C.hide a).pin a (.dK [])) hC s _ hd σ _ _ R2 fun v H2 d s2 hp R3 hv => ⟨_, _, rfl, ?_⟩
  obtain ⟨hsl, hnx⟩ := hp
  have hv3 : Da C.K (Hd (Sof (C.hide a) σ s2) H2) v d := hv
  obtain ⟨R4, e4⟩ := R3.unpin
  obtain ⟨R5, hs5⟩ := R4.leave (fun z => n1 (.inl z)) (fun z => n1 (.inr (.inl z))) n2 fun b u z => (R.fz b u z).1
  have hv5 : Da C.K (Hd (Sof C σ s2) (del H2 a)) v d := hv3.of hs5
  have R6 := (R5.keep hv5).setOwn (i := i) (a := a) (o := .dK []) (dv := .owd []) (if_pos rfl) (by rw [hsl]; exact hi) rfl fun S' hs => ⟨a, [], rfl, upd_same, .nil⟩
  have e6 : upd (del H2 a) a (.dK []) = H2 := del_upd e4
  rw [e6] at R6
  obtain ⟨R7, hv7⟩ := R6.kept
  exact o.nx _ _ _ hnx (R7.set hv7)
theorem rs_tup0E {i j : Nat} {te : TE} {de : DE} (h2 : RE K te de) : RS K (tAsg (tTupP (tCons tDNewK (tCons te tNil))) (gTup K 2 (gCons (gName i) (gCons (gName j) gNil)))) (dPar0E i j de) := fun C hC E s hd σ H D R o => by
  obtain ⟨hi, hj, hij, hd⟩ := hd
  refine rd_tupP (rd_cons fun a na => ?_)
  obtain ⟨n1, n2⟩ := R.new na
  have R2 := (R.hidden (o := .dK []) na).pin (L := a) (.inr rfl) (fun z => n1 (.inr (.inl z))) upd_same
  refine rd_cons (h2 ((C.hide a).pin a (.dK [])) hC s _ hd σ _ _ R2 fun v H2 d s2 hp R3 hv => rd_nil ⟨by show 2 ≤ sizeLine; decide, fun p ob np _ => rd_gnn (.inl (.inr ⟨ob, upd_same⟩)) ?_⟩)
  obtain ⟨hsl, hnx⟩ := hp
  have hk := same_upd (o := .frz ob (.tup [.ref a, v])) np
  have hv3 : Da C.K (Hd (Sof (C.hide a) σ s2) H2) v d := hv
  obtain ⟨R4, e4⟩ := R3.unpin
  have hv4 := hv3.of (hdS hk)
  have R4k := R4.ext hk
  have e4k := hk _ _ e4
  generalize upd H2 p (.frz ob (.tup [.ref a, v])) = H3 at hv4 R4k e4k ⊢
  obtain ⟨R5, hs5⟩ := R4k.leave (fun z => n1 (.inl z)) (fun z => n1 (.inr (.inl z))) n2 fun b u z => (R.fz b u z).1
  have hv5 : Da C.K (Hd (Sof C σ s2) (del H3 a)) v d := hv4.of hs5
  have R6 := (R5.keep hv5).setOwn (i := i) (a := a) (o := .dK []) (dv := .owd []) (if_pos rfl) (by rw [hsl]; exact hi) rfl fun S' hs => ⟨a, [], rfl, upd_same, .nil⟩
  have e6 : upd (del H3 a) a (.dK []) = H3 := del_upd e4k
  rw [e6] at R6
  obtain ⟨R7, hv7⟩ := R6.kept
  exact o.nx _ _ _ hnx (R7.set hv7)
section
variable {P : Program} {w : World} {K : PySem.W.Frag} {mg : Str → Option Value} {base : Heap} {f : Addr} {fd : FuncData} {ps : List Str} {k : Nat}
end
end DL

set_option Elab.async false
set_option linter.all false
set_option maxRecDepth 100000
set_option maxHeartbeats 4000000
namespace DL
open PySem PySem.Spec PyProof.Rows L2 GG DD PT StX
variable {K : KX}
abbrev Kxs := List (PyData × PyData)
abbrev DKX := DSt → (Kxs → DSt → Prop) → Prop
def dAugI (f : Int → Int → Int) (i : Nat) (de : DE) : DS := fun E s => ∃ a : Int, s.sl[i]? = some (.dat (.int a)) ∧ de s fun d s1 => ∃ b : Int, d = .int b ∧ E.nx ⟨s1.sl.set i (.dat (.int (f a b))), s1.n⟩
theorem rs_augI {f : Int → Int → Int} {i : Nat} {te : TE} {de : DE} (h : RE K te de) : RS K (tAug i te (ipI f)) (dAugI f i de) := fun C hC E s hd σ H D R o => by
  obtain ⟨a, e0, hd⟩ := hd
  obtain ⟨sl, h1, v, rfl, h3⟩ := R.slots i _ e0
  cases h3
  refine ⟨_, h1, h C hC s _ hd σ H _ R fun w H1 d s1 hp R1 hw => ?_⟩
  obtain ⟨b, e1, hnx⟩ := hp
  subst e1
  cases hw
  exact ⟨a, b, rfl, rfl, o.nx _ _ _ hnx (R1.set (.int _))⟩
end DL

set_option Elab.async false
set_option linter.all false
set_option maxRecDepth 100000
set_option maxHeartbeats 4000000
namespace ENZ
open PySem PySem.Spec PyProof.Rows L2 ZS
section
variable {prog : Program} {w : World} {A : Around} {E : Value → Shared → Prop} {s : Shared}
theorem meets_new (z : Addr) :
    Meets (Builtin.«enumerate.__new__» ⟨[.type "enumerate", .ref z], []⟩) (fun _ R s => (∃ TI TO f0 f1, ZAt s.heap z TI TO f0 f1) ∧
      R (.ok (.ret (.ref s.heap.objs.size))) { s with heap := s.heap.push { cls := .type "enumerate", data := .fields #[.none, .bool false, .ref z, rawInt 0, .none, .none] } }) :=
  .of_wp fun prog w A R s h => by
    obtain ⟨hp, g, d, tk, os⟩ := s
    obtain ⟨⟨TI, TO, f0, f1, hz⟩, h⟩ := h
    have hsub := sub_enumerate
    have q1 : ∀ {A' : Around} {E : Value → Shared → Prop} {Q : Value → Shared → Prop}, Q (.ref z) ⟨hp, g, d, tk, os⟩ → wpAny (model prog w) A' (pyIter (.ref z)) Q E ⟨hp, g, d, tk, os⟩ :=
      fun q => zs_self (s := ⟨hp, g, d, tk, os⟩) hz q
    wp_walk using q1
    refine wpAny_stack_any fun st => wpAny_pure ?_
    split
    · rename_i c _ _ _ _ _
      cases (c == Value.type "enumerate")
      · wp_walk using q1
        exact ⟨_, rfl, h⟩
      · wp_walk using q1
        exact ⟨_, rfl, h⟩
    · wp_walk using q1
      exact ⟨_, rfl, h⟩
theorem call_enum {z : Addr} {Q : Value → Shared → Prop} (hz : ∃ TI TO f0 f1, ZAt s.heap z TI TO f0 f1)
    (h : ∀ h', IsEnum h' s.heap.objs.size z 0 .none → h'.objs.size = s.heap.objs.size + 1 → (∀ b o, s.heap.get? b = some o → h'.get? b = some o) → Q (.ref s.heap.objs.size) { s with heap := h' }) :
    wpAny (model prog w) A (call (.type "enumerate") [.ref z]) Q E s := by
  refine callType_new F.called_enumerate (by decide) (F.typeCall_enumerate_1 _) (F.newCall_enumerate_1 _) (fun obj => F.args_object_init_2 obj _) F.entry_enumerate_new
    (meets_new z) ⟨hz, ?_⟩
  have he : IsEnum (s.heap.push { cls := .type "enumerate", data := .fields #[.none, .bool false, .ref z, rawInt 0, .none, .none] }) s.heap.objs.size z 0 .none := Heap.get?_push_size _ rfl
  exact ⟨⟨_, he, rfl⟩, h _ he (Heap.size_push ..) fun b o x => Heap.get?_push_of_some _ x⟩
end
end ENZ

set_option Elab.async false
set_option linter.all false
set_option maxRecDepth 100000
set_option maxHeartbeats 4000000
namespace ENZ
open PySem PySem.Spec PyProof.Rows L2 ZS
end ENZ
namespace ENZ
open PySem PySem.Spec PyProof.Rows L2 ZS
end ENZ

set_option Elab.async false
set_option linter.all false
set_option maxRecDepth 100000
set_option maxHeartbeats 4000000
namespace DL
open PySem PySem.Spec PyProof.Rows L2 GG DD PT ZS ENZ
variable {K : KX}
end DL

set_option Elab.async false
set_option linter.all false
set_option maxRecDepth 100000
set_option maxHeartbeats 4000000
namespace ZN
open PySem PySem.Spec PyProof.Rows L2 ZS
section
variable {P : Program} {w : World} {A : Around} {E : Value → Shared → Prop} {s : Shared}
end
end ZN

set_option Elab.async false
set_option linter.all false
set_option maxRecDepth 100000
set_option maxHeartbeats 4000000
namespace ZN
open PySem PySem.Spec PyProof.Rows L2 ZS
section
variable {P : Program} {w : World} {A : Around} {E : Value → Shared → Prop} {s : Shared}
end
end ZN

set_option Elab.async false
set_option linter.all false
set_option maxRecDepth 100000
set_option maxHeartbeats 4000000
namespace DL
open PySem PySem.Spec PyProof.Rows L2 GG DD PT ZN
variable {K : KX}
end DL

set_option Elab.async false
set_option linter.all false
set_option maxRecDepth 100000
set_option maxHeartbeats 4000000
namespace UPT
open PySem PySem.Spec PyProof.Rows L2
section
variable {prog : Program} {w : World} {A : Around} {E : Value → Shared → Prop} {s : Shared}
/-- two dicts, the second one empty -/
theorem same_empty {a b : Addr} {oa ob : Obj} {es : Array DictEntry} {ep ep' : Nat} {nm : String} {Q : Bool → Shared → Prop} (ha : (a == sysModules) = false) (hb : (b == sysModules) = false)
    (hoa : s.heap.get? a = some oa) (hda : oa.data = .dict es ep) (hob : s.heap.get? b = some ob) (hdb : ob.data = .dict #[] ep') (h : Q es.isEmpty s) : wpAny (model prog w) A (Builtin.Dict.samePairs nm a b) Q E s := by
  unfold Builtin.Dict.samePairs Builtin.Dict.showsAll
  rw [if_neg (show ¬ (a == sysModules) = true by rw [ha]; exact Bool.false_ne_true), if_neg (show ¬ (b == sysModules) = true by rw [hb]; exact Bool.false_ne_true)]
  refine wpAny_bind (wpAny_pure (wpAny_bind (wpAny_pure ?_)))
  refine wpAny_bind (wpAny_dictEntries hoa hda ?_)
  dsimp only
  refine wpAny_bind (wpAny_dictEntries hob hdb ?_)
  by_cases hsz : es.size = 0
  · have e : es = #[] := Array.eq_empty_of_size_eq_zero hsz
    subst e
    rw [if_neg (by simp)]
    refine wpAny_bind (wpAny_dictEpoch hoa hda ?_)
    refine wpAny_bind ?_
    rw [Std.Legacy.Range.forIn_eq_forIn_range']
    simp only [Std.Legacy.Range.size, Nat.sub_zero, Nat.add_sub_cancel, Nat.div_one]
    show wpAny _ _ (forIn ([] : List Nat) _ _) _ _ _
    rw [List.forIn_nil]
    exact wpAny_pure (wpAny_pure h)
  · have e : es.isEmpty = false := by
      rw [Array.isEmpty_eq_false_iff]
      intro z
      rw [z] at hsz
      exact hsz rfl
    rw [e] at h
    rw [if_pos (by simpa using hsz)]
    exact wpAny_bind (wpAny_rule (wpAny_pure h))
theorem eq_empty {a b : Addr} {oa ob : Obj} {es : Array DictEntry} {ep ep' : Nat} {Q : Value → Shared → Prop} (ha : (a == sysModules) = false) (hb : (b == sysModules) = false)
    (hoa : s.heap.get? a = some oa) (hca : oa.ExactDict) (hda : oa.data = .dict es ep) (hob : s.heap.get? b = some ob) (hcb : ob.ExactDict) (hdb : ob.data = .dict #[] ep') (hu : A.units < cLine) (h : Q (.bool es.isEmpty) s) :
    wpAny (model prog w) A (compareOp .Eq (.ref a) (.ref b)) Q E s := by
  have ta : s.TypeIs (.ref a) "dict" := ⟨oa, hoa, hca.1⟩
  have tb : s.TypeIs (.ref b) "dict" := ⟨ob, hob, hcb.1⟩
  refine wpAny_richCompare_same_room (op := .Eq) ta tb PySem.F.slot_dict_eq (wpAny_call_entry PySem.F.slot_dict_eq ta PySem.F.entry_dict_eq ?_ (PySem.F.args_dict_eq_2 _ _)) hu
  show wpAny _ _ (Builtin.Dict.dictSlotArgs "__eq__" ⟨[.ref a, .ref b], []⟩ >>= _) _ _ s
  refine wpAny_bind ?_
  unfold Builtin.Dict.dictSlotArgs
  refine wpAny_bind (wpAny_notOrdered_dict ta ?_)
  show wpAny _ _ (pure (Value.ref a, Value.ref b)) _ _ s
  refine wpAny_pure ?_
  refine wpAny_bind (wpAny_isInstance (T := "dict") tb PySem.F.sub_dict_dict ?_)
  simp only [Bool.not_true, Bool.false_eq_true, if_false]
  refine wpAny_bind (wpAny_pure (wpAny_bind (wpAny_pure ?_)))
  refine wpAny_bind (same_empty ha hb hoa hda hob hdb ?_)
  refine wpAny_pure ⟨_, rfl, ?_, ?_⟩
  · exact fun x => nomatch x
  · simpa using h
end
section
variable {X : Cx}
end
def mergeT (kvs more : List (List Key × V)) : List (List Key × V) := more.foldl (fun acc p => putK acc p.1 p.2) kvs
theorem KT.merge {H : Hp} : ∀ {more : List (List Key × V)} {ys : List (List Key × Addr × Value)} {kvs : List (List Key × V)} {xs : List (List Key × Addr × Value)}, KT H more ys → KT H kvs xs → KT H (mergeT kvs more) (storedAllH xs ys) := by
  intro more ys kvs xs r
  unfold KT at r
  induction r generalizing kvs xs with
  | nil => intro q; exact q
  | @cons p q ps qs h t ih =>
    intro r0
    have e : KT H (putK kvs p.1 p.2) (storedH xs q.1 q.2.1 q.2.2) := by
      have z := L2.KT.put r0 p.1 h.2.1 h.2.2
      rw [← h.1]
      exact z
    exact ih e
section
variable {X : Cx} {pins : List (Addr × Obj)} {σ : L2.St} {H : Hp} {s : Shared} {a b : Addr} {kvs more : List (List Key × V)} {A : Around} {E : Value → Shared → Prop}
end
section
variable {X : Cx} {o e : Expr} {apos cpos : Pos} {td ty : TE}
end
end UPT

set_option Elab.async false
set_option linter.all false
set_option maxRecDepth 100000
set_option maxHeartbeats 4000000
namespace DL
open PySem PySem.Spec PyProof.Rows L2 GG DD PT
variable {K : KX}
end DL

set_option Elab.async false
set_option linter.all false
set_option maxRecDepth 100000
set_option maxHeartbeats 4000000
namespace LZS
open PySem PyProof.Rows L2 LZ ZS
section
variable {prog : Program} {w : World} {A : Around} {E : Value → Shared → Prop} {s : Shared}
theorem SeB.mv {b : Bool} {h h' : Heap} {l : Addr} {xs : Array Value} (x : SeB b h l xs) (e : ∀ o, h.get? l = some o → h'.get? l = some o) : SeB b h' l xs := by
  cases b with
  | true => exact Heap.IsList.at x e
  | false => exact Heap.IsTuple.at x e
theorem SeB.lt {b : Bool} {h : Heap} {l : Addr} {xs : Array Value} (x : SeB b h l xs) : l < h.objs.size := by
  cases b with
  | true => obtain ⟨_, e, _⟩ := x; exact Heap.lt_size e
  | false => obtain ⟨_, e, _⟩ := x; exact Heap.lt_size e
end
end LZS
namespace LZ
open PySem PySem.Spec PyProof.Rows L2
variable {X : Cx}
end LZ

set_option Elab.async false
set_option linter.all false
set_option maxRecDepth 100000
set_option maxHeartbeats 4000000
namespace SW
open PySem PySem.Spec PyProof.Rows L2
section
variable {Pg : Program} {wd : World} {Kt : Type} [DecidableEq Kt] (kd : PySem.KeyKind Pg wd Kt)
/-- two entries of unlike keys -/
def Apart (x y : Int × Value) : Prop := ∀ z, ¬ (kd.is z x.2 = true ∧ kd.is z y.2 = true)
/-- the set at a: M its members, m their number; it can be walked -/
def Sw (hp : Heap) (ad : Addr) (M : Kt → Bool) (m : Nat) : Prop :=
  ∃ ob es ep tb, hp.get? ad = some ob ∧ ob.ExactSet ∧ ob.data = .set es ep tb ∧ ElemsOf kd es.toList ∧ es.toList.Pairwise (Apart kd) ∧ (∀ z, M z = true ↔ ∃ e ∈ es.toList, kd.is z e.2 = true) ∧
    es.size < scanBound ∧ tb.fits es.size = true ∧ es.size = m ∧ Ris tb.place.toList ∧ (wd.params.followText "set-order" = true ∨ tb.led = true)
variable {kd}
theorem Apart.symm {x y : Int × Value} (h : Apart kd x y) : Apart kd y x := fun z q => h z ⟨q.2, q.1⟩
theorem Sw.keep {hp hq : Heap} {ad : Addr} {M : Kt → Bool} {m : Nat} (R : Sw kd hp ad M m) (g : ∀ u, hp.get? ad = some u → hq.get? ad = some u) : Sw kd hq ad M m := by
  obtain ⟨ob, es, ep, tb, h0, rest⟩ := R
  exact ⟨ob, es, ep, tb, g ob h0, rest⟩
theorem Sw.like {hp : Heap} {ad : Addr} {M N : Kt → Bool} {m : Nat} (R : Sw kd hp ad M m) (g : ∀ z, N z = M z) : Sw kd hp ad N m := by
  rw [show N = M from funext g]
  exact R
variable {A : Around} {X : Value → Shared → Prop} {st : Shared} {ad : Addr} {M : Kt → Bool} {m : Nat}
theorem add_end {gv : Bool → Sem Unit} (hgv : ∀ (b : Bool) (s1 : Shared) (Y : Unit → Shared → Prop), Y () s1 → wpAny (model Pg wd) A (gv b) Y X s1)
    {ob : Obj} {es : Array (Int × Value)} {ep : Nat} {tb : SetTable} (h0 : st.heap.get? ad = some ob) (hx : ob.ExactSet) (hd : ob.data = .set es ep tb)
    {es1 : Array (Int × Value)} {tb2 : SetTable} {N : Kt → Bool} (e1 : ElemsOf kd es1.toList) (p1 : es1.toList.Pairwise (Apart kd)) (m1 : ∀ z, N z = true ↔ ∃ e ∈ es1.toList, kd.is z e.2 = true)
    (b1 : es1.size < scanBound) (f2 : tb2.fits es1.size = true) (r2 : Ris tb2.place.toList) (l2 : wd.params.followText "set-order" = true ∨ tb2.led = true) {wasD : Bool} {R : Option Bool → Shared → Prop}
    (fin : ∀ hq, Heap.SameBut ad st.heap hq → Sw kd hq ad N es1.size → R (some true) { st with heap := hq }) :
    wpAny (model Pg wd) A (do
        storeSet ad es1 tb2
        if (!wasD && tb2.tooFull) = true then do
            gv (relayAll tb2 es1 (SetTable.grown es1.size)).2.2
            storeSet ad (relayAll tb2 es1 (SetTable.grown es1.size)).1 (relayAll tb2 es1 (SetTable.grown es1.size)).2.1
            pure (some true)
          else pure (some true)) R X st := by
  refine wpAny_bind (wpAny_storeSet_of h0 hd ?_ (fits_of_scanBound b1))
  have g1 := store_at (es' := es1) (t' := tb2) h0 hd
  have sm1 := Heap.SameBut.update st.heap ad (Obj.putSet es1 tb2)
  split
  · have q1 := relayAll_perm tb2 es1 (SetTable.grown es1.size)
    have q2 := relayAll_fits tb2 es1 (SetTable.grown es1.size)
    have q3 := relayAll_ris tb2 es1 (SetTable.grown es1.size)
    have q4 := relayAll_led tb2 es1 (SetTable.grown es1.size)
    generalize relayAll tb2 es1 (SetTable.grown es1.size) = RL at q1 q2 q3 q4 ⊢
    obtain ⟨es2, tb3, gave⟩ := RL
    dsimp only at q1 q2 q3 q4 ⊢
    have z2 : es2.size = es1.size := by rw [← Array.length_toList, q1.length_eq, Array.length_toList]
    refine wpAny_bind (hgv _ _ _ ?_)
    refine wpAny_bind (wpAny_storeSet_of g1 rfl ?_ (fits_of_scanBound (by rw [z2]; exact b1)))
    have g2 := store_at (es' := es2) (t' := tb3) g1 rfl
    refine wpAny_pure (fin _ (sm1.trans (Heap.SameBut.update _ ad _)) ⟨_, es2, _, tb3, g2, hx, rfl, e1.perm q1, (q1.pairwise_iff (fun h => Apart.symm h)).mpr p1, fun z => (m1 z).trans ⟨fun ⟨e, he, y⟩ => ⟨e, q1.mem_iff.mpr he, y⟩, fun ⟨e, he, y⟩ => ⟨e, q1.mem_iff.mp he, y⟩⟩, by rw [z2]; exact b1, q2, z2, q3, l2.imp id fun y => by rw [q4]; exact y⟩)
  · exact wpAny_pure (fin _ sm1 ⟨_, es1, _, tb2, g1, hx, rfl, e1, p1, m1, b1, f2, rfl, r2, l2⟩)
theorem add_hashed {kk : Kt} {xv : Value} {Q : Bool → Shared → Prop} (hk : kd.is kk xv = true) (hs : xv.scannable = true) (R : Sw kd st.heap ad M m) (room : m + 1 < scanBound)
    (fin : ∀ hq, Heap.SameBut ad st.heap hq → Sw kd hq ad (fun z => M z || decide (z = kk)) (if M kk = true then m else m + 1) → Q (!M kk) { st with heap := hq }) :
    wpAny (model Pg wd) A (setAddHashed ad xv (kd.hash kk)) Q X st := by
  obtain ⟨ob, es, ep, tb, h0, hx, hd, el, pw, hm, hb, hf, hn, hr, hl⟩ := R
  unfold setAddHashed setAddHashedIn
  refine wpAny_holding (wpAny_bind (wpAny_setState_of h0 hd hf ?_))
  dsimp only
  rw [byScan_of hs hb el, if_pos rfl]
  unfold setAddByScan
  refine wpAny_bind ?_
  refine wpAny_bind (wpAny_rule ?_)
  refine wpAny_bind (wpAny_setScan_of hk h0 hd hf el ?_)
  cases hfi : List.findIdx? (fun e => kd.is kk e.2) es.toList with
  | some j =>
    dsimp only
    obtain ⟨hj, pj, _⟩ := List.findIdx?_eq_some_iff_getElem.mp hfi
    have hM : M kk = true := (hm kk).mpr ⟨es.toList[j], List.getElem_mem hj, pj⟩
    refine wpAny_pure (wpAny_pure ?_)
    have y := fin st.heap (Heap.SameBut.refl ad st.heap) ⟨ob, es, ep, tb, h0, hx, hd, el, pw, fun i => by
      rw [Bool.or_eq_true, decide_eq_true_eq, ← hm i]
      exact ⟨fun y => y.elim id fun e => by rw [e]; exact hM, Or.inl⟩, hb, hf, by rw [if_pos hM]; exact hn, hr, hl⟩
    rw [hM] at y
    exact y
  | none =>
    dsimp only
    have none_is : ∀ e, e ∈ es.toList → kd.is kk e.2 = false := fun e he => by
      have c := List.findIdx?_eq_none_iff.mp hfi e he
      cases q : kd.is kk e.2 with
      | false => rfl
      | true => rw [q] at c; cases c
    have hM : M kk = false := by
      cases q : M kk with
      | false => rfl
      | true =>
        obtain ⟨e, he, hp⟩ := (hm kk).mp q
        rw [none_is e he] at hp
        cases hp
    have gw : ∀ (b : Bool) {s1 : Shared} {Y : Unit → Shared → Prop}, Y () s1 → wpAny (model Pg wd) A (match b with | true => rule "set.scan.the-table-gave-way" | false => pure ()) Y X s1 := fun b s1 Y q => by
      cases b
      · exact wpAny_pure q
      · exact wpAny_rule q
    have q1 := layNew_perm tb es (kd.hash kk) xv
    have q2 := layNew_fits tb es (kd.hash kk) xv
    have q3 := layNew_ris tb es (kd.hash kk) xv hr
    have q4 := layNew_led tb es (kd.hash kk) xv
    generalize layNew tb es (kd.hash kk) xv = LN at q1 q2 q3 q4 ⊢
    obtain ⟨es1, tb1, wasD, gave⟩ := LN
    dsimp only at q1 q2 q3 q4 ⊢
    rw [Array.toList_push] at q1
    have el1 : ElemsOf kd es1.toList := (el.push hk hs).perm q1
    have pw1 : es1.toList.Pairwise (Apart kd) := by
      refine (q1.pairwise_iff (fun h => Apart.symm h)).mpr (List.pairwise_append.mpr ⟨pw, List.pairwise_singleton _ _, fun x hx y hy => ?_⟩)
      rw [List.mem_singleton.mp hy]
      rintro z ⟨h1, h2⟩
      have ez : z = kk := kd.inj xv z kk h2 hk
      rw [ez, none_is x hx] at h1
      cases h1
    have m1 : ∀ z, (M z || decide (z = kk)) = true ↔ ∃ e ∈ es1.toList, kd.is z e.2 = true := mem_push_iff hk hm q1
    have z1 : es1.size = m + 1 := by
      rw [← Array.length_toList, q1.length_eq, List.length_append, Array.length_toList, hn]
      rfl
    have b1 : es1.size < scanBound := by rw [z1]; exact room
    have l1 : wd.params.followText "set-order" = true ∨ tb1.led = true := hl.imp id fun y => by rw [q4]; exact y
    have done : ∀ hq, Heap.SameBut ad st.heap hq → Sw kd hq ad (fun z => M z || decide (z = kk)) es1.size → Q true { st with heap := hq } := fun hq sb r => by
      have y := fin hq sb
      rw [hM] at y
      rw [z1] at r
      exact y r
    refine wpAny_bind (gw _ ?_)
    split
    · refine wpAny_bind ?_
      rw [hashByValue_scannable 8 hs]
      refine wpAny_pure ?_
      refine add_end ?_ h0 hx hd el1 pw1 m1 b1 ?_ ?_ ?_ ?_
      · intro b s1 Y q
        cases b
        · first | exact wpAny_pure q | exact wpAny_rule q
        · first | exact wpAny_pure q | exact wpAny_rule q
      · first | (split <;> first | exact q2 | exact SetTable.fits_plain_off q2) | exact q2
      · first | (split <;> exact q3) | exact q3
      · first | (split <;> exact l1) | exact l1
      · intro hq sb r
        dsimp only
        exact wpAny_pure (done hq sb r)
    · refine wpAny_bind (wpAny_pure ?_)
      rw [if_pos rfl]
      refine add_end ?_ h0 hx hd el1 pw1 m1 b1 q2 q3 l1 ?_
      · intro b s1 Y q
        cases b
        · first | exact wpAny_pure q | exact wpAny_rule q
        · first | exact wpAny_pure q | exact wpAny_rule q
      · intro hq sb r
        dsimp only
        exact wpAny_pure (done hq sb r)
abbrev freshS (w : World) : Obj := { cls := .type "set", dict := none, data := .set #[] 0 (.fresh 0 0 (!w.params.followText "set-order")) }
theorem sw_new {hp : Heap} (h0 : hp.get? ad = some (freshS wd)) : Sw kd hp ad (fun _ => false) 0 :=
  ⟨_, #[], 0, _, h0, ⟨rfl, rfl, rfl⟩, rfl, (fun e he => by simp at he), List.Pairwise.nil, (fun z => by simp), (by decide), (by rfl), rfl, List.Pairwise.nil, by
    show _ ∨ (!wd.params.followText "set-order") = true
    cases wd.params.followText "set-order" <;> simp⟩
theorem upd_loop {It : Addr} {fp wr : List Addr} {G : Array GenState → Array GenState → Prop} {n : Nat} {Pv : Nat → Value → Prop} {St : Nat → Shared → Prop} {R : Result → Shared → Prop}
    (W : WalksS Pg wd A.in1 It fp wr G n Pv St) (D : Addr) (hD : D ∉ fp) (ks : List Kt) (hn : n = ks.length) (hb : ks.length + 1 < scanBound) (hval : ∀ i v, Pv i v → ∃ z, ks[i]? = some z ∧ kd.is z v = true ∧ v.scannable = true) :
    ∀ (k i : Nat) (s0 : Shared), n - i = k → i ≤ n → St i s0 → (∃ c, c ≤ i ∧ Sw kd s0.heap D (fun j => decide (j ∈ ks.take i)) c) →
      (∀ s1 c, Moved (D :: wr) G s0 s1 → c ≤ n → Sw kd s1.heap D (fun j => decide (j ∈ ks)) c → R (.ok (.ret .none)) s1) →
      codeAny (model Pg wd) A (.builtin "set.update.loop" ⟨[.ref D, .ref It], []⟩) R s0 := by
  have hDw : D ∉ wr := fun h => hD (W.sub _ h)
  have more : ∀ b ∈ wr, b ∈ D :: wr := fun b h => List.mem_cons_of_mem _ h
  intro k
  induction k with
  | zero =>
    intro i s0 hk0 hi hst ⟨c, hc, hS⟩ hR
    have ei : i = n := by omega
    subst ei
    refine codeAny_builtin F.entry_set_update_loop ?_
    rw [Around.under_plainId F.plain_set_update_loop _]
    show wpAny _ A.in1 (pyNext (.ref It) >>= _) _ _ s0
    refine wpAny_bind (W.done s0 _ _ hst fun s1 mv => ?_)
    show wpAny _ A.in1 (ret Value.none) _ _ s1
    rw [List.take_of_length_le (show ks.length ≤ i by omega)] at hS
    exact wpAny_pure (hR s1 c (mv.mono more) hc (hS.keep fun o e => mv.heap D o hDw e))
  | succ k ih =>
    intro i s0 hk0 hi hst ⟨c, hc, hS⟩ hR
    have hlt : i < n := by omega
    refine codeAny_builtin F.entry_set_update_loop ?_
    rw [Around.under_plainId F.plain_set_update_loop _]
    show wpAny _ A.in1 (pyNext (.ref It) >>= _) _ _ s0
    refine wpAny_bind (W.item i s0 _ _ hlt hst fun v s1 hP hst1 mv => ?_)
    obtain ⟨z, hz, hzk, hzs⟩ := hval i v hP
    have hS1 : Sw kd s1.heap D (fun j => decide (j ∈ ks.take i)) c := hS.keep fun o e => mv.heap D o hDw e
    show wpAny _ A.in1 (holding [v] (setAdd D v) >>= _) _ _ s1
    refine wpAny_bind (wpAny_holding ?_)
    unfold setAdd
    refine wpAny_holding ?_
    refine wpAny_bind (kd.pyHash (k := z) hzk ?_)
    refine add_hashed hzk hzs (st := { s1 with toks := s1.toks + 1 }) hS1 (by omega) fun hq sb hS2 => ?_
    have hS3 : Sw kd hq D (fun j => decide (j ∈ ks.take (i + 1))) (if decide (z ∈ ks.take i) = true then c else c + 1) := hS2.like fun j => by
      rw [List.take_add_one, hz]
      simp [List.mem_append]
    have hc3 : (if decide (z ∈ ks.take i) = true then c else c + 1) ≤ i + 1 := by split <;> omega
    refine wpAny_pure ⟨plainId_quiet F.plain_set_update_loop _, ih (i + 1) _ (by omega) hlt (W.frame _ s1 _ _ hst1 (Nat.le_succ _) fun b hb2 o e => ?_) ⟨_, hc3, hS3⟩ fun s2 c2 mv2 hc2 hS4 => ?_⟩
    · rw [sb.2 b (fun h : b = D => hD (by rw [← h]; exact hb2))]
      exact e
    · refine hR s2 c2 (Moved.trans W.gtrans ((mv.mono more).then_heap (Nat.le_succ _) fun b o hb2 e => ?_) mv2) hc2 hS4
      rw [sb.2 b (fun h : b = D => hb2 (by rw [h]; exact List.mem_cons_self))]
      exact e

set_option maxHeartbeats 6400000 in
/-- set(xs), xs a list -/
theorem set_list {src : Addr} {its : Array Value} (ks : List Kt) {Q : Value → Shared → Prop} (hh : A.handled = none) (hl : st.heap.IsList src its)
    (hv : ∀ (i : Nat) (v : Value), its[i]? = some v → ∃ z, ks[i]? = some z ∧ kd.is z v = true ∧ v.scannable = true) (hz : its.size = ks.length) (hb : ks.length + 1 < scanBound)
    (fin : ∀ (hq : Heap) (tk c : Nat), Sw kd hq st.heap.objs.size (fun j => decide (j ∈ ks)) c → c ≤ ks.length → (∀ b o, st.heap.get? b = some o → hq.get? b = some o) → Q (.ref st.heap.objs.size) { st with heap := hq, toks := tk }) :
    wpAny (model Pg wd) A (call (.type "set") [.ref src]) Q X st := by
  obtain ⟨cc, tl, hmro⟩ := F.called_set.mro
  have k1 := F.called_set.made
  have k2 := F.called_set.sub
  refine wpAny_call (codeAny_of_tree ?_)
  show wpAny _ _ (callAny (.type "set") _) _ _ _
  refine wpAny_pure ⟨Code.quiet_builtin _ (by decide +kernel), codeAny_builtin F.entry_type_call ?_⟩
  rw [Around.under_plain (weight_type_call_type "set" [.ref src] []) rfl]
  have k3 := F.called_set.notType
  have k4 := F.called_set.canCreate
  have k5 := F.typeCall_set_1 (.ref src)
  repeat (any_goals (first | assumption | wp_step))
  refine codeAny_mono (code_set_led1 (.ref src) (E := X) (Q₁ := fun ob s1 => ob = .ref st.heap.objs.size ∧ s1 = { st with heap := st.heap.push (freshS wd) }) ⟨rfl, rfl⟩) fun r s1 hr => ?_
  cases r with
  | error e => exact hr
  | ok fl =>
    cases fl with
    | ret ob =>
      obtain ⟨rfl, rfl⟩ := hr
      have g0 : (st.heap.push (freshS wd)).get? st.heap.objs.size = some (freshS wd) := Heap.get?_push_size _ rfl
      have hT : Shared.TypeIs { st with heap := st.heap.push (freshS wd) } (.ref st.heap.objs.size) "set" := ⟨_, g0, rfl⟩
      have k6 := F.called_set.init.lookup
      have k7 := F.called_set.init.bind (.ref st.heap.objs.size)
      repeat (any_goals (first | assumption | wp_step))
      refine codeAny_mono (codeAny_call_builtin (R := wants (fun r s2 => r = .none ∧ ∃ hq tk c, s2 = { st with heap := hq, toks := tk } ∧ Sw kd hq st.heap.objs.size (fun j => decide (j ∈ ks)) c ∧ c ≤ ks.length ∧
          (∀ b o, st.heap.get? b = some o → hq.get? b = some o)) X) F.called_set.init.plain F.entry_set_init (check_set_init_1 hT ?_)) fun r2 s2 hr2 => ?_
      · obtain ⟨⟨cl, dd, dat, slo⟩, h0, hcl, nl, hdl⟩ := hl
        simp only at hcl hdl
        subst hcl
        subst hdl
        have h1 : (st.heap.push (freshS wd)).get? src = some { cls := .type "list", dict := dd, data := .seq its nl, slots := slo } := Heap.get?_push_of_some _ h0
        have k8 := F.sub_list_set
        have k9 := F.sub_list_frozenset
        have k10 : (Value.type "list" == Value.type "dict") = false := by decide
        have hl1 : (st.heap.push (freshS wd)).IsList src its := ⟨_, h1, rfl, nl, rfl⟩
        unfold Builtin.«set.__init__» noKeywords Builtin.Frozenset.updateFrom
        generalize hPI : pyIter = PI
        wp_walk
        subst hPI
        refine wpAny_pyIter_list hl1 ?_
        refine wpAny_bind (wpAny_runValue ?_)
        have lt0 : src < st.heap.objs.size := Heap.lt_size h0
        have hh3 : A.in1.in1.in1.handled = none := by simp [hh]
        have ne0 : src ≠ (st.heap.push (freshS wd)).objs.size := by
          rw [Heap.size_push]
          exact Nat.ne_of_lt (Nat.lt_succ_of_lt lt0)
        have nf : st.heap.objs.size ∉ [(st.heap.push (freshS wd)).objs.size, src] := by
          rw [Heap.size_push]
          simp only [List.mem_cons, List.mem_singleton, List.not_mem_nil, or_false, not_or]
          exact ⟨Nat.ne_of_lt (Nat.lt_succ_self _), Nat.ne_of_gt lt0⟩
        refine upd_loop ((Walks.list hh3 _ src ne0 its).toS) st.heap.objs.size nf ks hz hb hv (its.size - 0) 0 _ (by omega) (Nat.zero_le _)
          ⟨⟨_, Heap.get?_push_size _ rfl, rfl, rfl⟩, (hl1.push _)⟩ ?hS0 ?hR
        case hS0 =>
          have g1 : ((st.heap.push (freshS wd)).push { cls := .type "list_iterator", data := .fields #[.ref src, .int 0 0] }).get? st.heap.objs.size = some (freshS wd) := Heap.get?_push_of_some _ g0
          exact ⟨0, Nat.le_refl 0, (sw_new g1).like fun z => by simp⟩
        case hR =>
          intro s3 c2 mv hc2 hS3
          obtain ⟨hq, g2, d2, tk2, o2⟩ := s3
          have eg : g2 = st.gens := mv.gens
          have ed : d2 = st.drawn := mv.drawn
          have eo : o2 = st.os := mv.os
          subst eg
          subst ed
          subst eo
          show wpAny _ _ _ _ _ _
          refine wpAny_pure ?_
          show wpAny _ _ (ret Value.none) _ _ _
          rw [hz] at hc2
          refine wpAny_pure ⟨rfl, hq, tk2, c2, rfl, hS3, hc2, fun b o e => ?_⟩
          have b0 : b < st.heap.objs.size := Heap.lt_size e
          refine mv.heap b o ?_ (Heap.get?_push_of_some _ (Heap.get?_push_of_some _ e))
          rw [Heap.size_push]
          simp only [List.mem_cons, List.mem_singleton, List.not_mem_nil, or_false, not_or]
          exact ⟨Nat.ne_of_lt b0, Nat.ne_of_lt (Nat.lt_succ_of_lt b0)⟩
      · cases r2 with
        | error e => exact hr2
        | ok fl2 =>
          cases fl2 with
          | ret r =>
            obtain ⟨rfl, hq, tk2, c2, rfl, hS3, hc2, hk3⟩ := hr2
            repeat (any_goals (first | assumption | wp_step))
            exact fin _ _ _ hS3 hc2 hk3
          | _ => exact hr2.elim
    | _ => exact hr.elim

set_option maxHeartbeats 6400000 in
/-- set(xs), xs a tuple -/
theorem set_tuple {src : Addr} {its : Array Value} (ks : List Kt) {Q : Value → Shared → Prop} (hh : A.handled = none) (hl : st.heap.IsTuple src its)
    (hv : ∀ (i : Nat) (v : Value), its[i]? = some v → ∃ z, ks[i]? = some z ∧ kd.is z v = true ∧ v.scannable = true) (hz : its.size = ks.length) (hb : ks.length + 1 < scanBound)
    (fin : ∀ (hq : Heap) (tk c : Nat), Sw kd hq st.heap.objs.size (fun j => decide (j ∈ ks)) c → c ≤ ks.length → (∀ b o, st.heap.get? b = some o → hq.get? b = some o) → Q (.ref st.heap.objs.size) { st with heap := hq, toks := tk }) :
    wpAny (model Pg wd) A (call (.type "set") [.ref src]) Q X st := by
  obtain ⟨cc, tl, hmro⟩ := F.called_set.mro
  have k1 := F.called_set.made
  have k2 := F.called_set.sub
  refine wpAny_call (codeAny_of_tree ?_)
  show wpAny _ _ (callAny (.type "set") _) _ _ _
  refine wpAny_pure ⟨Code.quiet_builtin _ (by decide +kernel), codeAny_builtin F.entry_type_call ?_⟩
  rw [Around.under_plain (weight_type_call_type "set" [.ref src] []) rfl]
  have k3 := F.called_set.notType
  have k4 := F.called_set.canCreate
  have k5 := F.typeCall_set_1 (.ref src)
  repeat (any_goals (first | assumption | wp_step))
  refine codeAny_mono (code_set_led1 (.ref src) (E := X) (Q₁ := fun ob s1 => ob = .ref st.heap.objs.size ∧ s1 = { st with heap := st.heap.push (freshS wd) }) ⟨rfl, rfl⟩) fun r s1 hr => ?_
  cases r with
  | error e => exact hr
  | ok fl =>
    cases fl with
    | ret ob =>
      obtain ⟨rfl, rfl⟩ := hr
      have g0 : (st.heap.push (freshS wd)).get? st.heap.objs.size = some (freshS wd) := Heap.get?_push_size _ rfl
      have hT : Shared.TypeIs { st with heap := st.heap.push (freshS wd) } (.ref st.heap.objs.size) "set" := ⟨_, g0, rfl⟩
      have k6 := F.called_set.init.lookup
      have k7 := F.called_set.init.bind (.ref st.heap.objs.size)
      repeat (any_goals (first | assumption | wp_step))
      refine codeAny_mono (codeAny_call_builtin (R := wants (fun r s2 => r = .none ∧ ∃ hq tk c, s2 = { st with heap := hq, toks := tk } ∧ Sw kd hq st.heap.objs.size (fun j => decide (j ∈ ks)) c ∧ c ≤ ks.length ∧
          (∀ b o, st.heap.get? b = some o → hq.get? b = some o)) X) F.called_set.init.plain F.entry_set_init (check_set_init_1 hT ?_)) fun r2 s2 hr2 => ?_
      · obtain ⟨⟨cl, dd, dat, slo⟩, h0, hcl, nl, hdl⟩ := hl
        simp only at hcl hdl
        subst hcl
        subst hdl
        have h1 : (st.heap.push (freshS wd)).get? src = some { cls := .type "tuple", dict := dd, data := .seq its nl, slots := slo } := Heap.get?_push_of_some _ h0
        have k8 := F.sub_tuple_set
        have k9 := F.sub_tuple_frozenset
        have k10 : (Value.type "tuple" == Value.type "dict") = false := by decide
        have hl1 : (st.heap.push (freshS wd)).IsTuple src its := ⟨_, h1, rfl, nl, rfl⟩
        unfold Builtin.«set.__init__» noKeywords Builtin.Frozenset.updateFrom
        generalize hPI : pyIter = PI
        wp_walk
        subst hPI
        refine wpAny_pyIter_tuple hl1 ?_
        refine wpAny_bind (wpAny_runValue ?_)
        have lt0 : src < st.heap.objs.size := Heap.lt_size h0
        have hh3 : A.in1.in1.in1.handled = none := by simp [hh]
        have ne0 : src ≠ (st.heap.push (freshS wd)).objs.size := by
          rw [Heap.size_push]
          exact Nat.ne_of_lt (Nat.lt_succ_of_lt lt0)
        have nf : st.heap.objs.size ∉ [(st.heap.push (freshS wd)).objs.size, src] := by
          rw [Heap.size_push]
          simp only [List.mem_cons, List.mem_singleton, List.not_mem_nil, or_false, not_or]
          exact ⟨Nat.ne_of_lt (Nat.lt_succ_self _), Nat.ne_of_gt lt0⟩
        refine upd_loop ((Walks.tuple hh3 _ src ne0 its).toS) st.heap.objs.size nf ks hz hb hv (its.size - 0) 0 _ (by omega) (Nat.zero_le _)
          ⟨⟨_, Heap.get?_push_size _ rfl, rfl, rfl⟩, (hl1.push _)⟩ ?hS0 ?hR
        case hS0 =>
          have g1 : ((st.heap.push (freshS wd)).push { cls := .type "tuple_iterator", data := .fields #[.ref src, .int 0 0] }).get? st.heap.objs.size = some (freshS wd) := Heap.get?_push_of_some _ g0
          exact ⟨0, Nat.le_refl 0, (sw_new g1).like fun z => by simp⟩
        case hR =>
          intro s3 c2 mv hc2 hS3
          obtain ⟨hq, g2, d2, tk2, o2⟩ := s3
          have eg : g2 = st.gens := mv.gens
          have ed : d2 = st.drawn := mv.drawn
          have eo : o2 = st.os := mv.os
          subst eg
          subst ed
          subst eo
          show wpAny _ _ _ _ _ _
          refine wpAny_pure ?_
          show wpAny _ _ (ret Value.none) _ _ _
          rw [hz] at hc2
          refine wpAny_pure ⟨rfl, hq, tk2, c2, rfl, hS3, hc2, fun b o e => ?_⟩
          have b0 : b < st.heap.objs.size := Heap.lt_size e
          refine mv.heap b o ?_ (Heap.get?_push_of_some _ (Heap.get?_push_of_some _ e))
          rw [Heap.size_push]
          simp only [List.mem_cons, List.mem_singleton, List.not_mem_nil, or_false, not_or]
          exact ⟨Nat.ne_of_lt b0, Nat.ne_of_lt (Nat.lt_succ_of_lt b0)⟩
      · cases r2 with
        | error e => exact hr2
        | ok fl2 =>
          cases fl2 with
          | ret r =>
            obtain ⟨rfl, hq, tk2, c2, rfl, hS3, hc2, hk3⟩ := hr2
            repeat (any_goals (first | assumption | wp_step))
            exact fin _ _ _ hS3 hc2 hk3
          | _ => exact hr2.elim
    | _ => exact hr.elim
end
end SW

set_option Elab.async false
set_option linter.all false
set_option maxRecDepth 100000
set_option maxHeartbeats 4000000
namespace SW
open PySem PySem.W PySem.Spec PyProof.Rows L2
section
variable {Pg : Program} {wd : World} {A : Around} {X : Value → Shared → Prop} {st : Shared} {ad : Addr} {es : Array (Int × Value)} {ep : Nat} {tb : SetTable}
theorem each_self {α β : Type} {R : α → α → Prop} {f : α → β} : ∀ {l : List α}, (∀ x, x ∈ l → R x x) → EachIs R l l
  | [], _ => .nil
  | x :: l, h => .cons (h x List.mem_cons_self) (each_self (f := f) fun y hy => h y (List.mem_cons_of_mem _ hy))
theorem each_eq {α : Type} : ∀ {l m : List α}, EachIs (fun x y => x = y) l m → l = m
  | _, _, .nil => rfl
  | _, _, .cons h t => by rw [h, each_eq t]
/-- sorted(set) -/
theorem sorted_at (ha : SetAt st.heap ad es ep tb) (hf : tb.fits es.size = true) (hz : es.size < scanBound) (hr : Ris tb.place.toList) (hl : wd.params.followText "set-order" = true ∨ tb.led = true) (hh : A.handled = none) (hu : A.units + 70 < cLine)
    (dt : Value → PyData) (rd : ∀ v, v ∈ es.toList.map (·.2) → Reads st.heap v (dt v) []) (al : AllAlike ((es.toList.map (·.2)).map dt)) (so : Sortable ((es.toList.map (·.2)).map dt)) (dp : ∀ v, v ∈ es.toList.map (·.2) → (dt v).depth ≤ 64) {Q : Value → Shared → Prop}
    (fin : ∀ (s1 : Shared) (p : Addr) (vs : List Value) (c : Nat), (∀ b u, st.heap.get? b = some u → s1.heap.get? b = some u) → s1.gens = st.gens → s1.os = st.os → st.heap.objs.size ≤ p → vs.Perm (es.toList.map (·.2)) →
      s1.heap.get? p = some (seqObj "list" (vs.mergeSort (dataLe false dt)).toArray c) → Q (.ref p) s1) :
    wpAny (model Pg wd) A (call (.builtin "sorted") [.ref ad]) Q X st := by
  refine Calls.call_function_entry kind_sorted plain_sorted entry_sorted (args_sorted1 _) ?_
  unfold Builtin.«sorted»
  refine wpAny_bind (m := checkCount "sorted" 1 1 _) (wpAny_pure ?_)
  refine wpAny_bind (collect_set (A := A.in1) hh ha hf hz hr hl fun s1 vs k1 z1 g1 o1 pm => ?_)
  have mem : ∀ v, v ∈ vs → v ∈ es.toList.map (·.2) := fun v hv => pm.mem_iff.mp hv
  have few : vs.length ≤ sizeLine := by
    rw [pm.length_eq, List.length_map, Array.length_toList]
    exact fits_of_scanBound hz
  refine wpAny_bind (wpAny_newList ?_ few)
  have gL : (s1.heap.push (seqObj "list" vs.toArray 0)).get? s1.heap.objs.size = some (seqObj "list" vs.toArray 0) := Heap.get?_push_size _ rfl
  have rd1 : ∀ v, v ∈ vs → Reads (s1.heap.push (seqObj "list" vs.toArray 0)) v (dt v) [] := fun v hv => PyProof.Rows.Reads.keeps (fun b u e => Heap.get?_push_of_some _ (k1 b u e)) (rd v (mem v hv))
  refine wpAny_bind (wpAny_holding (list_sort_data (s := { s1 with heap := s1.heap.push (seqObj "list" vs.toArray 0) }) (R := fun v b => v = b) (enc := dt) (bs := vs) gL (each_self (f := id) fun _ _ => rfl) (each_self (f := id) fun v hv => ⟨[], rd1 v hv, List.not_mem_nil⟩) ?_ ?_ few ?_ fun out hol eo => ?_))
  · intro d hd d2 hd2
    obtain ⟨v, hv, rfl⟩ := List.mem_map.mp hd
    obtain ⟨v2, hv2, rfl⟩ := List.mem_map.mp hd2
    exact al _ (List.mem_map_of_mem (mem v hv)) _ (List.mem_map_of_mem (mem v2 hv2))
  · rcases so with h | h
    · refine .inl fun d hd => ?_
      obtain ⟨v, hv, rfl⟩ := List.mem_map.mp hd
      exact h _ (List.mem_map_of_mem (mem v hv))
    · refine .inr fun d hd => ?_
      obtain ⟨v, hv, rfl⟩ := List.mem_map.mp hd
      exact h _ (List.mem_map_of_mem (mem v hv))
  · intro v hv
    have := dp v (mem v hv)
    show A.units + 1 + 1 + _ < cLine
    omega
  · have e := each_eq eo
    subst e
    obtain ⟨c, hc⟩ := sortedHeap_at (vs := vs) (out := (vs.mergeSort (dataLe false dt)).toArray) gL
    refine wpAny_pure ⟨_, rfl, fin _ s1.heap.objs.size vs c (fun b u e => ?_) g1 o1 z1 pm hc⟩
    have y := k1 b u e
    have lt := Heap.lt_size y
    show (sortedHeap (s1.heap.push (seqObj "list" vs.toArray 0)) s1.heap.objs.size vs _).get? b = some u
    rw [sortedHeap_old (Nat.ne_of_lt lt) (by rw [Heap.size_push]; exact Nat.lt_succ_of_lt lt)]
    exact Heap.get?_push_of_some _ y
end
section
variable {X : Cx}
end
end SW

set_option Elab.async false
set_option linter.all false
set_option maxRecDepth 100000
set_option maxHeartbeats 4000000
namespace NQ
open PySem PySem.Spec PyProof.Rows L2 SW
mutual
def numK : NestedKey → Bool
  | .num _ => true
  | .tup ks => numKs ks
  | _ => false
def numKs : List NestedKey → Bool
  | [] => true
  | k :: ks => numK k && numKs ks
end
/-- the tuple at b is the key k -/
structure Nt (hp : Heap) (k : NestedKey) (b : Addr) : Prop where
  is : NestedIs hp k (.ref b)
  dp : k.depth ≤ 8
  nu : numK k = true
theorem Nt.one {hp : Heap} {k l : NestedKey} {b : Addr} (x : Nt hp k b) (y : Nt hp l b) : k = l := NestedIs.inj _ _ _ x.is y.is
/-- beside a set that changes -/
theorem Nt.beside {hp hq : Heap} {k : NestedKey} {a b : Addr} {o : Obj} {es : Array (Int × Value)} {ep : Nat} {tb : SetTable} (x : Nt hp k b) (ho : hp.get? a = some o) (hd : o.data = .set es ep tb) (hs : Heap.SameBut a hp hq) : Nt hq k b := by
  refine ⟨NestedIs.at (fun c u vs n e hc => ?_) k _ x.is, x.dp, x.nu⟩
  refine (hs.2 c fun z => ?_).trans e
  subst z
  rw [ho] at e
  cases e
  rw [hd] at hc
  cases hc
section
variable {Pg : Program} {wd : World} {A : Around} {X : Value → Shared → Prop} {st : Shared}
mutual
theorem noClass : ∀ (k : NestedKey) (v : Value) (n : Nat), NestedIs st.heap k v → k.depth ≤ n → ∀ Q : Bool → Shared → Prop, Q false st → wpAny (model Pg wd) A (ofAClassStatement n v) Q X st
  | .num i, _, n, x, _, Q, h => by
    cases x <;> (cases n <;> exact wpAny_pure h)
  | .none, _, n, x, _, Q, h => by
    cases x
    cases n <;> exact wpAny_pure h
  | .text _, _, n, x, _, Q, h => by
    cases x
    cases n <;> exact wpAny_pure h
  | .tup ks, _, n, x, hn, Q, h => by
    cases x with
    | @tup a o vs m ks' hg hc hd hk =>
      simp only [NestedKey.depth] at hn
      cases n with
      | zero => omega
      | succ n =>
        unfold ofAClassStatement
        refine wpAny_bind (wpAny_typeOf ⟨_, hg, hc⟩ ?_)
        dsimp only
        have e0 : (("tuple" : String) == "tuple") = true := by decide
        simp only [e0, if_true, Bool.not_true, Bool.false_eq_true, if_false]
        try refine wpAny_bind (wpAny_pure ?_)
        try simp only [Bool.not_true, Bool.false_eq_true, if_false]
        show wpAny _ _ (seqItems? (.ref a) >>= _) _ _ st
        refine wpAny_bind (wpAny_seqItems hg hd ?_)
        dsimp only
        refine wpAny_bind ?_
        show wpAny _ _ (forIn vs _ _) _ _ st
        rw [← Array.forIn_toList]
        have all := noClasses ks vs.toList n hk (by omega)
        refine wpAny_forIn_list _ (fun rest r s1 => r.1 = none ∧ s1 = st ∧ ∀ v ∈ rest, v ∈ vs.toList) _ ?_ ?_ _ _ ⟨rfl, rfl, fun v hv => hv⟩
        · rintro v rest r s1 ⟨hr, rfl, hsub⟩
          refine wpAny_bind (all v (hsub v List.mem_cons_self) _ ?_)
          simp only [Bool.false_eq_true, if_false]
          exact wpAny_pure ⟨rfl, rfl, fun u hu => hsub u (List.mem_cons_of_mem _ hu)⟩
        · rintro ⟨r1, r2⟩ s1 ⟨hr, rfl, _⟩
          simp only at hr
          subst hr
          exact wpAny_pure h
theorem noClasses : ∀ (ks : List NestedKey) (vs : List Value) (n : Nat), NestedAll st.heap ks vs → NestedKey.depthAll ks ≤ n → ∀ v ∈ vs, ∀ Q : Bool → Shared → Prop, Q false st → wpAny (model Pg wd) A (ofAClassStatement n v) Q X st
  | [], _, _, x, _, v, hv, _, _ => by cases x; cases hv
  | k :: ks, _, n, x, hn, v, hv, Q, h => by
    cases x with
    | cons x1 x2 =>
      simp only [NestedKey.depthAll] at hn
      rcases List.mem_cons.mp hv with e | hv
      · subst e
        exact noClass k _ n x1 (by omega) Q h
      · exact noClasses ks _ n x2 (by omega) v hv Q h
end
theorem unseen {k : NestedKey} {b : Addr} {Q : Bool → Shared → Prop} (hk : Nt st.heap k b) {ys : List Value} (hy : ∀ y ∈ ys, ∃ l c, y = Value.ref c ∧ Nt st.heap l c) (h : Q false st) : wpAny (model Pg wd) A (searchCouldBeSeen (.ref b) ys) Q X st := by
  unfold searchCouldBeSeen
  refine wpAny_bind ?_
  refine wpAny_forIn_list _ (fun rest r s1 => r.1 = none ∧ s1 = st ∧ ∀ v ∈ rest, v ∈ ys) _ ?_ ?_ _ _ ⟨rfl, rfl, fun v hv => hv⟩
  · rintro v rest r s1 ⟨hr, rfl, hsub⟩
    obtain ⟨l, c, rfl, hc⟩ := hy v (hsub v List.mem_cons_self)
    have hsub2 : ∀ u ∈ rest, u ∈ ys := fun u hu => hsub u (List.mem_cons_of_mem _ hu)
    dsimp only
    by_cases hv : (b == c || (carriedByValue (.ref b) && carriedByValue (.ref c))) = true
    · refine wp_if_pos hv ?_
      exact wpAny_pure ⟨rfl, rfl, hsub2⟩
    · refine wp_if_neg hv ?_
      refine wpAny_bind ((nestedKind Pg wd).quiet ⟨hk.is, hk.dp⟩ ?_)
      simp only [Bool.not_true, Bool.false_eq_true, if_false]
      refine wpAny_bind ((nestedKind Pg wd).quiet ⟨hc.is, hc.dp⟩ ?_)
      simp only [Bool.not_true, Bool.false_eq_true, if_false]
      refine wpAny_bind (noClass k _ 8 hk.is hk.dp _ ?_)
      simp only [Bool.false_eq_true, if_false]
      refine wpAny_bind (noClass l _ 8 hc.is hc.dp _ ?_)
      simp only [Bool.false_eq_true, if_false]
      exact wpAny_pure ⟨rfl, rfl, hsub2⟩
  · rintro ⟨r1, r2⟩ s1 ⟨hr, rfl, _⟩
    simp only at hr
    subst hr
    exact wpAny_pure h
abbrev Ml := List (Addr × NestedKey)
def rowsN (w : World) (L : Ml) : List (Int × Value) := L.map fun p => (p.2.hash w, Value.ref p.1)
abbrev hs (w : World) (L : Ml) : List Int := L.map fun p => p.2.hash w
structure Sn (w : World) (hp : Heap) (a : Addr) (L : Ml) (es : Array (Int × Value)) (ep : Nat) (tb : SetTable) : Prop where
  ob : ∃ o, hp.get? a = some o ∧ o.ExactSet ∧ o.data = .set es ep tb
  rows : es.toList = rowsN w L
  tab : TabOk tb (hs w L)
  nd : (L.map (·.2)).Nodup
  nt : ∀ p ∈ L, Nt hp p.2 p.1
  pl : tb.plain = true
  led : w.params.followText "set-order" = true ∨ tb.led = true
  room : L.length * 5 < tb.mask * 3
  few : L.length < 64
variable {a : Addr} {L : Ml} {es : Array (Int × Value)} {ep : Nat} {tb : SetTable}
theorem rowsN_len {es : Array (Int × Value)} {L : Ml} (h : es.toList = rowsN wd L) : es.size = L.length := by
  rw [← Array.length_toList, h]
  exact List.length_map ..
theorem rowsN_at {es : Array (Int × Value)} {L : Ml} (h : es.toList = rowsN wd L) {i : Nat} {p : Addr × NestedKey} (hi : L[i]? = some p) : es[i]? = some (p.2.hash wd, Value.ref p.1) := by
  rw [← Array.getElem?_toList, h]
  unfold rowsN
  rw [List.getElem?_map, hi]
  rfl
theorem Sn.fits (R : Sn wd st.heap a L es ep tb) : tb.fits es.size = true := by
  have h1 := R.tab.sz
  rw [List.length_map] at h1
  have h2 := rowsN_len R.rows
  have h3 := R.room
  unfold SetTable.fits SetTable.fill
  rw [R.tab.dm, Bool.and_eq_true, beq_iff_eq, decide_eq_true_eq]
  exact ⟨by omega, by show tb.place.size + 0 ≤ tb.mask; omega⟩
theorem Sn.whole (R : Sn wd st.heap a L es ep tb) : ¬ tb.gaveWay = true := by
  unfold SetTable.gaveWay
  rw [mask_odd R.tab.mok]
  decide
/-- the probe at the c-th step of the way of a hash -/
abbrev prb (m : Nat) (hh : Int) (c : Nat) : SetTable.Probe := nth m (runAt m (SetTable.bits hh % (m + 1)) (SetTable.bits hh)) c
theorem prb_dummy (m : Nat) (hh : Int) (c : Nat) : (prb m hh c).dummy = none := by
  have key : ∀ (n : Nat) (p : SetTable.Probe), p.dummy = none → (nth m p n).dummy = none := by
    intro n
    induction n with
    | zero => exact fun p h => h
    | succ n ih =>
      intro p h
      refine ih (adv m p) ?_
      unfold adv
      split <;> exact h
  exact key c _ rfl
theorem prb_add (m : Nat) (hh : Int) (c q : Nat) : nth m (prb m hh c) q = prb m hh (c + q) := (nth_add m c _ q).symm
/-- the search, from the c-th step on -/
theorem look (R : Sn wd st.heap a L es ep tb) {x : Addr} {k : NestedKey} (hx : Nt st.heap k x) (hu : A.units + 8 < cLine) {K : Nat} (hKf : K < 10 * SetTable.turns tb.mask)
    (hK : way tb.mask (k.hash wd) K ∉ tb.place.toList) (hKb : ∀ c, c < K → way tb.mask (k.hash wd) c ∈ tb.place.toList) {Q : SetFound → Shared → Prop}
    (hin : k ∈ L.map (·.2) → Q (.there none) st) (hout : k ∉ L.map (·.2) → Q (.free (way tb.mask (k.hash wd) K) false) st) :
    ∀ (f c : Nat) (sd : Option SetTable.Probe), sd.getD (tb.probeStart (k.hash wd)) = prb tb.mask (k.hash wd) c → c ≤ K → K - c < f →
      (∀ (i : Nat) p, L[i]? = some p → p.2 = k → ∃ d, c ≤ d ∧ d < K ∧ tb.place.toList[i]? = some (way tb.mask (k.hash wd) d)) →
      wpAny (model Pg wd) A (setSearchFrom a (.ref x) (k.hash wd) true f sd) Q X st
  | 0, c, sd, _, _, hf, _ => absurd hf (Nat.not_lt_zero _)
  | f + 1, c, sd, hst, hc, hf, hre => by
    obtain ⟨o, ho, hex, hd⟩ := R.ob
    rw [setSearchFrom_succ]
    refine wpAny_bind (wpAny_setState_of ho hd R.fits ?_)
    dsimp only
    refine wp_if_neg R.whole ?_
    try refine wpAny_bind (wpAny_pure ?_)
    have e1 : ∀ q, (nth tb.mask (prb tb.mask (k.hash wd) c) q).j = way tb.mask (k.hash wd) (c + q) := fun q => congrArg SetTable.Probe.j (prb_add _ _ c q)
    have hat : ∀ (i : Nat) p, L[i]? = some p → (es[i]?.map (·.1)).getD 0 = p.2.hash wd := fun i p hp => by
      rw [rowsN_at R.rows hp]
      rfl
    rcases go_spec tb R.tab.ris R.tab.dm (fun i => (es[i]?.map (·.1)).getD 0) (k.hash wd) (10 * SetTable.turns tb.mask) (K - c) _ (prb_dummy _ _ c) (by omega)
      (fun q hq => by rw [e1]; exact hKb (c + q) (by omega)) (by rw [e1, show c + (K - c) = K by omega]; exact hK) with ⟨q, i, hq, hi, hh, hno, hpr⟩ | ⟨hno, hpr⟩
    · have met : tb.probe (fun i => (es[i]?.map (·.1)).getD 0) (k.hash wd) (sd.getD (tb.probeStart (k.hash wd))) = some (.candidate (way tb.mask (k.hash wd) (c + q)) i (prb tb.mask (k.hash wd) (c + (q + 1)))) := by
        rw [hst, ← e1, ← prb_add]
        exact hpr
      rw [met]
      dsimp only
      rw [e1] at hi
      have hil : i < L.length := by
        have h1 : i < tb.place.toList.length := (List.getElem?_eq_some_iff.mp hi).1
        have h2 := R.tab.sz
        rw [List.length_map] at h2
        rw [Array.length_toList] at h1
        omega
      obtain ⟨p, hp⟩ : ∃ p, L[i]? = some p := ⟨_, List.getElem?_eq_getElem hil⟩
      have hmem : p ∈ L := List.mem_of_getElem? hp
      have rest : wpAny (model Pg wd) A (searchRest a (.ref x) (k.hash wd) true f es tb (way tb.mask (k.hash wd) (c + q)) i (prb tb.mask (k.hash wd) (c + (q + 1)))) Q X st := by
        unfold searchRest
        rw [rowsN_at R.rows hp]
        dsimp only
        refine wpAny_bind (wpAny_holding ((nestedKind Pg wd).eqBool (x := p.2) (y := k) hu ⟨(R.nt p hmem).is, (R.nt p hmem).dp⟩ ⟨hx.is, hx.dp⟩ ?_))
        refine wpAny_bind (wpAny_setState_of ho hd R.fits ?_)
        dsimp only
        by_cases hkk : p.2 = k
        · refine wp_if_pos (by simp [hkk]) ?_
          exact wpAny_pure (hin (List.mem_map.mpr ⟨p, hmem, hkk⟩))
        · refine wp_if_neg (by simp [hkk]) ?_
          try refine wpAny_bind (wpAny_pure ?_)
          rw [sameMem]
          dsimp only
          have live := slot_live R.tab.ris hi
          simp only [if_true, live, rowsN_at R.rows hp]
          refine wpAny_bind (wpAny_isSame_ref_self (wpAny_bind (wpAny_pure ?_)))
          simp only [if_true]
          refine wp_if_neg (by simp [hkk]) ?_
          refine look R hx hu hKf hK hKb hin hout f (c + (q + 1)) _ rfl (by omega) (by omega) fun i0 p0 h0 hk0 => ?_
          obtain ⟨d, a1, a2, a3⟩ := hre i0 p0 h0 hk0
          refine ⟨d, ?_, a2, a3⟩
          rcases Nat.lt_trichotomy d (c + q) with z | z | z
          · exact absurd ((hat i0 p0 h0).trans (by rw [hk0])) (hno (d - c) i0 (by omega) (by rw [e1, show c + (d - c) = d by omega]; exact a3))
          · exfalso
            rw [z] at a3
            have s0 := slot_live R.tab.ris a3
            rw [live] at s0
            injection s0 with s0
            rw [← s0, hp] at h0
            exact hkk (by rw [Option.some.inj h0]; exact hk0)
          · omega
      by_cases hl : tb.led = true
      · refine wp_if_neg (by simp [hl]) ?_
        try refine wpAny_bind (wpAny_pure ?_)
        exact rest
      · refine wp_if_pos (by simp [hl]) ?_
        refine wpAny_bind (unseen hx (fun y hy => ?_) ?_)
        · obtain ⟨e, he, ee⟩ := List.mem_map.mp hy
          have he2 : e ∈ es.toList := by
            have he1 : e ∈ es ∧ e.1 = k.hash wd := by simpa using he
            simpa using he1.1
          rw [R.rows] at he2
          obtain ⟨p2, hp2, e2⟩ := List.mem_map.mp he2
          exact ⟨p2.2, p2.1, by rw [← ee, ← e2], R.nt p2 hp2⟩
        · refine wp_if_neg (by decide) ?_
          try refine wpAny_bind (wpAny_pure ?_)
          exact rest
    · have met : tb.probe (fun i => (es[i]?.map (·.1)).getD 0) (k.hash wd) (sd.getD (tb.probeStart (k.hash wd))) = some (.empty (way tb.mask (k.hash wd) K) none) := by
        have e2 : way tb.mask (k.hash wd) K = (nth tb.mask (prb tb.mask (k.hash wd) c) (K - c)).j := by rw [e1, show c + (K - c) = K by omega]
        rw [hst, e2]
        exact hpr
      rw [met]
      dsimp only
      refine wpAny_pure (hout fun hm => ?_)
      obtain ⟨p0, h0, hk0⟩ := List.mem_map.mp hm
      obtain ⟨i0, h00⟩ := List.mem_iff_getElem?.mp h0
      obtain ⟨d, a1, a2, a3⟩ := hre i0 p0 h00 hk0
      exact hno (d - c) i0 (by omega) (by rw [e1, show c + (d - c) = d by omega]; exact a3) ((hat i0 p0 h00).trans (by rw [hk0]))
end
end NQ

set_option Elab.async false
set_option linter.all false
set_option maxRecDepth 100000
set_option maxHeartbeats 4000000
namespace NQ
open PySem PySem.Spec PyProof.Rows L2 SW
section
variable {Pg : Program} {wd : World} {A : Around} {X : Value → Shared → Prop} {st : Shared}
variable {a : Addr} {L : Ml} {es : Array (Int × Value)} {ep : Nat} {tb : SetTable}
/-- from the first i items -/
structure Gt (ks : Ml) (i : Nat) (L : Ml) : Prop where
  sub : ∀ p ∈ L, p ∈ ks.take i
  all : ∀ p ∈ ks.take i, p.2 ∈ L.map (·.2)
  len : L.length ≤ i
theorem take_more {α : Type} {l : List α} {i : Nat} {x : α} (h : l[i]? = some x) : l.take (i + 1) = l.take i ++ [x] := by
  rw [List.take_succ, h]
  rfl
theorem Gt.put {ks L L2 : Ml} {i : Nat} {x : Addr × NestedKey} (g : Gt ks i L) (h : ks[i]? = some x) (h1 : x.2 ∈ L.map (·.2) → L2 = L) (h2 : x.2 ∉ L.map (·.2) → L2.Perm (x :: L)) : Gt ks (i + 1) L2 := by
  rcases Classical.em (x.2 ∈ L.map (·.2)) with c | c
  · rw [h1 c]
    refine ⟨fun p hp => ?_, fun p hp => ?_, Nat.le_succ_of_le g.len⟩
    · rw [take_more h]
      exact List.mem_append_left _ (g.sub p hp)
    · rw [take_more h] at hp
      rcases List.mem_append.mp hp with z | z
      · exact g.all p z
      · rw [List.mem_singleton.mp z]
        exact c
  · have pm := h2 c
    refine ⟨fun p hp => ?_, fun p hp => ?_, by rw [pm.length_eq]; exact Nat.succ_le_succ g.len⟩
    · rw [take_more h]
      rcases List.mem_cons.mp (pm.mem_iff.mp hp) with e | z
      · rw [e]
        exact List.mem_append_right _ (List.mem_singleton.mpr rfl)
      · exact List.mem_append_left _ (g.sub p z)
    · rw [(pm.map (·.2)).mem_iff, List.map_cons]
      rw [take_more h] at hp
      rcases List.mem_append.mp hp with z | z
      · exact List.mem_cons_of_mem _ (g.all p z)
      · rw [List.mem_singleton.mp z]
        exact List.mem_cons_self
theorem Sn.move {hp hq : Heap} (R : Sn wd hp a L es ep tb) (g : ∀ u, hp.get? a = some u → hq.get? a = some u) (nt : ∀ p ∈ L, Nt hq p.2 p.1) : Sn wd hq a L es ep tb := by
  obtain ⟨o, ho, r⟩ := R.ob
  exact ⟨⟨o, g o ho, r⟩, R.rows, R.tab, R.nd, nt, R.pl, R.led, R.room, R.few⟩
end
end NQ

set_option Elab.async false
set_option linter.all false
set_option maxRecDepth 100000
set_option maxHeartbeats 4000000
namespace NQ
open PySem PySem.W PySem.Spec PyProof.Rows L2 SW DL
section
variable {X : Cx}
end
end NQ

set_option Elab.async false
set_option linter.all false
set_option maxRecDepth 100000
set_option maxHeartbeats 4000000
namespace DL
open PySem PySem.Spec PyProof.Rows L2 GG DD PT
variable {K : KX}
theorem hu_le {n k : Nat} {A : Around} (r : Room k A) (h : n ≤ 200) : A.units + n < cLine := by
  have := r.un
  omega
theorem xo_none {W : WX} : XOk K W (fun _ _ _ => False) := ⟨fun _ _ _ _ _ _ h => h.elim, fun _ _ _ _ _ _ _ _ _ h => h.elim⟩
theorem DaAll.set {K : PySem.W.Frag} {H : Hp} : ∀ {vs : List V} {ds : List PyData} {j : Nat} {v : V} {d : PyData}, DaAll K H vs ds → Da K H v d → DaAll K H (vs.set j v) (ds.set j d)
  | _, _, _, _, _, .nil, _ => .nil
  | _, _, 0, _, _, .cons _ t, h => .cons h t
  | _, _, _ + 1, _, _, .cons a t, h => .cons a (t.set h)
end DL

set_option Elab.async false
set_option linter.all false
set_option maxRecDepth 100000
set_option maxHeartbeats 4000000
namespace DL
open PySem PySem.Spec PyProof.Rows L2 GG DD PT
variable {K : KX}
section
variable {C : DC} {σ : L2.St} {H : Hp} {s : DSt}
end
end DL

set_option Elab.async false
set_option linter.all false
set_option maxRecDepth 100000
set_option maxHeartbeats 4000000
namespace STT
open PySem PySem.Spec PyProof.Rows L2
section
variable {prog : Program} {w : World} {A : Around} {E : Value → Shared → Prop} {s : Shared}
end
section
variable {X : Cx} {pos : Pos}
end
end STT
namespace DL
open PySem PySem.Spec PyProof.Rows L2 GG DD PT
variable {K : KX}
end DL

set_option Elab.async false
set_option linter.all false
set_option maxRecDepth 100000
set_option maxHeartbeats 4000000
namespace DL
open PySem PySem.Spec PyProof.Rows L2 GG DD PT
variable {K : KX}
end DL
namespace DL
open PySem PySem.Spec PyProof.Rows L2 GG DD PT
variable {K : KX}
end DL

set_option Elab.async false
set_option linter.all false
set_option maxRecDepth 100000
set_option maxHeartbeats 4000000
namespace LSS
open PySem PySem.Spec PyProof.Rows L2
section
variable {prog : Program} {w : World} {A : Around} {E : Value → Shared → Prop} {s : Shared} {R : Result → Shared → Prop}
end
end LSS
namespace DL
open PySem PySem.Spec PyProof.Rows L2 GG DD PT
variable {K : KX}
end DL

set_option Elab.async false
set_option linter.all false
set_option maxRecDepth 100000
set_option maxHeartbeats 4000000
namespace GXR
open PySem PySem.Spec PyProof.Rows L2 GG GxR GenW
section
variable (elt t1 i1 t2 i2 : Expr) (scope : Scope) (pos : Pos)
end
section
variable {Y : Cx} {A : Around} {pl pl' : List (Addr × Obj)} {stop : Bool} {Qb : Bool → Hp → Prop} {elt t1 i1 t2 i2 : Expr} {scope : Scope} {gpos : Pos} {c1 : Code} {fs : List Frame} {kk : Result → Sem PySem.Fin} {l kp : List Value} {p : Pos}
  {it2 : Addr} {J2 : It} {fp2 : List Addr} {tn2 : Nat → Heap → Prop} {g2 : TG} {te : TE} {σ2 : L2.St} {vs2 : List Nat} {Vv : Nat → Hp → Prop} {W' : Hp → Prop} {m2 R0 : Nat}
end
section
variable {Y : Cx} {A : Around} {pl : List (Addr × Obj)} {stop : Bool} {Qb : Bool → Hp → Prop} {elt t1 i1 t2 i2 : Expr} {scope : Scope} {gpos : Pos} {σ0 : L2.St} {fp : List Addr} {tn : Nat → Heap → Prop} {m B : Nat}
  {W : Nat → Hp → Prop} {J : It} {vs vs2 : List Nat} {g1 g2 : TG} {wi2 : TI} {te : TE} {it : Addr}
end
section
variable {Y : Cx} {A : Around} {pl : List (Addr × Obj)} {stop : Bool} {Qb : Bool → Hp → Prop} {elt t1 i1 t2 i2 : Expr} {scope : Scope} {gpos : Pos} {σ0 : L2.St} {fp : List Addr} {tn : Nat → Heap → Prop} {m B : Nat}
  {W : Nat → Hp → Prop} {J : It} {vs vs2 : List Nat} {g1 g2 : TG} {wi2 : TI} {te : TE} {it : Addr}
end
section
variable {X : Cx} {pins : List (Addr × Obj)} {σ : L2.St} {H : Hp} {s : Shared} {c P : Addr} {elt t1 i1 t2 i2 : Expr} {gpos p pos : Pos} {scope : Scope} {wi wi2 : TI} {g1 g2 : TG} {te : TE} {vs vs2 : List Nat} {k : Nat}
end

section
variable {Y : Cx} {A : Around} {pl : List (Addr × Obj)} {stop : Bool} {Qb : Bool → Hp → Prop} {a : Addr} {g : Nat} {R : Result → Shared → Prop}
end
section
variable {X : Cx} {c P : Addr} {elt t1 i1 t2 i2 : Expr} {gpos p pos : Pos} {scope : Scope} {wi wi2 : TI} {g1 g2 : TG} {te : TE} {vs vs2 : List Nat} {k : Nat}
end
end GXR

set_option Elab.async false
set_option linter.all false
set_option maxRecDepth 100000
set_option maxHeartbeats 4000000
namespace DL
open PySem PySem.Spec PyProof.Rows L2 GG DD PT GXR
variable {K : KX}
end DL

set_option Elab.async false
set_option linter.all false
set_option maxRecDepth 100000
set_option maxHeartbeats 4000000
namespace ZM
open PySem PySem.Spec PyProof.Rows L2 ZS ZN
section
variable {P : Program} {w : World} {A : Around} {E : Value → Shared → Prop} {s : Shared}
end
end ZM

set_option Elab.async false
set_option linter.all false
set_option maxRecDepth 100000
set_option maxHeartbeats 4000000
namespace DL
open PySem PySem.Spec PyProof.Rows L2 GG DD PT ZM
variable {K : KX}
end DL

set_option Elab.async false
set_option linter.all false
set_option maxRecDepth 100000
set_option maxHeartbeats 4000000
namespace DL
open PySem PySem.Spec PyProof.Rows L2 GG DD PT
section
variable {X : Cx}
/-- + and - of whole numbers and truth values, with a whole number -/
def nB : V → Option Int
  | .int i => some i
  | .bl b => some (if b = true then 1 else 0)
  | _ => none
end
variable {K : KX}
theorem ints_da {H : Hp} : ∀ {vs : List V} {ns : List Int}, DaAll K H vs (ns.map PyData.int) → vs = ns.map V.int
  | vs, [], h => by cases h; rfl
  | vs, n :: ns, h => by
    cases h with
    | cons h1 h2 =>
      cases h1
      rw [ints_da h2]
      rfl
end DL

set_option Elab.async false
set_option linter.all false
set_option maxRecDepth 100000
set_option maxHeartbeats 4000000
namespace DX
open PySem PySem.Spec PyProof.Rows L2
section
variable {X : Cx}
end
end DX
namespace DL
open PySem PySem.Spec PyProof.Rows L2 GG DD PT StX
variable {K : KX}
end DL

set_option Elab.async false
set_option linter.all false
set_option maxRecDepth 100000
set_option maxHeartbeats 4000000
namespace SW
open PySem PySem.Spec PyProof.Rows L2
section
variable {X : Cx}
end
end SW
namespace RGL
open PySem PySem.Spec PyProof.Rows L2
end RGL
namespace DL
open PySem PySem.Spec PyProof.Rows L2 GG DD PT
variable {K : KX}
end DL

set_option Elab.async false
set_option linter.all false
set_option maxRecDepth 100000
set_option maxHeartbeats 4000000
namespace DL
open PySem PySem.Spec PyProof.Rows L2 GG DD PT
variable {K : KX}
section
variable {F : PySem.W.Frag} {H H' : Hp}
end
end DL

set_option Elab.async false
set_option linter.all false
set_option maxRecDepth 100000
set_option maxHeartbeats 4000000
namespace EQS
open PySem PySem.Spec PyProof.Rows L2
variable {X : Cx}
end EQS
namespace DL
open PySem PySem.Spec PyProof.Rows L2 GG DD PT
variable {K : KX}
end DL

set_option Elab.async false
set_option linter.all false
set_option maxRecDepth 100000
set_option maxHeartbeats 4000000
namespace DL
open PySem PySem.Spec PyProof.Rows L2 GG DD PT
variable {K : KX}
def flatK (kvs : List (PyData × PyData)) : Bool := kvs.all fun p => (kOf p.1).isSome
def isFlatD : PyData → Prop
  | .dict kvs => flatK kvs = true
  | _ => False
theorem flat_dic {H : Hp} {v : V} {kvs : List (PyData × PyData)} (h : Da K H v (.dict kvs)) (f : flatK kvs = true) : ∃ a es, v = .ref a ∧ H a = some (.dK es) ∧ DaKv K H es kvs := by
  cases h with
  | dic h1 h2 => exact ⟨_, _, rfl, h1, h2⟩
  | dct h1 h2 h3 =>
    cases h3 with
    | nil => exact absurd rfl h2
    | cons _ _ =>
      unfold flatK at f
      rw [List.all_cons, Bool.and_eq_true] at f
      cases f.1
end DL

set_option Elab.async false
set_option linter.all false
set_option maxRecDepth 100000
set_option maxHeartbeats 4000000
namespace DL
open PySem PySem.Spec PyProof.Rows L2 GG DD PT
/-- an object made or changed -/
@[reducible] def GS.put (g : GS) (a : Addr) (o : OB) : GS := ⟨g.n, fun b => if b = a then some o else g.ob b⟩
theorem put_at {g : GS} {a : Addr} {o : OB} : (g.put a o).ob a = some o := if_pos rfl
theorem put_ne {g : GS} {a b : Addr} {o : OB} (h : b ≠ a) : (g.put a o).ob b = g.ob b := if_neg h
/-- such a thing in a slot -/
def OV.dv : OV → DV
  | .d x => .dat x
  | .o a => .obj a
  | .dk => .deck
section
variable {C : DC} {σ : L2.St} {H : Hp} {s : DSt}
theorem Rl.obPut (R : Rl C σ H s) {a : Addr} {o : HO} {b : OB} (hc : (H a = none) ∨ ∃ b0, s.n.ob a = some b0) (hb : ObOk C.K C.W (Hd (Sof C σ s) H) (upd H a o) a b) :
    Rl C σ (upd H a o) ⟨s.sl, s.n.put a b⟩ ∧ Same (Hd (Sof C σ s) H) (Hd (Sof C σ ⟨s.sl, s.n.put a b⟩) (upd H a o)) := by
  have sub : ∀ c, Sof C σ ⟨s.sl, s.n.put a b⟩ c → Sof C σ s c ∨ c = a := fun c h => by
    rcases h with h | h | h | ⟨x, h⟩
    · exact .inl (.inl h)
    · exact .inl (.inr (.inl h))
    · exact .inl (.inr (.inr (.inl h)))
    · by_cases e : c = a
      · exact .inr e
      · exact .inl (.inr (.inr (.inr ⟨x, (put_ne e).symm.trans h⟩)))
  have hid : ∀ c u, H c = some u → ¬ Sof C σ s c → c ≠ a := fun c u h1 h2 e => by
    subst e
    rcases hc with hc | ⟨b0, hc⟩
    · rw [hc] at h1
      cases h1
    · exact h2 (.inr (.inr (.inr ⟨b0, hc⟩)))
  have hs : Same (Hd (Sof C σ s) H) (Hd (Sof C σ ⟨s.sl, s.n.put a b⟩) (upd H a o)) := fun c u e => by
    obtain ⟨h1, h3⟩ := hd_some e
    have ne := hid c u h3 h1
    rw [hd_ne (fun z => (sub c z).elim h1 ne), upd_ne ne]
    exact h3
  have own_ne : ∀ {i : Nat} {dv : DV} {c : Addr}, s.sl[i]? = some dv → isOwn dv = true → σ[i]? = some (some (V.ref c)) → c ≠ a := fun {i dv c} h1 h2 h3 e => by
    subst e
    rcases hc with hc | ⟨b0, hc⟩
    · obtain ⟨u, hu⟩ := R.own_at h1 h2 h3
      rw [hc] at hu
      cases hu
    · exact (R.ob c b0 hc).no i dv h1 h2 h3
  have kp : ∀ c u, ¬ Mu C.W c → (C.S0 c ∨ ∃ u0, C.H0 c = some u0) → H c = some u → c ≠ a := fun c u h1 h2 h3 e => by
    subst e
    rcases hc with hc | ⟨b0, hc⟩
    · rw [hc] at h3
      cases h3
    · rcases (R.ob c b0 hc).of_ with z | ⟨z1, z2⟩
      · exact h1 (.inl (.inr z))
      · rcases h2 with h2 | ⟨u0, h2⟩
        · exact z2 h2
        · rw [z1] at h2
          cases h2
  refine ⟨⟨R.len, fun i dv h => ?_, R.nd, R.fr, ?_, fun c u h1 h2 => ?_, fun c hc' => ?_, fun x y z => (R.gh x y z).of hs, fun c u h => ?_, fun c x h => ?_⟩, hs⟩
  · obtain ⟨sl, e1, e2⟩ := R.slots i dv h
    exact ⟨sl, e1, e2.move rfl rfl hs fun c ho ec u hu => by rw [upd_ne (own_ne h ho (ec ▸ e1))]; exact hu⟩
  · rcases hc with hc | ⟨b0, hc⟩
    · exact R.dk.same (same_upd hc)
    · exact R.dk.upd' (R.ob a b0 hc).nd (R.ob a b0 hc).nt
  · have h3 := R.but c u h1 h2
    rw [upd_ne (kp c u h1 (.inr ⟨u, h2⟩) h3)]
    exact h3
  · by_cases e : c = a
    · exact ⟨o, by rw [e]; exact upd_same⟩
    · rw [upd_ne e]
      exact R.tk c hc'
  · obtain ⟨f1, f2, f3⟩ := R.fz c u h
    exact ⟨f1, f2, by rw [upd_ne (kp c u f2 (.inl f1) f3)]; exact f3⟩
  · by_cases e : c = a
    · subst e
      have h : (s.n.put c b).ob c = some x := h
      rw [put_at] at h
      cases h
      have h1 := hb.of (W' := C.W) hs rfl (fun u hu => hu)
      rcases hc with hc | ⟨b0, hc⟩
      · obtain ⟨n1, n2⟩ := R.new hc
        exact ⟨h1, fun z => n1 (.inr (.inl (.inl (.inl z)))), fun z => n1 (.inr (.inl (.inr z))), .inr ⟨n2, fun z => n1 (.inl z)⟩, fun i dv z1 z2 z3 => own_ne z1 z2 z3 rfl⟩
      · have q := R.ob c b0 hc
        exact ⟨h1, q.nd, q.nt, q.of_, q.no⟩
    · have h : (s.n.put a b).ob c = some x := h
      rw [put_ne e] at h
      exact (R.ob c x h).move rfl rfl hs (fun u hu => by rw [upd_ne e]; exact hu) (fun x y => ⟨x, y⟩) (R.ob c x h).no
end
/-- what a def does that reads or changes objects: arguments, the state, what is wished of the result and of an exception -/
abbrev FO := List DV → GS → (OV → GS → Prop) → (Addr → Option (List (Str × PyData)) → GS → Prop) → Prop
structure StW (K : PySem.W.Frag) (W : Wo) (S0 : Addr → Prop) (H : Hp) (g : GS) : Prop where
  at_ : ∀ a o, g.ob a = some o → ObOk K W (Hd S0 H) H a o ∧ ¬ MuD W.dk a ∧ a ∉ tabs
  dom : ∀ a, W.ob a ↔ ∃ o, g.ob a = some o
/-- hidden behind the call: what was hidden, the objects there are now -/
def S1 (S0 : Addr → Prop) (g : GS) : Addr → Prop := fun b => S0 b ∨ ∃ o, g.ob b = some o
structure OutW (K : PySem.W.Frag) (W : Wo) (S0 : Addr → Prop) (H H' : Hp) (g : GS) : Prop where
  dk : DkOk W H' g.n
  but : ButW W H H'
  ob : ∀ a o, g.ob a = some o → ObOk K W (Hd (S1 S0 g) H') H' a o ∧ ¬ MuD W.dk a ∧ a ∉ tabs ∧ (W.ob a ∨ H a = none)
def spO (K : PySem.W.Frag) (m : Nat) (F : FO) : Sp := fun vs H Q E => vs.length = m ∧ ∃ (W : Wo) (S0 : Addr → Prop) (g : GS) (as : List DV) (P : OV → GS → Prop) (PX : Addr → Option (List (Str × PyData)) → GS → Prop), Taken H S0 ∧ DkOk W H g.n ∧ (∀ b, Mu W b → S0 b) ∧ StW K W S0 H g ∧ ArgsOk K W S0 H vs as ∧ F as g P PX ∧
  (∀ v H' x g', P x g' → OutW K W S0 H H' g' → OvOk K W (Hd (S1 S0 g') H') v x → Q v H') ∧
  (∀ Cx dd xs fs H' g', PX Cx (some fs) g' → H dd = none → ¬ Mu W dd → OutW K W (fun b => S0 b ∨ b = dd) (upd H dd (.xd xs)) H' g' → H' dd = some (.xd xs) → FsOk K (Hd (S1 (fun b => S0 b ∨ b = dd) g') H') xs fs → E (.ref Cx) (some dd) H') ∧
  ∀ Cx H' g', PX Cx none g' → OutW K W S0 H H' g' → E (.ref Cx) none H'
/-- the objects that there are now may be changed -/
@[reducible] def Wo.now (W : Wo) (g : GS) : Wo := ⟨W.dk, fun a => ∃ o, g.ob a = some o⟩
theorem ArgsOk.now {K : PySem.W.Frag} {W : Wo} {g : GS} {S : Addr → Prop} {H : Hp} {vs : List V} {as : List DV} (h : ArgsOk K W S H vs as) : ArgsOk K (W.now g) S H vs as := by
  induction h with
  | nil => exact .nil
  | @cons v vs a as h1 _ ih => exact .cons (by cases a <;> exact h1) ih
section
variable {C : DC} {σ : L2.St} {H : Hp} {s : DSt}
theorem Rl.stw (R : Rl C σ H s) : StW C.K (C.W.now s.n) (Sof C σ s) H s.n := ⟨fun a o h => ⟨(R.ob a o h).at_.of (Same.refl _) rfl fun _ u => u, (R.ob a o h).nd, (R.ob a o h).nt⟩, fun a => Iff.rfl⟩
theorem mu_now {b : Addr} (h : Mu (C.W.now s.n) b) : Sof C σ s b := h.elim (fun z => z.elim (fun z => .inr (.inl (.inl (.inl z)))) fun z => .inr (.inr (.inr z))) fun z => .inr (.inl (.inr z))
theorem Rl.dkn (R : Rl C σ H s) : DkOk (C.W.now s.n) H s.n.n := ⟨R.dk.dk, R.dk.tb, fun b ⟨o, h⟩ => R.ob_at h⟩
/-- the heap and the objects, behind a call -/
theorem Rl.out (R : Rl C σ H s) {H' : Hp} {g : GS} (O : OutW C.K (C.W.now s.n) (Sof C σ s) H H' g) : Rl C σ H' ⟨s.sl, g⟩ ∧ (∀ b, Sof C σ ⟨s.sl, g⟩ b → S1 (Sof C σ s) g b) := by
  have sub : ∀ b, Sof C σ ⟨s.sl, g⟩ b → S1 (Sof C σ s) g b := fun b h => by
    rcases h with h | h | h | h
    · exact .inl (.inl h)
    · exact .inl (.inr (.inl h))
    · exact .inl (.inr (.inr (.inl h)))
    · exact .inr h
  have hs : Same (Hd (Sof C σ s) H) (Hd (Sof C σ ⟨s.sl, g⟩) H') := fun b u e => by
    obtain ⟨h1, h3⟩ := hd_some e
    have nS : ¬ Sof C σ ⟨s.sl, g⟩ b := fun z => by
      rcases sub b z with z | ⟨o, z⟩
      · exact h1 z
      · rcases (O.ob b o z).2.2.2 with z | z
        · exact h1 (.inr (.inr (.inr z)))
        · rw [z] at h3
          cases h3
    rw [hd_ne nS]
    exact O.but b u (fun z => h1 (mu_now z)) h3
  have keep : ∀ a u, ¬ Mu C.W a → (C.S0 a ∨ ∃ u0, C.H0 a = some u0) → H a = some u → H' a = some u := fun a u h1 h2 h3 => O.but a u (fun z => by
    rcases z with (z | ⟨o, z⟩) | z
    · exact h1 (.inl (.inl z))
    · rcases (R.ob a o z).of_ with y | ⟨y1, y2⟩
      · exact h1 (.inl (.inr y))
      · rcases h2 with h2 | ⟨u0, h2⟩
        · exact y2 h2
        · rw [y1] at h2
          cases h2
    · exact h1 (.inr z)) h3
  refine ⟨⟨R.len, fun i dv h => ?_, R.nd, R.fr, ⟨O.dk.dk, O.dk.tb, fun c hc => ?_⟩, fun b u h1 h2 => keep b u h1 (.inr ⟨u, h2⟩) (R.but b u h1 h2), fun c hc => ?_, fun v x h => (R.gh v x h).of hs, fun a o h => ⟨(R.fz a o h).1, (R.fz a o h).2.1, keep a o (R.fz a o h).2.1 (.inl (R.fz a o h).1) (R.fz a o h).2.2⟩, fun a o h => ?_⟩, sub⟩
  · obtain ⟨sl, h1, h2⟩ := R.slots i dv h
    refine ⟨sl, h1, h2.move rfl rfl hs fun a ho e u hu => O.but a u (fun z => ?_) hu⟩
    have f := (R.fr i a dv h ho (e ▸ h1)).2.2
    rcases z with (z | ⟨o, z⟩) | z
    · exact f (.inl (.inl z))
    · exact (R.ob a o z).no i dv h ho (e ▸ h1)
    · exact f (.inr z)
  · by_cases z : Mu (C.W.now s.n) c
    · exact O.dk.taken z
    · obtain ⟨o, h⟩ := R.dk.mo c hc
      exact ⟨o, O.but c o z h⟩
  · by_cases z : Mu (C.W.now s.n) c
    · exact O.dk.taken z
    · obtain ⟨o, h⟩ := R.tk c hc
      exact ⟨o, O.but c o z h⟩
  · obtain ⟨h1, h2, h3, h4⟩ := O.ob a o h
    refine ⟨h1.of (hd_mono sub) rfl fun _ u => u, h2, h3, ?_, fun i dv z1 z2 z3 => ?_⟩
    · rcases h4 with ⟨o', h4⟩ | h4
      · exact (R.ob a o' h4).of_
      · obtain ⟨n1, n2⟩ := R.new h4
        exact .inr ⟨n2, fun z => n1 (.inl z)⟩
    · rcases h4 with ⟨o', h4⟩ | h4
      · exact (R.ob a o' h4).no i dv z1 z2 z3
      · obtain ⟨u, hu⟩ := R.own_at z1 z2 z3
        rw [h4] at hu
        cases hu
end
theorem rl_startO {K : PySem.W.Frag} {W : Wo} {S0 : Addr → Prop} {H : Hp} {g : GS} {vs : List V} {as : List DV} (m : Nat) (T : Taken H S0) (dk : DkOk W H g.n) (hm : ∀ b, Mu W b → S0 b) (st : StW K W S0 H g) (ha : ArgsOk K W S0 H vs as) :
    Rl (DC.base ⟨K, W, S0, H, fun _ _ => False, fun _ _ => False⟩) (vs.map some ++ List.replicate m none) H ⟨as ++ List.replicate m .un, g⟩ := by
  have R := rl_start (n := g.n) m T dk hm ha
  have no : ∀ (i : Nat) (dv : DV), (as ++ List.replicate m .un)[i]? = some dv → isOwn dv = true → False := fun i dv h ho => by
    obtain ⟨sl, h1, h2⟩ := R.slots i dv h
    cases dv <;> first | (cases ho; done) | skip
    all_goals
      rcases Nat.lt_or_ge i as.length with hl | hl
      · rw [List.getElem?_append_left hl] at h
        have : ∀ {vs : List V} {as : List DV}, ArgsOk K W S0 H vs as → ∀ (i : Nat) (dv : DV), as[i]? = some dv → isOwn dv = true → False := by
          intro vs as ha
          induction ha with
          | nil =>
            intro i dv h ho
            cases h
          | @cons v vs a as h1 h2 ih =>
            intro i dv h ho
            cases i with
            | zero =>
              simp at h
              subst h
              cases a <;> first | exact h1.elim | cases ho
            | succ i => exact ih i dv (by simpa using h) ho
        exact this ha i _ h rfl
      · rw [List.getElem?_append_right hl] at h
        have := List.eq_of_mem_replicate (List.mem_of_getElem? h)
        cases this
  have sof : ∀ b, Sof (DC.base ⟨K, W, S0, H, fun _ _ => False, fun _ _ => False⟩) (vs.map some ++ List.replicate m none) ⟨as ++ List.replicate m .un, g⟩ b → S0 b := fun b h => by
    rcases h with h | h | ⟨i, dv, h1, h2, h3⟩ | ⟨o, h⟩
    · exact h
    · exact hm b h
    · exact (no i dv h1 h2).elim
    · exact hm b (.inl (.inr ((st.dom b).mpr ⟨o, h⟩)))
  have hs := hd_mono (H := H) sof
  have hs2 : Same (Hd (Sof (DC.base ⟨K, W, S0, H, fun _ _ => False, fun _ _ => False⟩) (vs.map some ++ List.replicate m none) ⟨as ++ List.replicate m .un, g0 g.n⟩) H) (Hd (Sof (DC.base ⟨K, W, S0, H, fun _ _ => False, fun _ _ => False⟩) (vs.map some ++ List.replicate m none) ⟨as ++ List.replicate m .un, g⟩) H) := hd_mono fun b h => .inl (sof b h)
  refine ⟨R.len, fun i dv h => ?_, R.nd, R.fr, R.dk, R.but, R.tk, fun _ _ h => h.elim, fun _ _ h => h.elim, fun a o h => ?_⟩
  · obtain ⟨sl, h1, h2⟩ := R.slots i dv h
    exact ⟨sl, h1, h2.move rfl rfl hs2 fun _ _ _ _ u => u⟩
  · obtain ⟨h1, h2, h3⟩ := st.at_ a o h
    exact ⟨h1.of hs rfl fun _ u => u, h2, h3, .inl ((st.dom a).mpr ⟨o, h⟩), fun i dv z1 z2 _ => no i dv z1 z2⟩
def bodyO (d : PXt → DS) (m : Nat) : FO := fun as g P PX => d (fun Cx fs s => PX Cx fs s.n) { nx := fun s => P (.d .none) s.n, rt := fun v s => P (.d v) s.n, ro := fun a s => P (.o a) s.n } ⟨as ++ List.replicate m .un, g⟩
theorem outw_of {K : PySem.W.Frag} {W : Wo} {S0 : Addr → Prop} {H H' : Hp} {cex : (Addr → Prop) → Addr → Prop} {csub : ∀ (p : Addr → Prop) (b : Addr), p b → cex p b} {cG : V → PyData → Prop} {cZ : Addr → HO → Prop} {cg : ∀ v d, (fun _ _ => False : V → PyData → Prop) v d → cG v d} {cz : ∀ a o, (fun _ _ => False : Addr → HO → Prop) a o → cZ a o} {σ : L2.St} {s : DSt}
    (R : Rl ⟨⟨K, W, S0, H, fun _ _ => False, fun _ _ => False⟩, cex, csub, cG, cZ, cg, cz⟩ σ H' s) : OutW K W S0 H H' s.n := ⟨R.dk, R.but, fun a o h => ⟨(R.ob a o h).at_.of (hd_mono fun b hb => by
    rcases hb with hb | hb
    · exact .inl (csub _ _ hb)
    · exact .inr (.inr (.inr hb))) rfl fun _ u => u, (R.ob a o h).nd, (R.ob a o h).nt, (R.ob a o h).of_.elim .inl fun z => .inr z.1⟩⟩
theorem body_okO {K : PySem.W.Frag} {E : XK} {d : PXt → DS} {N : List Str} {k : Nat} {vs : List V} {H : Hp} {Q : VK} {X : TS → Prop} (h : ∀ W B H0 G0 Z0 PX, XOk ⟨K, W, B, H0, G0, Z0⟩ (fun cls d _ H => E cls d H) PX → ∃ t, X t ∧ RS ⟨K, W, B, H0, G0, Z0⟩ t (d PX))
    (hsp : spO K k (bodyO d (N.length - k)) vs H Q E) : ∃ t, X t ∧ t { nx := fun _ H' => Q .non H', rt := Q } (L2.start N vs) H := by
  obtain ⟨hl, W, S0, g, as, P, PX, T, dk, hm, st, ha, hF, q, qd, qn⟩ := hsp
  obtain ⟨t, hX, h⟩ := h W S0 H (fun _ _ => False) (fun _ _ => False) (fun Cx fs s => PX Cx fs s.n) (⟨fun C hC σ H' s Cx hp R => by
    obtain ⟨CK, cex, csub, cG, cZ, cg, cz⟩ := C
    dsimp only at hC
    subst hC
    exact qn Cx H' s.n hp (outw_of R), fun C hC σ H' s Cx dd xs fs hp R h1 h2 h3 h4 h5 => by
    obtain ⟨CK, cex, csub, cG, cZ, cg, cz⟩ := C
    dsimp only at hC
    subst hC
    have hmono : ∀ b, S1 (fun b => S0 b ∨ b = dd) s.n b → Sof (DC.hide ⟨⟨K, W, S0, H, fun _ _ => False, fun _ _ => False⟩, cex, csub, cG, cZ, cg, cz⟩ dd) σ s b := fun b hb => by
      rcases hb with (hb | hb) | hb
      · exact .inl (.inl (csub _ _ hb))
      · exact .inl (.inr hb)
      · exact .inr (.inr (.inr hb))
    refine qd Cx dd xs fs H' s.n hp h1 h3 ⟨R.dk, fun b o hb e => ?_, fun a o ha => ?_⟩ h4 (h5.of (hd_mono hmono))
    · by_cases z : b = dd
      · rw [z, upd_same] at e
        rw [z, h4]
        exact e
      · rw [upd_ne z] at e
        exact R.but b o hb e
    · refine ⟨(R.ob a o ha).at_.of (hd_mono hmono) rfl fun _ u => u, (R.ob a o ha).nd, (R.ob a o ha).nt, (R.ob a o ha).of_.elim .inl fun z => .inr ?_⟩
      rw [upd_ne (fun e => z.2 (.inr e))]
      exact z.1⟩)
  refine ⟨t, hX, ?_⟩
  unfold L2.start
  rw [hl]
  refine h (DC.base ⟨K, W, S0, H, fun _ _ => False, fun _ _ => False⟩) rfl _ _ hF _ H _ (rl_startO _ T dk hm st ha) ⟨fun σ H' s hp R => ?_, fun σ v H' d s hp R hv => ?_, fun _ _ _ h => h.elim, fun _ _ _ h => h.elim, fun σ H' a s hp R => ?_⟩
  · exact q _ H' _ _ hp (outw_of R) .non
  · exact q v H' (.d d) s.n hp (outw_of R) (hv.of (hd_mono fun b hb => hb.elim .inl fun z => .inr (.inr (.inr z))))
  · exact q _ H' (.o a) s.n hp (outw_of R) rfl
section
variable {P : Program} {w : World} {K : PySem.W.Frag} {mg : Str → Option Value} {base : Heap} {k : Nat} {f : Addr} {fd : FuncData} {ps : List Str}
/-- a def that may raise -/
theorem okdOX {x qual : Str} {st : Stmt} {N : List Str} {d : PXt → DS} {m : Nat} (hm : ps.length = m) (F : L2.Fun K x qual st f fd) (S : FnScope N ps (defScope st))
    (body : ∀ (cdv : Value) (A : Around) (outer : List Env) (s : Shared) (H : Hp) (E : XK), Rm k (A.deeper (envOfC qual (defScope st) s.heap.objs.size f cdv)) → ∀ W B H0 G0 Z0 PX, XOk ⟨K, W, B, H0, G0, Z0⟩ (fun cls d _ H => E cls d H) PX →
      ∃ t, PSs (cxOf (L2.CX P w) P w K mg base N qual (defScope st) f cdv A outer s H E) (defBody st) t ∧ RS ⟨K, W, B, H0, G0, Z0⟩ t (d PX)) :
    Fgx P w K mg base (k + 1) f fd ps (spO K m (bodyO d (N.length - m))) :=
  okgx F S (fun vs H Q E h => by rw [h.1]; exact hm.symm) fun cdv A outer s H vs Q E hr h => body_okO (body cdv A outer s H E hr) h
end
variable {K : KX}
abbrev DO' := DSt → (OV → DSt → Prop) → Prop
def XV (C : DC) (te : TE) (s : DSt) (P : OV → DSt → Prop) : Prop := ∀ (σ : L2.St) (H : Hp) (Q : VK), Rl C σ H s → (∀ v H' x s', P x s' → Rl C σ H' s' → OvOk C.K C.W (Hd (Sof C σ s') H') v x → Q v H') → te σ H Q
def RV (K : KX) (te : TE) (d : DO') : Prop := ∀ C : DC, C.K = K → ∀ s P, d s P → XV C te s P
def vD (de : DE) : DO' := fun s P => de s fun d s1 => P (.d d) s1
theorem rv_d {te : TE} {de : DE} (h : RE K te de) : RV K te (vD de) := fun C hC s P hd σ H Q R q => h C hC s _ hd σ H _ R fun v H1 d s1 hp R1 hv => q v H1 (.d d) s1 hp R1 hv
/-- what is in slot i -/
def vVar (i : Nat) : DO' := fun s P => match s.sl[i]? with
  | some (.dat d) => P (.d d) s
  | some (.obj a) => P (.o a) s
  | some .deck => P .dk s
  | _ => False
theorem rv_var {i : Nat} : RV K (tVar i) (vVar i) := fun C hC s P hd σ H Q R q => by
  unfold vVar at hd
  split at hd
  · rename_i d e
    obtain ⟨sl, h1, v, rfl, h2⟩ := R.slots i _ e
    exact rd_var h1 (q v H (.d d) s hd R h2)
  · rename_i a e
    obtain ⟨sl, h1, h2⟩ := R.slots i _ e
    have h2 : sl = some (.ref a) := h2
    subst h2
    exact rd_var h1 (q _ H (.o a) s hd R rfl)
  · rename_i e
    obtain ⟨sl, h1, p, l, hW, rfl⟩ := R.slots i _ e
    exact rd_var h1 (q _ H .dk s hd R ⟨p, l, hW, rfl⟩)
  · exact hd.elim
/-- it is data -/
def dOfV (dv : DO') : DE := fun s P => dv s fun x s1 => match x with
  | .d d => P d s1
  | _ => False
theorem re_ofV {te : TE} {dv : DO'} (h : RV K te dv) : RE K te (dOfV dv) := fun C hC s P hd σ H Q R q => h C hC s _ hd σ H _ R fun v H1 x s1 hp R1 hv => by
  cases x with
  | d d => exact q v H1 d s1 hp R1 hv
  | _ => exact hp.elim
/-- such a thing is kept while others are made -/
def vG (v : V) (x : OV) : V → PyData → Prop := fun u d => u = v ∧ x = .d d
theorem Rl.keepV {C : DC} {σ : L2.St} {H : Hp} {s : DSt} (R : Rl C σ H s) {v : V} {x : OV} (h : OvOk C.K C.W (Hd (Sof C σ s) H) v x) : Rl (C.more (vG v x)) σ H s := R.more fun u d ⟨e1, e2⟩ => by
  subst e1
  subst e2
  exact h
theorem Rl.keptV {C : DC} {σ σ0 : L2.St} {H H0 : Hp} {s s0 : DSt} {v : V} {x : OV} (h0 : OvOk C.K C.W (Hd (Sof C σ0 s0) H0) v x) (R : Rl (C.more (vG v x)) σ H s) : Rl C σ H s ∧ OvOk C.K C.W (Hd (Sof C σ s) H) v x := ⟨R.less, by
  cases x with
  | d d => exact R.gh v d (.inr ⟨rfl, rfl⟩)
  | o a => exact h0
  | dk => exact h0⟩
def xV (dv : DO') (da : DX) : DX := fun s P => dv s fun x s1 => da s1 fun as s2 => P (x.dv :: as) s2
theorem arg_ov {K : PySem.W.Frag} {W : Wo} {S : Addr → Prop} {H : Hp} {v : V} {x : OV} (h : OvOk K W (Hd S H) v x) : ArgOk K W S H v x.dv := by
  cases x <;> exact h
theorem rx_V {te : TE} {ta : TA} {dv : DO'} {da : DX} (h1 : RV K te dv) (h2 : RX K ta da) : RX K (tCons te ta) (xV dv da) := fun C hC s P hd σ H Q R q =>
  rd_cons (h1 C hC s _ hd σ H _ R fun v H1 x s1 hd1 R1 hv => h2 (C.more (vG v x)) hC s1 _ hd1 σ H1 _ (R1.keepV hv) fun vs H2 as s2 hp R2 hvs => by
    obtain ⟨R3, hv3⟩ := R2.keptV hv
    exact q (v :: vs) H2 (x.dv :: as) s2 hp R3 (.cons (arg_ov hv3) hvs))
theorem x_callO {W : WX} {PX : PXt} {C : DC} (xo : XOk C.K W PX) {σ : L2.St} {H1 : Hp} {s1 : DSt} (R1 : Rl C σ H1 s1) {F : FO} {as : List DV} {vs : List V} {m : Nat} {P : OV → DSt → Prop} {Q : VK} (hl : vs.length = m) (hv : ArgsOk C.K C.W (Sof C σ s1) H1 vs as)
    (hF : F as s1.n (fun x g => P x ⟨s1.sl, g⟩) fun Cx fs g => PX Cx fs ⟨s1.sl, g⟩) (q : ∀ v H' x s', P x s' → Rl C σ H' s' → OvOk C.K C.W (Hd (Sof C σ s') H') v x → Q v H') : spO C.K m F vs H1 Q (fun cls d H' => W cls d σ H') := by
  refine ⟨hl, C.W.now s1.n, Sof C σ s1, s1.n, as, _, _, R1.taken, R1.dkn, fun b hb => mu_now hb, R1.stw, hv.now, hF, fun v H' x g hP O hx => ?_, fun Cx dd xs fs H' g hP hn hM O hx hfs => ?_, fun Cx H' g hP O => xo.n C rfl σ H' ⟨s1.sl, g⟩ Cx hP (R1.out O).1⟩
  · obtain ⟨R2, sub⟩ := R1.out O
    exact q v H' x ⟨s1.sl, g⟩ hP R2 (hx.of (hd_mono sub) rfl)
  · obtain ⟨n1, n2⟩ := R1.new hn
    have R2 := R1.hidden (o := .xd xs) hn
    obtain ⟨R3, sub⟩ := R2.out (H' := H') (g := g) ⟨O.dk, O.but, fun a o ha => by
      obtain ⟨k1, k2, k3, k4⟩ := O.ob a o ha
      exact ⟨k1.of (hd_mono fun b hb => hb.elim (fun z => .inl (sof_hide.mp z)) .inr) rfl fun _ u => u, k2, k3, k4⟩⟩
    refine xo.d C rfl σ H' ⟨s1.sl, g⟩ Cx dd xs fs hP R3 n2 (fun z => n1 (.inl z)) (fun z => n1 (.inr (.inl z))) hx (hfs.of (hd_mono fun b hb => ?_))
    rcases sub b hb with z | z
    · exact .inl (sof_hide.mp z)
    · exact .inr z
/-- x = such a thing -/
def dSetV (dv : DO') (i : Nat) : DS := fun E s => dv s fun x s1 => i < s1.sl.length ∧ E.nx ⟨s1.sl.set i x.dv, s1.n⟩
theorem slot_ov {C : DC} {S : Addr → Prop} {H : Hp} {v : V} {x : OV} (h : OvOk C.K C.W (Hd S H) v x) : SlotOk C S H (some v) x.dv := by
  cases x with
  | d d => exact ⟨v, rfl, h⟩
  | o a => exact congrArg some h
  | dk =>
    obtain ⟨p, l, h1, h2⟩ := h
    exact ⟨p, l, h1, congrArg some h2⟩
theorem own_ov (x : OV) : isOwn x.dv = false := by cases x <;> rfl
theorem rs_setV {te : TE} {i : Nat} {dv : DO'} (h : RV K te dv) : RS K (tAsg te (gName i)) (dSetV dv i) := fun C hC E s hd σ H D R o =>
  h C hC s _ hd σ H _ R fun v H1 x s1 hp R1 hv => o.nx _ H1 _ hp.2 (R1.put i (some v) x.dv (own_ov x) (slot_ov hv))
/-- a, b = x, y -/
def dParV (i j : Nat) (d1 d2 : DO') : DS := fun E s => d1 s fun x s1 => d2 s1 fun y s2 => i ≠ j ∧ i < s2.sl.length ∧ j < s2.sl.length ∧ E.nx ⟨(s2.sl.set i x.dv).set j y.dv, s2.n⟩
theorem rs_parV {i j : Nat} {t1 t2 : TE} {d1 d2 : DO'} (h1 : RV K t1 d1) (h2 : RV K t2 d2) : RS K (tPar i j (tCons t1 (tCons t2 tNil))) (dParV i j d1 d2) := fun C hC E s hd σ H D R o =>
  rd_cons (h1 C hC s _ hd σ H _ R fun v H1 x s1 hd1 R1 hv => rd_cons (h2 (C.more (vG v x)) hC s1 _ hd1 σ H1 _ (R1.keepV hv) fun u H2 y s2 hp R2 hu => rd_nil (by
    have R3 := (R2.keepV (v := u) (x := y) hu).put i (some v) x.dv (own_ov x) (slot_ov (C := (C.more (vG v x)).more (vG u y)) ((R2.keptV hv).2))
    obtain ⟨R4, hu4⟩ := R3.keptV hu
    have R5 := R4.less.put j (some u) y.dv (own_ov y) (slot_ov (C := C) hu4)
    exact ⟨v, u, rfl, o.nx _ H2 _ hp.2.2.2 R5⟩)))
end DL

set_option Elab.async false
set_option linter.all false
set_option maxRecDepth 100000
set_option maxHeartbeats 4000000
namespace DL
open PySem PySem.Spec PyProof.Rows L2 GG DD PT
def ogetK (kvs : List (L2.Key × OV)) (k : L2.Key) : Option OV := (kvs.find? fun kv => decide (kv.1 = k)).map (·.2)
def oputK (kvs : List (L2.Key × OV)) (k : L2.Key) (v : OV) : List (L2.Key × OV) :=
  if (ogetK kvs k).isSome = true then kvs.map (fun kv => if kv.1 = k then (kv.1, v) else kv) else kvs ++ [(k, v)]
def omergeK (kvs more : List (L2.Key × OV)) : List (L2.Key × OV) := more.foldl (fun acc kv => oputK acc kv.1 kv.2) kvs
theorem ogetK_pos {p : L2.Key × OV} {r : List (L2.Key × OV)} {k : L2.Key} (e : p.1 = k) : ogetK (p :: r) k = some p.2 := by simp [ogetK, List.find?_cons, e]
theorem ogetK_neg {p : L2.Key × OV} {r : List (L2.Key × OV)} {k : L2.Key} (e : ¬ p.1 = k) : ogetK (p :: r) k = ogetK r k := by simp [ogetK, List.find?_cons, e]
section
variable {K : PySem.W.Frag} {W : Wo} {Hh : Hp}
theorem OvKv.get (k : L2.Key) : ∀ {es : List (L2.Key × V)} {kvs : List (L2.Key × OV)}, OvKv K W Hh es kvs → (valV es k = none ∧ ogetK kvs k = none) ∨ ∃ v x, valV es k = some v ∧ ogetK kvs k = some x ∧ OvOk K W Hh v x
  | _, _, .nil => .inl ⟨rfl, rfl⟩
  | _, _, .cons (k := k') (v := v) (x := x) h t => by
    by_cases e : k' = k
    · exact .inr ⟨v, x, valV_pos (p := (k', v)) e, ogetK_pos (p := (k', x)) e, h⟩
    · rw [valV_neg (p := (k', v)) e, ogetK_neg (p := (k', x)) e]
      exact t.get k
theorem OvKv.put_map {k : L2.Key} {v : V} {x : OV} (hv : OvOk K W Hh v x) : ∀ {es : List (L2.Key × V)} {kvs : List (L2.Key × OV)}, OvKv K W Hh es kvs → OvKv K W Hh (es.map fun kv => if kv.1 = k then (kv.1, v) else kv) (kvs.map fun kv => if kv.1 = k then (kv.1, x) else kv)
  | _, _, .nil => .nil
  | _, _, .cons (k := k') h t => by
    rw [List.map_cons, List.map_cons]
    by_cases e : k' = k
    · rw [if_pos e, if_pos e]
      exact .cons hv (OvKv.put_map hv t)
    · rw [if_neg e, if_neg e]
      exact .cons h (OvKv.put_map hv t)
theorem OvKv.append {κ : Type} : ∀ {es fs : List (κ × V)} {kvs lws : List (κ × OV)}, OvKv K W Hh es kvs → OvKv K W Hh fs lws → OvKv K W Hh (es ++ fs) (kvs ++ lws)
  | _, _, _, _, .nil, h => h
  | _, _, _, _, .cons h t, q => .cons h (t.append q)
theorem OvKv.put {k : L2.Key} {v : V} {x : OV} {es : List (L2.Key × V)} {kvs : List (L2.Key × OV)} (h : OvKv K W Hh es kvs) (hv : OvOk K W Hh v x) : OvKv K W Hh (putK es k v) (oputK kvs k x) := by
  unfold putK oputK
  rw [valV_any]
  rcases h.get k with ⟨e1, e2⟩ | ⟨v', x', e1, e2, _⟩
  · rw [e1, e2, if_neg (by decide), if_neg (by decide)]
    exact h.append (.cons hv .nil)
  · rw [e1, e2, if_pos (show (some v').isSome = true from rfl), if_pos (show (some x').isSome = true from rfl)]
    exact OvKv.put_map hv h
theorem OvKv.merge : ∀ {more : List (L2.Key × V)} {mored : List (L2.Key × OV)} {es : List (L2.Key × V)} {kvs : List (L2.Key × OV)}, OvKv K W Hh more mored → OvKv K W Hh es kvs → OvKv K W Hh (mergeK es more) (omergeK kvs mored)
  | _, _, _, _, .nil, h => h
  | _, _, _, _, .cons (k := k) (v := v) (x := x) q t, h => by
    show OvKv K W Hh (mergeK (putK _ k v) _) (omergeK (oputK _ k x) _)
    exact t.merge (h.put q)
theorem OvKv.len {κ : Type} : ∀ {es : List (κ × V)} {kvs : List (κ × OV)}, OvKv K W Hh es kvs → es.length = kvs.length
  | _, _, .nil => rfl
  | _, _, .cons _ t => by rw [List.length_cons, List.length_cons, t.len]
theorem OvAll.len : ∀ {es : List V} {kvs : List OV}, OvAll K W Hh es kvs → es.length = kvs.length
  | _, _, .nil => rfl
  | _, _, .cons _ t => by rw [List.length_cons, List.length_cons, t.len]
end
variable {K : KX}
abbrev DPs := DSt → (List (L2.Key × OV) → DSt → Prop) → Prop
def vDGet (dd : DO') (dk : DE) : DO' := fun s P => dd s fun x s1 => match x with
  | .o a => dk s1 fun kd s2 => match s2.n.ob a, kOf kd with
    | some (.dic kvs), some k => ∃ y, ogetK kvs k = some y ∧ P y s2
    | _, _ => False
  | _ => False
theorem rv_dGet {td ty : TE} {dd : DO'} {dk : DE} (h1 : RV K td dd) (h2 : RE K ty dk) : RV K (tDGet td ty) (vDGet dd dk) := fun C hC s P hd σ H Q R q =>
  h1 C hC s _ hd σ H _ R fun v H1 x s1 hp R1 hv => by
    cases x with
    | o a =>
      have hv : v = .ref a := hv
      subst hv
      refine h2 C hC s1 _ hp σ H1 _ R1 fun u H2 kd s2 hp R2 hu => ?_
      cases e : s2.n.ob a with
      | none => rw [e] at hp; exact hp.elim
      | some o =>
        cases e2 : kOf kd with
        | none =>
          rw [e, e2] at hp
          cases o <;> exact hp.elim
        | some k =>
          rw [e, e2] at hp
          cases o with
          | dic kvs =>
            obtain ⟨y, hy, hp⟩ := hp
            obtain ⟨es, g1, g2⟩ := (R2.ob a _ e).at_
            have ev := key_v hu e2
            subst ev
            rcases g2.get k with ⟨_, z2⟩ | ⟨w, y', z1, z2, z3⟩
            · rw [z2] at hy
              cases hy
            · rw [z2] at hy
              cases hy
              have gg := DGet.k (k := k) g1
              rw [z1] at gg
              exact ⟨a, w, rfl, gg, q w H2 _ s2 hp R2 z3⟩
          | _ => exact hp.elim
    | _ => exact hp.elim
end DL

set_option Elab.async false
set_option linter.all false
set_option maxRecDepth 100000
set_option maxHeartbeats 4000000
namespace EMT
open PySem PySem.Spec PyProof.Rows L2
variable {X : Cx}
end EMT
namespace DL
open PySem PySem.Spec PyProof.Rows L2 GG DD PT
variable {K : KX}
/-- d[k], d any dict with flat keys -/
def dDIxE (de dk : DE) : DE := fun s P => de s fun d s1 => isFlatD d ∧ dk s1 fun kd s2 => match d, kOf kd with
  | .dict kvs, some k => ∃ x, dgetD kvs k = some x ∧ P x s2
  | _, _ => False
theorem re_dIxE {te ty : TE} {de dk : DE} (h : RE K te de) (h2 : RE K ty dk) : RE K (tDGet te ty) (dDIxE de dk) := fun C hC s P hd σ H Q R q =>
  h C hC s _ hd σ H _ R fun v H1 d s1 hp R1 hv => by
    obtain ⟨hf, hp⟩ := hp
    cases d with
    | dict kvs =>
      obtain ⟨a, es, rfl, ha, _⟩ := flat_dic hv hf
      refine h2 (C.keep (.ref a) (.dict kvs)) hC s1 _ hp σ H1 _ (R1.keep hv) fun w H2 kd s2 hp R2 hw => ?_
      obtain ⟨R5, hv5⟩ := R2.kept
      cases e : kOf kd with
      | none =>
        simp only [e] at hp
      | some k =>
        simp only [e] at hp
        have ev := key_v hw e
        subst ev
        obtain ⟨a', es', ea, ha', hkv⟩ := flat_dic hv5 hf
        cases ea
        obtain ⟨x, hx, hp⟩ := hp
        have g := DGet.k (k := k) (hd_some ha').2
        rcases get_da k hkv with ⟨e1, e2⟩ | ⟨u, d', e1, e2, hu⟩
        · rw [e2] at hx
          cases hx
        · rw [e2] at hx
          cases hx
          rw [e1] at g
          exact ⟨_, u, rfl, g, q _ H2 _ s2 hp R5 hu⟩
    | _ => exact hf.elim
section
variable {P : Program} {w : World} {K : PySem.W.Frag} {mg : Str → Option Value} {base : Heap} {f : Addr} {fd : FuncData} {ps : List Str}
end
end DL

set_option Elab.async false
set_option linter.all false
set_option maxRecDepth 100000
set_option maxHeartbeats 4000000
namespace DL
open PySem PySem.Spec PyProof.Rows L2 GG DD PT
variable {K : KX}
end DL

set_option Elab.async false
set_option linter.all false
set_option maxRecDepth 100000
set_option maxHeartbeats 2000000
namespace LIP
open PySem PySem.Spec PyProof.Rows L2 LiI
def obAt (h : Heap) (a : Addr) : Obj := (h.get? a).getD { cls := .none, data := .fields #[] }
/-- the tuples tracked at their addresses -/
def putF (h : Heap) : Hp → List Addr → List (Key × V) → Hp
  | H, a :: as, p :: kvs => putF h (upd H a (.frz (obAt h a) (.tup [kV p.1, p.2]))) as kvs
  | H, _, _ => H
section
variable {X : Cx} {e : Expr} {te : TE} {p apos cpos pos : Pos}
end
end LIP
namespace DL
open PySem PySem.Spec PyProof.Rows L2 GG DD PT LIP
variable {K : KX}
end DL

set_option Elab.async false
set_option linter.all false
set_option maxRecDepth 100000
set_option maxHeartbeats 4000000
namespace DL
open PySem PySem.Spec PyProof.Rows L2 GG DD PT
def datsOf (f : Value → Option PyData) : List Value → Option (List PyData)
  | [] => some []
  | u :: us => match f u, datsOf f us with
    | some d, some ds => some (d :: ds)
    | _, _ => none
/-- a written value as data -/
def datIn (K : PySem.W.Frag) : Nat → Value → Option PyData
  | 0, _ => none
  | n + 1, u => match u with
    | .none => some .none
    | .bool b => some (.bool b)
    | .int i _ => some (.int i)
    | .str x _ => some (.str x)
    | .ref a => (match K.lookup a with
      | some ⟨.type c, none, .seq its _, _⟩ => (match decide (c = "tuple") && Nat.ble its.size 1000 with
        | true => (datsOf (datIn K n) its.toList).map .tuple
        | false => none)
      | _ => none)
    | _ => none
theorem datsOf_ok {K : PySem.W.Frag} {f : Value → Option PyData} (hf : ∀ u d, f u = some d → ∃ v, RelV v u ∧ ∀ H, Da K H v d) : ∀ (us : List Value) (ds : List PyData), datsOf f us = some ds → ∃ vs, Vals vs us ∧ ∀ H, DaAll K H vs ds
  | [], ds, h => by
    rw [datsOf] at h
    cases h
    exact ⟨[], .nil, fun H => .nil⟩
  | u :: us, ds, h => by
    rw [datsOf] at h
    cases e1 : f u with
    | none =>
      rw [e1] at h
      cases h
    | some d =>
      cases e2 : datsOf f us with
      | none =>
        rw [e1, e2] at h
        cases h
      | some r =>
        rw [e1, e2] at h
        cases h
        obtain ⟨v, h1, h2⟩ := hf u d e1
        obtain ⟨vs, h3, h4⟩ := datsOf_ok hf us r e2
        exact ⟨v :: vs, .cons h1 h3, fun H => .cons (h2 H) (h4 H)⟩
theorem datIn_ok {K : PySem.W.Frag} : ∀ (n : Nat) (u : Value) (d : PyData), datIn K n u = some d → ∃ v, RelV v u ∧ ∀ H, Da K H v d
  | 0, _, _, h => by
    rw [datIn] at h
    cases h
  | n + 1, u, d, h => by
    cases u with
    | none =>
      simp only [datIn] at h
      cases h
      exact ⟨.non, rfl, fun H => .non⟩
    | bool b =>
      simp only [datIn] at h
      cases h
      exact ⟨.bl b, rfl, fun H => .bl b⟩
    | int i t =>
      simp only [datIn] at h
      cases h
      exact ⟨.int i, ⟨t, rfl⟩, fun H => .int i⟩
    | str x t =>
      simp only [datIn] at h
      cases h
      exact ⟨.str x, ⟨t, rfl⟩, fun H => .str x⟩
    | ref a =>
      simp only [datIn] at h
      split at h
      · rename_i c its m sl e
        cases z : decide (c = "tuple") && Nat.ble its.size 1000 with
        | false =>
          rw [z] at h
          cases h
        | true =>
          rw [z] at h
          have h2 : (datsOf (datIn K n) its.toList).map .tuple = some d := h
          rw [Bool.and_eq_true] at z
          obtain ⟨z1, z2⟩ := z
          have c1 : c = "tuple" := of_decide_eq_true z1
          rw [c1] at e
          rw [Option.map_eq_some_iff] at h2
          obtain ⟨ds, h1, rfl⟩ := h2
          obtain ⟨vs, h2, h3⟩ := datsOf_ok (datIn_ok n) its.toList ds h1
          exact ⟨.ref a, rfl, fun H => .tup (.inr ⟨_, its, m, e, rfl, rfl, rfl, szi (Nat.le_of_ble_eq_true z2), h2⟩) (h3 H)⟩
      · cases h
    | _ =>
      simp only [datIn] at h
      cases h
section
variable {X : Cx} {o e : Expr} {apos cpos : Pos} {ty : TE} {a : Addr} {L : List (Str × PyData)}
end
variable {K : KX}
/-- a written tuple of the module -/
theorem re_kd {a : Addr} {d : PyData} (h : ∀ H, Da K.fr H (.ref a) d) : RE K (tC (.ref a)) (dC d) := fun C hC s P hp σ H Q R q => q _ H _ s hp R (hC ▸ h _)
end DL

set_option Elab.async false
set_option linter.all false
set_option maxRecDepth 100000
set_option maxHeartbeats 4000000
namespace SW
open PySem PySem.Spec PyProof.Rows PySem.W L2
def intD : Value → PyData
  | .int x _ => .int x
  | _ => .none
def intV : Value → Int
  | .int x _ => x
  | _ => 0
theorem is_int {Pg : Program} {wd : World} {z : Int} {v : Value} (h : (intKind Pg wd).is z v = true) : ∃ t, v = .int z t := by
  cases v with
  | int x t =>
    have e : z = x := (PySem.intKind Pg wd).inj (.int x t) z x h (intKind_is _ _ _ _)
    exact ⟨t, by rw [e]⟩
  | _ => cases h
/-- a set of these texts at a -/
def SetI (Pg : Program) (wd : World) (ad : Addr) (zs : List Int) : HO := .ext fun h => ∃ m, Sw (intKind Pg wd) h ad (fun z => decide (z ∈ zs)) m ∧ m ≤ zs.length
theorem setI_new {Pg : Program} {wd : World} {H : Hp} {h : Heap} {ad : Addr} {zs : List Int} (R : ∃ m, Sw (intKind Pg wd) h ad (fun z => decide (z ∈ zs)) m ∧ m ≤ zs.length) : ObjOk Pg wd H h ad (SetI Pg wd ad zs) := by
  have ⟨m, ⟨ob, _, _, _, ho, _⟩, _⟩ := R
  exact ⟨R, ⟨ob, ho⟩, fun h1 h2 ⟨m, p, l⟩ k => ⟨m, p.keep k, l⟩⟩
section
variable {X : Cx}
/-- set(xs), xs a list or a tuple of texts -/
def rSetI (K : PySem.W.Frag) (P : Program) (w : World) : List V → Hp → VK → Prop := fun xs H Q => ∃ (a : Addr) (zs : List Int), xs = [.ref a] ∧ (SqL K H a (zs.map V.int) ∨ SqT K H a (zs.map V.int)) ∧ zs.length ≤ 1000 ∧
  ∀ p, H p = none → Q (.ref p) (upd H p (SetI P w p zs))
theorem cr_setI (hc : X.calm = true) : CallR X (.type "set") (rSetI X.K X.prog X.w) := by
  intro pins s σ H vs us Q I r h
  obtain ⟨a, zs, rfl, hq, hn, q⟩ := h
  rw [Vals.ref1 r]
  have hb : zs.length + 1 < scanBound := by unfold scanBound; omega
  have ng : H s.heap.objs.size = none := I.hok.fresh (Nat.le_refl _)
  have val : ∀ {its : List Value}, Vals (zs.map V.int) its → ∀ (i : Nat) (v : Value), its.toArray[i]? = some v → ∃ z, zs[i]? = some z ∧ (intKind X.prog X.w).is z v = true ∧ v.scannable = true := fun {its} rv i v hv => by
    have hv : its[i]? = some v := by simpa using hv
    have hi : i < zs.length := by
      have := (List.getElem?_eq_some_iff.mp hv).1
      rw [← rv.length, List.length_map] at this
      exact this
    obtain ⟨u, h1, h2⟩ := rv.get (i := i) (x := V.int zs[i]) (by rw [List.getElem?_map, List.getElem?_eq_getElem hi]; rfl)
    rw [hv] at h1
    cases h1
    obtain ⟨t, rfl⟩ := h2
    exact ⟨zs[i], List.getElem?_eq_getElem hi, intKind_is _ _ _ _, rfl⟩
  have size : ∀ {its : List Value}, Vals (zs.map V.int) its → its.toArray.size = zs.length := fun {its} rv => by
    rw [List.size_toArray, ← rv.length, List.length_map]
  have fin : ∀ (hq : Heap) (tk c : Nat), Sw (intKind X.prog X.w) hq s.heap.objs.size (fun j => decide (j ∈ zs)) c → c ≤ zs.length → (∀ b o, s.heap.get? b = some o → hq.get? b = some o) → EP X pins σ Q (.ref s.heap.objs.size) { s with heap := hq, toks := tk } := fun hq tk c R hc k =>
    ⟨.ref s.heap.objs.size, upd H s.heap.objs.size (SetI X.prog X.w s.heap.objs.size zs), I.laid (t' := tk) k (Nat.le_refl _) (setI_new ⟨c, R, hc⟩), rfl, q _ ng⟩
  rcases hq with hq | hq
  · obtain ⟨its, rv, pl, hz⟩ := I.list hq
    exact set_list zs (I.ok.hd hc) pl.isList (val rv) (size rv) hb fin
  · obtain ⟨its, rv, pl, hz⟩ := I.tuple hq
    exact set_tuple zs (I.ok.hd hc) pl (val rv) (size rv) hb fin
/-- sorted(set) of texts -/
def rSortI (P : Program) (w : World) : List V → Hp → VK → Prop := fun xs H Q => ∃ (a : Addr) (zs : List Int), xs = [.ref a] ∧ H a = some (SetI P w a zs) ∧ zs.length ≤ 1000 ∧
  ∀ (ys : List Int) p, ys.Nodup → (∀ z, z ∈ ys ↔ z ∈ zs) → ys.Pairwise (fun x y => x ≤ y) → H p = none → Q (.ref p) (upd H p (.lst (ys.map V.int)))
theorem ints_valsI : ∀ {vs : List Value}, (∀ v, v ∈ vs → ∃ x t, v = Value.int x t) → Vals ((vs.map intV).map V.int) vs
  | [], _ => .nil
  | v :: vs, h => by
    obtain ⟨x, t, rfl⟩ := h v List.mem_cons_self
    exact .cons ⟨t, rfl⟩ (ints_valsI fun u hu => h u (List.mem_cons_of_mem _ hu))
theorem cr_sortI (hc : X.calm = true) (hu : X.A.units + 70 < cLine) : CallR X (.builtin "sorted") (rSortI X.prog X.w) := by
  intro pins s σ H vs us Q I r h
  obtain ⟨a, zs, rfl, hq, hn, q⟩ := h
  rw [Vals.ref1 r]
  obtain ⟨m, ⟨ob, es, ep, tb, h0, hx, hd, el, pw, hm, hz, hf, _, hr, hl⟩, _⟩ := (I.hok a _ hq).1
  have shape : ∀ v, v ∈ es.toList.map (·.2) → ∃ x t, v = Value.int x t := fun v hv => by
    obtain ⟨e, he, rfl⟩ := List.mem_map.mp hv
    obtain ⟨⟨z, h1, _⟩, _⟩ := el e he
    obtain ⟨t, e2⟩ := is_int h1
    exact ⟨z, t, e2⟩
  refine sorted_at ⟨ob, h0, hx.1, hd⟩ hf hz hr hl (I.ok.hd hc) hu intD (fun v hv => ?_) ?_ ?_ (fun v hv => ?_) fun s1 p vs c k g o hp pm hL => ?_
  · obtain ⟨x, t, rfl⟩ := shape v hv
    exact .int x t
  · intro d hd d2 hd2
    obtain ⟨v, hv, rfl⟩ := List.mem_map.mp hd
    obtain ⟨v2, hv2, rfl⟩ := List.mem_map.mp hd2
    obtain ⟨x, t, rfl⟩ := shape v hv
    obtain ⟨x2, t2, rfl⟩ := shape v2 hv2
    rfl
  · refine .inr fun d hd => ?_
    obtain ⟨v, hv, rfl⟩ := List.mem_map.mp hd
    obtain ⟨x, t, rfl⟩ := shape v hv
    exact ⟨(fun e => by cases e), fun xs e => by cases e⟩
  · obtain ⟨x, t, rfl⟩ := shape v hv
    show PyData.depth (.int x) ≤ 64
    simp only [PyData.depth]
    omega
  · have ps : (vs.mergeSort (dataLe false intD)).Perm (es.toList.map (·.2)) := (List.mergeSort_perm _ _).trans pm
    have shape2 : ∀ v, v ∈ vs.mergeSort (dataLe false intD) → ∃ x t, v = Value.int x t := fun v hv => shape v (ps.mem_iff.mp hv)
    have hv := ints_valsI shape2
    have ng : H p = none := I.hok.fresh hp
    have hlen : (((vs.mergeSort (dataLe false intD)).map intV).map V.int).length ≤ sizeLine := by
      rw [List.length_map, List.length_map, ps.length_eq, List.length_map, Array.length_toList]
      exact fits_of_scanBound hz
    have J : Inv X pins σ (upd H p (.lst (((vs.mergeSort (dataLe false intD)).map intV).map V.int))) { s with heap := s1.heap, gens := s1.gens, drawn := s1.drawn, toks := s1.toks } :=
      I.call (ch := []) (Un.laid k hp ng) (I.hok.laid k hp ⟨hlen, _, c, hv, hL⟩) (by rw [g]; exact I.bare) (fun _ z => nomatch z)
    have e : s1 = { s with heap := s1.heap, gens := s1.gens, drawn := s1.drawn, toks := s1.toks } := by
      cases s1
      cases s
      cases o
      rfl
    rw [e]
    refine ⟨.ref p, _, J, rfl, q _ p ?_ (fun z => ?_) ?_ ng⟩
    · have nd : ((es.toList.map (·.2)).map intV).Nodup := by
        rw [List.map_map]
        refine List.pairwise_map.mpr (pw.imp_of_mem fun {x y} hx hy h e => ?_)
        obtain ⟨⟨z, h1, _⟩, _⟩ := el x hx
        obtain ⟨⟨z2, h2, _⟩, _⟩ := el y hy
        obtain ⟨t, e1⟩ := is_int h1
        obtain ⟨t2, e2⟩ := is_int h2
        have e3 : intV x.2 = intV y.2 := e
        rw [e1, e2] at e3
        have e3 : z = z2 := e3
        rw [← e3] at h2
        exact h z ⟨h1, h2⟩
      exact (ps.map intV).nodup_iff.mpr nd
    · rw [(ps.map intV).mem_iff]
      have hm2 := hm z
      rw [decide_eq_true_eq] at hm2
      rw [hm2]
      constructor
      · intro y
        obtain ⟨v, hv, rfl⟩ := List.mem_map.mp y
        obtain ⟨e, he, rfl⟩ := List.mem_map.mp hv
        obtain ⟨⟨z2, h1, h2⟩, _⟩ := el e he
        obtain ⟨t, e1⟩ := is_int h1
        have e3 : intV e.2 = z2 := by rw [e1]; rfl
        exact ⟨e, he, by rw [e3]; exact h1⟩
      · rintro ⟨e, he, h1⟩
        obtain ⟨t, e1⟩ := is_int h1
        exact List.mem_map.mpr ⟨e.2, List.mem_map_of_mem he, by rw [e1]; rfl⟩
    · have le : ∀ x y : Value, dataLe false intD x y = true → (∃ a t, x = Value.int a t) → (∃ a t, y = Value.int a t) → intV x ≤ intV y := by
        rintro x y h ⟨a, t, rfl⟩ ⟨b, u, rfl⟩
        have z := congrFun (congrFun (dataLe_int (β := Value) intV) (.int a t)) (.int b u)
        have z2 : dataLe false intD (.int a t) (.int b u) = dataLe false (fun b => PyData.int (intV b)) (.int a t) (.int b u) := rfl
        rw [z2, z] at h
        exact of_decide_eq_true h
      have srt := List.pairwise_mergeSort (le := dataLe false intD) (sortLe_total _ _ _).trans (fun a b => by
        rw [Bool.or_eq_true]
        exact (sortLe_total _ _ _).total a b) vs
      refine List.pairwise_map.mpr (srt.imp_of_mem fun {x y} hx hy h => le x y h (shape2 x hx) (shape2 y hy))
end
end SW

set_option Elab.async false
set_option linter.all false
set_option maxRecDepth 100000
set_option maxHeartbeats 4000000
namespace DL
open PySem PySem.Spec PyProof.Rows L2 GG DD PT
variable {K : KX}
def dSortSetI (de : DE) : DA := fun s P => de s fun d s1 => match d with
  | .list ds => ∃ zs : List Int, ds = zs.map .int ∧ zs.length ≤ 1000 ∧ ∀ ys : List Int, ys.Nodup → (∀ z, z ∈ ys ↔ z ∈ zs) → ys.Pairwise (fun x y => x ≤ y) → P (ys.map .int) s1
  | _ => False
theorem da_intsI {H : Hp} : ∀ ns : List Int, DaAll K H (ns.map V.int) (ns.map PyData.int)
  | [] => .nil
  | n :: ns => .cons (.int n) (da_intsI ns)
theorem rf_sortSetI {te : TE} {de : DE} {Pg : Program} {w : World} (h : RE K te de) : RF K (tCB (SW.rSortI Pg w) (tCons (tCB (SW.rSetI K Pg w) (tCons te tNil)) tNil)) (dSortSetI de) := fun C hC s P hd σ H Q R q =>
  rd_cb (rd_cons (rd_cb (rd_cons (h C hC s _ hd σ H _ R fun v H1 d s1 hp R1 hv => rd_nil (by
    cases d with
    | list ds =>
      obtain ⟨a, vs, rfl, k1, k2⟩ := da_list hv
      obtain ⟨zs, rfl, hl, hp⟩ := hp
      have ev := ints_da k2
      subst ev
      subst hC
      refine ⟨a, zs, rfl, .inl (sq k1), hl, fun b nb => rd_nil ⟨b, zs, rfl, upd_same, hl, fun ys p nd me pw np => ?_⟩⟩
      exact q p (ys.map V.int) _ (ys.map .int) s1 (hp ys nd me pw) (R1.ext (same_upd nb)) np (da_intsI ys)
    | _ => exact hp.elim)))))
end DL

set_option Elab.async false
set_option linter.all false
set_option maxRecDepth 100000
set_option maxHeartbeats 4000000
namespace GG
open PySem PySem.Spec PyProof.Rows L2
/-- a method m of the class at C -/
structure DfM (P : Program) (w : World) (K : PySem.W.Frag) (mg : Str → Option Value) (base : Heap) (k : Nat) (C : Addr) (m : Str) (ps : List Str) (sp : Sp) : Prop where
  ex : ∃ f fd, Fgx P w K mg base k f fd ps sp ∧ Cls K C ∧ Meth K C m f ∧ Binds K fd ps []
/-- the class x at C, with an __init__ of its own -/
structure DfC (P : Program) (w : World) (K : PySem.W.Frag) (mg : Str → Option Value) (base : Heap) (k : Nat) (x : Str) (C : Addr) (ps : List Str) (sp : Sp) : Prop where
  ex : ∃ f fd, Fgx P w K mg base k f fd ps sp ∧ Mk K C f ∧ mg x = some (.ref C) ∧ Binds K fd ps []
section
variable {X : Cx} {W : WX} {k : Nat} {C : Addr} {nm m : Str} {ps : List Str} {sp : Sp} {p pos apos : Pos} {e o : Expr} {es : List Expr} {ta : TE} {t : TA}
def tMethX (W : WX) (C : Addr) (m : Str) (sp : Sp) (ta : TE) (t : TA) : TE := fun σ H Q => ta σ H fun x H1 => ∃ a dx fs, x = .ref a ∧ H1 a = some (.ins C dx fs) ∧ fs.lookup m = none ∧ t σ H1 fun vs H2 => sp (x :: vs) H2 Q (fun cls d H' => W cls d σ H')
theorem mcallx {pl : Sem Bool} (tk : L2.Takes X W) (D : DfM X.prog X.w X.K X.mg X.base k C m ps sp) (hr : Rm k X.A) (he : PE X o ta) (ha : PA X (e :: es) t)
    (hst : starEach (e :: es) X.env = (false, eval e X.env) :: starEach es X.env := by rfl) (hpl : (backTo pos (starEach es X.env)).any (·.1) = false := by rfl)
    (ht : eval (.Call (.Attribute o m apos) (e :: es) [] pos) X.env = (do
      let ov ← eval o X.env
      standAt apos.atName
      let (f, first) ← holding [ov] (getMethod ov m pl)
      callWith pos f first (backTo pos (starEach (e :: es) X.env)) (backToKw pos (keywordEach [] X.env))) := by rfl) :
    PE X (.Call (.Attribute o m apos) (e :: es) [] pos) (tMethX W C m sp ta t) := by
  obtain ⟨f, fd, F, c, hm, hb⟩ := D.ex
  refine ⟨fun pins s σ H Q I h => ?_⟩
  refine PySem.W.methodCall_KW (pl := pl) (thn (he.run pins s σ H _ I h) fun u s1 ⟨x, H1, I1, rx, a, dx, fs, ex, ea, l, q⟩ => ?_) ht
  subst ex
  obtain rfl : u = Value.ref a := rx
  refine getmeth_ok I1 ea c hm l ?_
  refine PySem.W.callWith_K (first := [.ref a]) (h₀ := X.base) I.ok.mod.kin hm.kp (thn (ha.run pos pins s1 σ H1 _ I1 q) fun us s2 ⟨vs, H2, I2, r, q2⟩ => ⟨I2.kIn, ?_⟩) hst hpl
  have r2 : Vals (V.ref a :: vs) (Value.ref a :: us) := .cons rfl r
  have hl : ((Value.ref a :: us) ++ []).length = ps.length := by rw [List.append_nil, ← r2.length]; exact F.size _ _ _ _ q2
  have b := hb s2 (Value.ref a :: us) I2.kIn hl
  rw [List.append_nil] at b
  refine wpAny_call (codeAny_mono (F.go X.A X.stack s2 H2 ⟨Value.ref a :: us, []⟩ _ _ Q _ hr I2.env0 b r2 q2) fun r s' hq => ?_)
  exact retx_of tk I2 hq
/-- C(..): a new instance and its dict, then __init__ -/
def tMakeX (W : WX) (C : Addr) (sp : Sp) (t : TA) : TE := fun σ H Q => t σ H fun vs H1 => ∀ x dx, H1 x = none → H1 dx = none → dx ≠ x →
  sp (.ref x :: vs) (upd (upd H1 dx (.own x)) x (.ins C dx [])) (fun v H2 => v = .non ∧ Q (.ref x) H2) (fun cls d H' => W cls d σ H')
theorem Rm.make {k : Nat} {A : Around} (r : Rm (k + 1) A) (C : Addr) (us : List Value) (kw : List (Str × Value)) : Rm k (A.under (.builtin "type.__call__" ⟨.ref C :: us, kw⟩)) := ⟨r.room.make C us kw, r.plain⟩
theorem run_newx {pins : List (Addr × Obj)} {σ : L2.St} {H : Hp} {s : Shared} {Q : VK} {us : List Value} {vs : List V} {f : Addr} {fd : FuncData} (tk : L2.Takes X W) (F : Fgx X.prog X.w X.K X.mg X.base k f fd ps sp) (M : Mk X.K C f) (hb : Binds X.K fd ps []) (hr : Rm (k + 1) X.A) (I : Inv X pins σ H s) (r : Vals vs us)
    (q : ∀ x dx, H x = none → H dx = none → dx ≠ x → sp (.ref x :: vs) (upd (upd H dx (.own x)) x (.ins C dx [])) (fun v H2 => v = .non ∧ Q (.ref x) H2) (fun cls d H' => W cls d σ H')) :
    wpAny (model X.prog X.w) X.A (call (.ref C) us) (EP X pins σ Q) X.xe s := by
  have hq := q (s.heap.objs.size + 1) s.heap.objs.size (I.hok.fresh (Nat.le_succ _)) (I.hok.fresh (Nat.le_refl _)) (Nat.ne_of_lt (Nat.lt_succ_self _))
  have I2 := Inv.made (C := C) I
  have r2 : Vals (V.ref (s.heap.objs.size + 1) :: vs) (Value.ref (s.heap.objs.size + 1) :: us) := .cons rfl r
  have hl : ((Value.ref (s.heap.objs.size + 1) :: us) ++ []).length = ps.length := by
    rw [List.append_nil, ← r2.length]
    exact F.size _ _ _ _ hq
  have b := hb _ (Value.ref (s.heap.objs.size + 1) :: us) I2.kIn hl
  rw [List.append_nil] at b
  refine wpAny_call (make_map (f := f) I.kIn M.makes M.init (beq_iff_eq.mp M.fn) (codeAny_mono (F.go _ X.stack _ _ ⟨Value.ref (s.heap.objs.size + 1) :: us, []⟩ _ _ _ _ (hr.make C us []) (I2.env0.make C us []) b r2 hq) fun r s' hq' => ?_))
  have z := retx_of tk I2 hq'
  cases r with
  | error e => exact z
  | ok fl =>
    cases fl with
    | ret u =>
      obtain ⟨v, H', I3, rv, ev, q3⟩ := z
      subst ev
      exact ⟨rv, ⟨V.ref (s.heap.objs.size + 1), H', I3, rfl, q3⟩⟩
    | next => exact z
    | brk => exact z
    | cont => exact z
theorem newx (tk : L2.Takes X W) (D : DfC X.prog X.w X.K X.mg X.base k nm C ps sp) (hr : Rm (k + 1) X.A) (hg : Gl X nm) (ha : PA X (e :: es) t)
    (hdb : (nm == ("__debug__" : Str)) = false := by decide) (he : starEach (e :: es) X.env = (false, eval e X.env) :: starEach es X.env := by rfl) (hpl : (backTo pos (starEach es X.env)).any (·.1) = false := by rfl) :
    PE X (.Call (.Name nm p) (e :: es) [] pos) (tMakeX W C sp t) := by
  obtain ⟨f, fd, F, M, hm, hb⟩ := D.ex
  refine ⟨fun pins s σ H Q I h => ?_⟩
  refine wpAny_Call_Name_kw (ld_glob I hg hm ?_ hdb)
  refine PySem.W.callWith_K (h₀ := X.base) I.ok.mod.kin M.kp (thn (ha.run pos pins s σ H _ I h) fun us s1 ⟨vs, H1, I1, r, q⟩ => ⟨I1.kIn, ?_⟩) he hpl
  exact run_newx tk F M hb hr I1 r q
end
end GG
namespace DL
open PySem PySem.Spec PyProof.Rows L2 GG DD PT
variable {K : KX}
def vFld (C : Addr) (f : Str) (dv : DO') : DO' := fun s P => dv s fun x s1 => match x with
  | .o a => match s1.n.ob a with
    | some (.ins C' fs) => C' = C ∧ ∃ y, fs.lookup f = some y ∧ P y s1
    | _ => False
  | _ => False
theorem OvKv.look {K : PySem.W.Frag} {W : Wo} {Hh : Hp} {f : Str} {y : OV} : ∀ {es : List (Str × V)} {fs : List (Str × OV)}, OvKv K W Hh es fs → fs.lookup f = some y → ∃ v, es.lookup f = some v ∧ OvOk K W Hh v y
  | _, _, .nil, h => by cases h
  | _, _, .cons (k := k') h t, e => by
    rw [List.lookup_cons] at e ⊢
    cases q : f == k' with
    | true =>
      rw [q] at e
      cases e
      exact ⟨_, rfl, h⟩
    | false =>
      rw [q] at e
      exact t.look e
theorem OvKv.look0 {K : PySem.W.Frag} {W : Wo} {Hh : Hp} {f : Str} : ∀ {es : List (Str × V)} {fs : List (Str × OV)}, OvKv K W Hh es fs → fs.lookup f = none → es.lookup f = none
  | _, _, .nil, h => rfl
  | _, _, .cons (k := k') h t, e => by
    rw [List.lookup_cons] at e ⊢
    cases q : f == k' with
    | true =>
      rw [q] at e
      cases e
    | false =>
      rw [q] at e
      exact t.look0 e
theorem rv_fld {C : Addr} {f : Str} {te : TE} {dv : DO'} (c : Cls K.fr C) (n : NoAttr K.fr C f) (h : RV K te dv) : RV K (tFld K.fr te f) (vFld C f dv) := fun C0 hC s P hd σ H Q R q =>
  h C0 hC s _ hd σ H _ R fun v H1 x s1 hp R1 hv => by
    subst hC
    cases x with
    | o a =>
      have hv : v = .ref a := hv
      subst hv
      dsimp only at hp
      cases e : s1.n.ob a with
      | none => rw [e] at hp; exact hp.elim
      | some ob =>
        rw [e] at hp
        cases ob with
        | ins C' fs =>
          obtain ⟨rfl, y, hy, hp⟩ := hp
          obtain ⟨dx, es, g1, g2⟩ := (R1.ob a _ e).at_
          obtain ⟨u, hu, ho⟩ := g2.look hy
          exact ⟨a, C', dx, es, u, rfl, g1, c, n, hu, q u H1 y s1 hp R1 ho⟩
        | _ => exact hp.elim
    | _ => exact hp.elim
/-- o.f = v in the fields -/
def fputO (f : Str) (y : OV) : List (Str × OV) → List (Str × OV)
  | [] => [(f, y)]
  | p :: r => if p.1 = f then (p.1, y) :: r else p :: fputO f y r
theorem OvKv.fput {K : PySem.W.Frag} {W : Wo} {Hh : Hp} {f : Str} {v : V} {y : OV} (hv : OvOk K W Hh v y) : ∀ {es : List (Str × V)} {fs : List (Str × OV)}, OvKv K W Hh es fs → OvKv K W Hh (putF f v es) (fputO f y fs)
  | _, _, .nil => .cons hv .nil
  | (k, u) :: es, (_, x) :: fs, .cons h t => by
    show OvKv K W Hh (if k = f then (k, v) :: es else (k, u) :: putF f v es) (if k = f then (k, y) :: fs else (k, x) :: fputO f y fs)
    by_cases e : k = f
    · rw [if_pos e, if_pos e]
      exact .cons hv t
    · rw [if_neg e, if_neg e]
      exact .cons h (OvKv.fput hv t)
/-- o.f = v -/
def dFPut (C : Addr) (f : Str) (dv dx : DO') : DS := fun E s => dx s fun y s1 => dv s1 fun x s2 => match x with
  | .o a => match s2.n.ob a with
    | some (.ins C' fs) => C' = C ∧ fs.length < 1000 ∧ E.nx ⟨s2.sl, s2.n.put a (.ins C (fputO f y fs))⟩
    | _ => False
  | _ => False
theorem rs_fPut {C : Addr} {f : Str} {te tx : TE} {dv dx : DO'} (c : Cls K.fr C) (n : NoAttr K.fr C f) (hx : RV K tx dx) (h : RV K te dv) : RS K (sFld K.fr te tx f) (dFPut C f dv dx) := fun C0 hC E s hd σ H D R o =>
  hx C0 hC s _ hd σ H _ R fun w H0 y s0 hp R0 hw => h (C0.more (vG w y)) hC s0 _ hp σ H0 _ (R0.keepV hw) fun v H1 x s1 hp R1 hv => by
    subst hC
    obtain ⟨R2, hw2⟩ := R1.keptV hw
    cases x with
    | o a =>
      have hv : v = .ref a := hv
      subst hv
      dsimp only at hp
      cases e : s1.n.ob a with
      | none => rw [e] at hp; exact hp.elim
      | some ob =>
        rw [e] at hp
        cases ob with
        | ins C' fs =>
          obtain ⟨rfl, hl, hp⟩ := hp
          obtain ⟨dx, es, g1, g2⟩ := (R2.ob a _ e).at_
          refine ⟨a, C', dx, es, rfl, g1, c, n, by rw [g2.len]; exact hl, o.nx σ _ _ hp (R2.obPut (a := a) (o := .ins C' dx (putF f w es)) (b := .ins C' (fputO f y fs)) (.inr ⟨_, e⟩) ⟨dx, _, upd_same, g2.fput hw2⟩).1⟩
        | _ => exact hp.elim
    | _ => exact hp.elim
def vMethX (PX : PXt) (C : Addr) (nm : Str) (m : Nat) (F : FO) (dv : DO') (da : DX) : DO' := fun s P => dv s fun x s1 => match x with
  | .o a => (match s1.n.ob a with
    | some (.ins C' fs) => C' = C ∧ fs.lookup nm = none
    | _ => False) ∧ da s1 fun as s2 => as.length + 1 = m ∧ F (.obj a :: as) s2.n (fun x g => P x ⟨s2.sl, g⟩) fun Cx fs g => PX Cx fs ⟨s2.sl, g⟩
  | _ => False
theorem rv_methX {W : WX} {PX : PXt} {C : Addr} {nm : Str} {m : Nat} {F : FO} {te : TE} {ta : TA} {dv : DO'} {da : DX} (xo : XOk K W PX) (h1 : RV K te dv) (h : RX K ta da) : RV K (tMethX W C nm (spO K m F) te ta) (vMethX PX C nm m F dv da) := fun C0 hC s P hd σ H Q R q =>
  h1 C0 hC s _ hd σ H _ R fun v H1 x s1 hp R1 hv => by
    subst hC
    cases x with
    | o a =>
      have hv : v = .ref a := hv
      subst hv
      obtain ⟨hob, hp⟩ := hp
      cases e : s1.n.ob a with
      | none => rw [e] at hob; exact hob.elim
      | some ob =>
        rw [e] at hob
        cases ob with
        | ins C' fs =>
          obtain ⟨rfl, hl⟩ := hob
          obtain ⟨dx, es, g1, g2⟩ := (R1.ob a _ e).at_
          refine ⟨a, dx, es, rfl, g1, g2.look0 hl, h C0 rfl s1 _ hp σ H1 _ R1 fun vs H2 as s2 hp R2 hvs => ?_⟩
          exact x_callO xo R2 (as := .obj a :: as) (by rw [List.length_cons, hvs.len]; exact hp.1) (.cons rfl hvs) hp.2 q
        | _ => exact hob.elim
    | _ => exact hp.elim
def vMakeX (PX : PXt) (C : Addr) (m : Nat) (F : FO) (da : DX) : DO' := fun s P => da s fun as s1 => as.length + 1 = m ∧ ∀ a, s1.n.ob a = none → F (.obj a :: as) (s1.n.put a (.ins C [])) (fun x g => x = .d .none ∧ P (.o a) ⟨s1.sl, g⟩) fun Cx fs g => PX Cx fs ⟨s1.sl, g⟩
theorem rv_makeX {W : WX} {PX : PXt} {C : Addr} {m : Nat} {F : FO} {ta : TA} {da : DX} (xo : XOk K W PX) (h : RX K ta da) : RV K (tMakeX W C (spO K m F) ta) (vMakeX PX C m F da) := fun C0 hC s P hd σ H Q R q =>
  h C0 hC s _ hd σ H _ R fun vs H1 as s1 hp R1 hvs a dx na nd ne => by
    subst hC
    have nob : s1.n.ob a = none := by
      cases e : s1.n.ob a with
      | none => rfl
      | some o =>
        obtain ⟨u, hu⟩ := R1.ob_at e
        rw [na] at hu
        cases hu
    have R2 := R1.ext (same_upd (o := .own a) nd)
    have na2 : upd H1 dx (.own a) a = none := by rw [upd_ne (fun z => ne z.symm)]; exact na
    have hs1 := R1.kp (o := .own a) nd
    obtain ⟨R3, hs2⟩ := R2.obPut (a := a) (o := .ins C dx []) (b := .ins C []) (.inl na2) ⟨dx, [], upd_same, .nil⟩
    have hvs2 : ArgsOk C0.K C0.W (Sof C0 σ ⟨s1.sl, s1.n.put a (.ins C [])⟩) (upd (upd H1 dx (.own a)) a (.ins C dx [])) vs as := (hvs.move hs1).move hs2
    refine x_callO xo R3 (as := .obj a :: as) (m := m) (P := fun x s' => x = .d .none ∧ P (.o a) s') (by rw [List.length_cons, hvs.len]; exact hp.1) (.cons rfl hvs2) (hp.2 a nob) fun v H' x s' hP R' hx => ?_
    obtain ⟨e, hP⟩ := hP
    subst e
    refine ⟨by cases hx; rfl, q (.ref a) H' (.o a) s' hP R' rfl⟩
end DL

set_option Elab.async false
set_option linter.all false
set_option maxRecDepth 100000
set_option maxHeartbeats 4000000
namespace UPK
open PySem PySem.Spec PyProof.Rows L2
section
variable {X : Cx} {pins : List (Addr × Obj)} {σ : L2.St} {H : Hp} {s : Shared} {a b : Addr} {kvs more : List (Key × V)} {A : Around} {E : Value → Shared → Prop}
theorem dk_update {Q : Value → Shared → Prop} (I : Inv X pins σ H s) (e : H a = some (.dK kvs)) (e2 : H b = some (.dK more)) (hab : a ≠ b) (hl : kvs.length + more.length ≤ sizeLine)
    (h : ∀ s', Inv X pins σ (upd H a (.dK (mergeK kvs more))) s' → Q .none s') : wpAny (model X.prog X.w) A (call (.builtin "dict.update") [.ref a, .ref b]) Q E s := by
  obtain ⟨z, hd, vs, rel, dd⟩ := dk_of I.hok e
  obtain ⟨z2, hd2, ws, rel2, dd2⟩ := dk_of I.hok e2
  refine call_meetsIn PySem.F.slot_dict_update dd.typeIs PySem.F.entry_dict_update (PySem.F.args_dict_update_2 _ _) (meets_dict_update (mixKind X.prog X.w) a b hab hd2)
    ⟨vs, ws, dd, dd2, (by rw [← rel.length, ← rel2.length]; exact hl), fun h' hm _ hs => h _ ?_⟩
  have he : ∃ q, h'.get? a = some q := let ⟨q, _, _, hq, _⟩ := hm; ⟨q, hq⟩
  have hz : (mergeK kvs more).length ≤ sizeLine := by have := length_mergeK more kvs; omega
  exact d_write (t' := _) I (by rw [e]; exact True.intro) hs he (dk_new hz hd (KV.merge rel2 rel) hm)
end
/-- d.update(e) -/
def tUpdK (td ty : TE) : TE := fun σ H Q => td σ H fun x H1 => ∃ a kvs, x = .ref a ∧ H1 a = some (.dK kvs) ∧ ty σ H1 fun y H2 => ∃ b kvs2 more, y = .ref b ∧ H2 a = some (.dK kvs2) ∧ H2 b = some (.dK more) ∧ a ≠ b ∧ kvs2.length + more.length ≤ sizeLine ∧ Q .non (upd H2 a (.dK (mergeK kvs2 more)))
section
variable {X : Cx} {o e : Expr} {apos cpos : Pos} {td ty : TE}
theorem pe_updK (ho : PE X o td) (he : PE X e ty) (m : M1 X o "update" apos e cpos) : PE X (.Call (.Attribute o "update" apos) [e] [] cpos) (tUpdK td ty) := by
  refine ⟨fun pins s σ H Q I h => ?_⟩
  refine wpAny_Call_method m.base m.few m.line PySem.F.plainAttrs_dict PySem.F.slot_dict_update PySem.F.type_dict_update (thn (ho.run pins s σ H _ I h) fun u s1 ⟨x, H1, I1, rx, a, kvs, ex, g, q1⟩ => ?_)
  subst ex
  obtain rfl : u = Value.ref a := rx
  obtain ⟨t1, t2, _⟩ := isD_at I1 (.inl ⟨kvs, .inl g⟩)
  refine ⟨t1, t2, ?_⟩
  rw [m.trees]
  refine Calls.callWith_builtin rfl (Calls.evalArgs_plain (Calls.spliced_cons (thn (he.run pins s1 σ H1 _ I1 q1) fun iv s2 ⟨y, H2, I2, ry, b, kvs2, more, ey, g2, g3, hab, hl, q2⟩ => Calls.spliced_nil ?_)))
  subst ey
  obtain rfl : iv = Value.ref b := ry
  exact dk_update I2 g2 g3 hab hl fun s3 I3 => ⟨.non, _, I3, rfl, q2⟩
end
end UPK
namespace DL
open PySem PySem.Spec PyProof.Rows L2 GG DD PT
variable {K : KX}
/-- k in d, d an object -/
def dOIn (neg : Bool) (dk : DE) (dd : DO') : DE := fun s P => dk s fun kd s1 => dd s1 fun x s2 => match x with
  | .o a => match s2.n.ob a, kOf kd with
    | some (.dic kvs), some k => P (.bool (if neg then !(ogetK kvs k).isSome else (ogetK kvs k).isSome)) s2
    | _, _ => False
  | _ => False
theorem oin_read {neg : Bool} {ty td : TE} {dk : DE} {dd : DO'} (h1 : RE K ty dk) (h2 : RV K td dd) : ∀ C : DC, C.K = K → ∀ s P, dOIn neg dk dd s P → ∀ (σ : L2.St) (H : Hp) (Q : VK), Rl C σ H s → (∀ v H' d s', P d s' → Rl C σ H' s' → Da C.K (Hd (Sof C σ s') H') v d → Q v H') →
    ty σ H fun y H1 => td σ H1 fun x H2 => ∃ a o, x = .ref a ∧ DGet H2 a y o ∧ Q (.bl (if neg then !o.isSome else o.isSome)) H2 := fun C hC s P hd σ H Q R q =>
  h1 C hC s _ hd σ H _ R fun u H1 kd s1 hp R1 hu => h2 (C.keep u kd) hC s1 _ hp σ H1 _ (R1.keep hu) fun v H2 x s2 hp R2 hv => by
    obtain ⟨R3, hu3⟩ := R2.kept
    cases x with
    | o a =>
      have hv : v = .ref a := hv
      subst hv
      dsimp only at hp
      cases e : s2.n.ob a with
      | none => rw [e] at hp; exact hp.elim
      | some ob =>
        cases e2 : kOf kd with
        | none =>
          rw [e, e2] at hp
          cases ob <;> exact hp.elim
        | some k =>
          rw [e, e2] at hp
          cases ob with
          | dic kvs =>
            obtain ⟨es, g1, g2⟩ := (R3.ob a _ e).at_
            have ev := key_v hu3 e2
            subst ev
            have gg := DGet.k (k := k) g1
            refine ⟨a, _, rfl, gg, q _ H2 _ s2 hp R3 ?_⟩
            rcases g2.get k with ⟨z1, z2⟩ | ⟨w, y', z1, z2, _⟩
            · rw [z1, z2]
              exact .bl _
            · rw [z1, z2]
              exact .bl _
          | _ => exact hp.elim
    | _ => exact hp.elim
theorem re_oIn {ty td : TE} {dk : DE} {dd : DO'} (h1 : RE K ty dk) (h2 : RV K td dd) : RE K (tDIn ty td) (dOIn false dk dd) := fun C hC s P hd σ H Q R q => oin_read h1 h2 C hC s P hd σ H Q R q
/-- k in d, d told as data -/
def dDInE (neg : Bool) (dk de : DE) : DE := fun s P => dk s fun kd s1 => de s1 fun d s2 => isFlatD d ∧ match d, kOf kd with
  | .dict kvs, some k => P (.bool (if neg then !(dgetD kvs k).isSome else (dgetD kvs k).isSome)) s2
  | _, _ => False
theorem din_read {neg : Bool} {ty td : TE} {dk de : DE} (h1 : RE K ty dk) (h2 : RE K td de) : ∀ C : DC, C.K = K → ∀ s P, dDInE neg dk de s P → ∀ (σ : L2.St) (H : Hp) (Q : VK), Rl C σ H s → (∀ v H' d s', P d s' → Rl C σ H' s' → Da C.K (Hd (Sof C σ s') H') v d → Q v H') →
    ty σ H fun y H1 => td σ H1 fun x H2 => ∃ a o, x = .ref a ∧ DGet H2 a y o ∧ Q (.bl (if neg then !o.isSome else o.isSome)) H2 := fun C hC s P hd σ H Q R q =>
  h1 C hC s _ hd σ H _ R fun u H1 kd s1 hp R1 hu => h2 (C.keep u kd) hC s1 _ hp σ H1 _ (R1.keep hu) fun v H2 d s2 hp R2 hv => by
    obtain ⟨R3, hu3⟩ := R2.kept
    obtain ⟨hf, hp⟩ := hp
    cases d with
    | dict kvs =>
      cases e : kOf kd with
      | none =>
        simp only [e] at hp
      | some k =>
        simp only [e] at hp
        obtain ⟨a, es, rfl, ha, hkv⟩ := flat_dic hv hf
        have ev := key_v hu3 e
        subst ev
        have g := DGet.k (k := k) (hd_some ha).2
        refine ⟨_, _, rfl, g, q _ H2 _ s2 hp R3 ?_⟩
        rcases get_da k hkv with ⟨e1, e2⟩ | ⟨u, d', e1, e2, hu⟩
        · rw [e1, e2]
          exact .bl _
        · rw [e1, e2]
          exact .bl _
    | _ => exact hf.elim
theorem re_dInE {ty td : TE} {dk de : DE} (h1 : RE K ty dk) (h2 : RE K td de) : RE K (tDIn ty td) (dDInE false dk de) := fun C hC s P hd σ H Q R q => din_read h1 h2 C hC s P hd σ H Q R q
def vNew0 : DO' := fun s P => ∀ a, s.n.ob a = none → P (.o a) ⟨s.sl, s.n.put a (.dic [])⟩
theorem rv_new0 : RV K tDNewK vNew0 := fun C hC s P hd σ H Q R q p np => by
  have nob : s.n.ob p = none := by
    cases e : s.n.ob p with
    | none => rfl
    | some o =>
      obtain ⟨u, hu⟩ := R.ob_at e
      rw [np] at hu
      cases hu
  obtain ⟨R2, _⟩ := R.obPut (a := p) (o := .dK []) (b := .dic []) (.inl np) ⟨[], upd_same, .nil⟩
  exact q _ _ _ _ (hd p nob) R2 rfl
/-- entries of a dict as entries of an object -/
def entO (more : List (PyData × PyData)) : List (L2.Key × OV) := more.filterMap fun p => (kOf p.1).map fun k => (k, .d p.2)
theorem ent_da {K : PySem.W.Frag} {W : Wo} {H : Hp} : ∀ {es : List (L2.Key × V)} {kvs : List (PyData × PyData)}, DaKv K H es kvs → OvKv K W H es (entO kvs) ∧ (entO kvs).length = kvs.length
  | _, _, .nil => ⟨.nil, rfl⟩
  | _, _, .cons (k := k) (v := v) (d := d) (ds := ds) h t => by
    obtain ⟨h1, h2⟩ := ent_da t
    have e : entO ((keyD k, d) :: ds) = (k, .d d) :: entO ds := by
      unfold entO
      simp only [List.filterMap_cons, kOf_keyD, Option.map_some]
    rw [e]
    exact ⟨.cons h h1, by rw [List.length_cons, List.length_cons, h2]⟩
def dOUpd (dd : DO') (de : DE) : DE := fun s P => dd s fun x s1 => match x with
  | .o a => (match s1.n.ob a with
    | some (.dic _) => True
    | _ => False) ∧ de s1 fun d s2 => isFlatD d ∧ match s2.n.ob a, d with
    | some (.dic kvs), .dict more => kvs.length + more.length ≤ 1000000 ∧ P .none ⟨s2.sl, s2.n.put a (.dic (omergeK kvs (entO more)))⟩
    | _, _ => False
  | _ => False
theorem re_oUpd {td ty : TE} {dd : DO'} {de : DE} (h1 : RV K td dd) (h2 : RE K ty de) : RE K (UPK.tUpdK td ty) (dOUpd dd de) := fun C hC s P hd σ H Q R q =>
  h1 C hC s _ hd σ H _ R fun v H1 x s1 hp R1 hv => by
    cases x with
    | o a =>
      have hv : v = .ref a := hv
      subst hv
      obtain ⟨ho, hp⟩ := hp
      cases e : s1.n.ob a with
      | none => rw [e] at ho; exact ho.elim
      | some ob =>
        rw [e] at ho
        cases ob with
        | dic kvs0 =>
          obtain ⟨es0, g1, g2⟩ := (R1.ob a _ e).at_
          refine ⟨a, es0, rfl, g1, h2 C hC s1 _ hp σ H1 _ R1 fun w H2 d s2 hp R2 hw => ?_⟩
          obtain ⟨hf, hp⟩ := hp
          cases d with
          | dict more =>
            cases e2 : s2.n.ob a with
            | none => rw [e2] at hp; exact hp.elim
            | some ob2 =>
              rw [e2] at hp
              cases ob2 with
              | dic kvs =>
                obtain ⟨hl, hp⟩ := hp
                obtain ⟨b, es, rfl, hb, hkv⟩ := flat_dic hw hf
                obtain ⟨nb, hb⟩ := hd_some hb
                obtain ⟨es2, k1, k2⟩ := (R2.ob a _ e2).at_
                obtain ⟨k3, k4⟩ := ent_da (W := C.W) hkv
                have hab : a ≠ b := fun z => nb (.inr (.inr (.inr ⟨_, z ▸ e2⟩)))
                have hle : es2.length + es.length ≤ sizeLine := by
                  rw [k2.len, k3.len, k4]
                  exact Nat.le_trans hl (Nat.le_of_lt (Nat.lt_of_lt_of_le (by decide : 1000000 < 1000001) (by rw [sizeLine_eq]; decide)))
                refine ⟨b, es2, es, rfl, k1, hb, hab, hle, ?_⟩
                obtain ⟨R3, _⟩ := R2.obPut (a := a) (o := .dK (mergeK es2 es)) (b := .dic (omergeK kvs (entO more))) (.inr ⟨_, e2⟩) ⟨_, upd_same, k3.merge k2⟩
                exact q _ _ _ _ hp R3 .non
              | _ => exact hp.elim
          | _ => exact hf.elim
        | _ => exact ho.elim
    | _ => exact hp.elim
end DL
namespace DL
open PySem PySem.Spec PyProof.Rows L2 GG DD PT
/-- what a def does, its objects forgotten -/
def forg (F : FO) : FDX := fun as n P PX => F as (g0 n) (fun x g => ∃ d, x = .d d ∧ P d g.n) fun Cx fs g => PX Cx fs g.n
theorem forg_sp {K : PySem.W.Frag} {m : Nat} {F : FO} {vs : List V} {H : Hp} {Q : VK} {E : XK} (h : spX K m (forg F) vs H Q E) : spO K m F vs H Q E := by
  obtain ⟨hl, W, S0, n, as, P, PX, T, dk, hm, ha, hF, q, qd, qn⟩ := h
  have dk2 : ∀ {H0 H' : Hp} {g' : GS} {S1 : Addr → Prop}, (∀ b u, H b = some u → H0 b = some u) → OutW K W.pl S1 H0 H' g' → DkOk W H' g'.n ∧ ButW W H H' := fun {H0 H' g' S1} hs O => by
    have hb : ∀ c o, ¬ Mu W.pl c → H c = some o → H' c = some o := fun c o z h => O.but c o z (hs c o h)
    refine ⟨⟨O.dk.dk, O.dk.tb, fun c hc => ?_⟩, fun c o z h => hb c o (fun y => z (mu_pl y)) h⟩
    by_cases z : Mu W.pl c
    · exact O.dk.taken z
    · obtain ⟨o, h⟩ := dk.mo c hc
      exact ⟨o, hb c o z h⟩
  refine ⟨hl, W.pl, S0, g0 n, as, _, _, T, dk.pl, fun b hb => hm b (mu_pl hb), ⟨fun a o (z : none = some o) => (nomatch z), fun a => ⟨fun z => z.elim, fun ⟨o, z⟩ => (nomatch (show none = some o from z))⟩⟩, ha.pl, hF, ?_, ?_, ?_⟩
  · rintro v H' x g' ⟨d, rfl, hP⟩ O hx
    obtain ⟨k1, k2⟩ := dk2 (fun _ _ h => h) O
    exact q v H' d g'.n hP k1 k2 (OvOk.of (W' := W.pl) hx (hd_mono fun b hb => .inl hb) rfl)
  · intro Cx dd xs fs H' g' hP hn hM O hx hfs
    obtain ⟨k1, k2⟩ := dk2 (fun b u h => by
      rw [upd_ne (fun z => by rw [z, hn] at h; cases h)]
      exact h) O
    refine qd Cx dd xs fs H' g'.n hP k1 k2 hn (fun z => ?_) hx (hfs.of (hd_mono fun b hb => .inl hb))
    obtain ⟨o, h⟩ := T dd (hm dd z)
    rw [hn] at h
    cases h
  · intro Cx H' g' hP O
    obtain ⟨k1, k2⟩ := dk2 (fun _ _ h => h) O
    exact qn Cx H' g'.n hP k1 k2
theorem fgx_forg {P : Program} {w : World} {K : PySem.W.Frag} {mg : Str → Option Value} {base : Heap} {k : Nat} {f : Addr} {fd : FuncData} {ps : List Str} {m : Nat} {F : FO} (h : Fgx P w K mg base k f fd ps (spO K m F)) : Fgx P w K mg base k f fd ps (spX K m (forg F)) :=
  ⟨fun vs H Q E z => h.size vs H Q E (forg_sp z), fun A o s H a us vs Q E hr he hb hv z => h.go A o s H a us vs Q E hr he hb hv (forg_sp z)⟩
end DL

set_option Elab.async false
set_option linter.all false
set_option maxRecDepth 100000
set_option maxHeartbeats 4000000
namespace UPT
open PySem PySem.Spec PyProof.Rows L2
section
variable {X : Cx}
/-- d == {} -/
def rEqK0 : R2 := fun x y H Q => ∃ a b kvs, x = .ref a ∧ y = .ref b ∧ H a = some (.dK kvs) ∧ H b = some (.dK []) ∧ Q (.bl kvs.isEmpty) H
theorem op_eqK0 (hu : X.A.units < cLine) : OpR X (compareOp .Eq) rEqK0 := by
  intro pins s σ H x y v u Q I rx ry h
  obtain ⟨a, b, kvs, rfl, rfl, ea, eb, q⟩ := h
  obtain rfl : v = Value.ref a := rx
  obtain rfl : u = Value.ref b := ry
  obtain ⟨_, ya, xs, ra, da⟩ := dk_of I.hok ea
  obtain ⟨_, yb, ys, rb, db⟩ := dk_of I.hok eb
  obtain ⟨oa, es, ep, g1, g2, g3, _, g4, _⟩ := da
  obtain ⟨ob, es', ep', k1, k2, k3, _, k4, _⟩ := db
  cases rb
  have e0 : es' = #[] := Array.toList_eq_nil_iff.mp (List.length_eq_zero_iff.mp k4.length)
  subst e0
  have e1 : es.isEmpty = kvs.isEmpty := by
    have hl : es.size = kvs.length := by
      rw [← Array.length_toList, g4.length]
      exact (Paired.length ra).symm
    cases kvs with
    | nil =>
      rw [Array.eq_empty_of_size_eq_zero hl]
      rfl
    | cons p r =>
      rw [List.length_cons] at hl
      show _ = false
      rw [Array.isEmpty_eq_false_iff]
      intro z
      rw [z] at hl
      cases hl
  refine eq_empty ya yb g1 g2 g3 k1 k2 k3 hu ?_
  rw [e1]
  exact ⟨.bl _, H, I, rfl, q⟩
end
end UPT
namespace DL
open PySem PySem.Spec PyProof.Rows L2 GG DD PT
variable {K : KX}
theorem kv_len {K : PySem.W.Frag} {H : Hp} : ∀ {es : List (L2.Key × V)} {kvs : List (PyData × PyData)}, DaKv K H es kvs → es.length = kvs.length
  | _, _, .nil => rfl
  | _, _, .cons _ t => by rw [List.length_cons, List.length_cons, kv_len t]
def dEqK0 (i : Nat) : DE := fun s P => match s.sl[i]? with
  | some (.owd kvs) => P (.bool kvs.isEmpty) s
  | _ => False
theorem re_eqK0 {i : Nat} : RE K (tOp UPT.rEqK0 (tVar i) tDNewK) (dEqK0 i) := fun C hC s P hd σ H Q R q => by
  unfold dEqK0 at hd
  split at hd
  · rename_i kvs e
    obtain ⟨sl, h1, a, es, rfl, h2, h3⟩ := R.slots i _ e
    refine rd_op (rd_var h1 fun p np => ⟨a, p, es, rfl, rfl, same_upd np _ _ h2, upd_same, ?_⟩)
    have hl := kv_len h3
    have e1 : es.isEmpty = kvs.isEmpty := by
      cases es <;> cases kvs <;> first | rfl | (simp at hl)
    rw [e1]
    exact q _ _ _ s hd (R.ext (same_upd np)) (.bl _)
  · exact hd.elim
theorem w_eqK0 {i : Nat} {s : DSt} {P : PyData → DSt → Prop} {kvs : List (PyData × PyData)} (e : s.sl[i]? = some (.owd kvs)) (h : P (.bool kvs.isEmpty) s) : dEqK0 i s P := by
  unfold dEqK0
  rw [e]
  exact h
end DL

set_option Elab.async false
set_option linter.all false
set_option maxRecDepth 100000
set_option maxHeartbeats 4000000
namespace XCM
open PySem PySem.Spec PyProof.Rows L2 GG KX
def refsB (K : PySem.W.Frag) (C : Addr) : Bool := match K.lookup C with
  | some ⟨_, _, .cls cd, _⟩ => (match cd.mro with
    | _ :: bm => PySem.HandSPX.refsVE bm
    | _ => false)
  | _ => false
def oexB (K : PySem.W.Frag) (C : Addr) : Bool := refsB K C && (PySem.W.typeIn K (.ref C) == some (.type "type") && PySem.W.exmOne K (.ref C) (.ref C) == some true)
def chkI (K : PySem.W.Frag) (f : Str) (C fI : Addr) : Bool := PySem.W.typeIn K (.ref fI) == some (.type "function") && (PySem.W.findIn K (.ref C) f == some none && PySem.W.keepIn K (.ref fI))
theorem oex_of {K : PySem.W.Frag} {C : Addr} {newId : String} {tail : List Value} (T : Xc K "ValueError.__new__" tail C) (h : oexB K C = true) : OexC K C ∧ PySem.W.exmOne K (.ref C) (.ref C) = some true := by
  unfold oexB at h
  simp only [Bool.and_eq_true, beq_iff_eq] at h
  obtain ⟨h1, h2, h3⟩ := h
  obtain ⟨nm, q, N, bs, bm, sn, sub, ab, col, dd, k0, k1, k2, k3, k5, hC, _⟩ := T.cls
  refine ⟨⟨⟨nm, q, N, bs, bm, sn, sub, ab, col, dd, k0, k1, k2, k3, k5, hC, ?_⟩, T.sa, T.exC, h2, T.kC⟩, h3⟩
  unfold refsB at h1
  rw [hC] at h1
  exact h1
section
variable {P : Program} {w : World} {K : PySem.W.Frag} {mg : Str → Option Value} {base : Heap}
theorem xc_mk {x f qual : Str} {C fI C0 : Addr} {st : Stmt} {p1 p2 p3 p4 p5 p6 p7 p8 p9 p10 : Pos} {oc kV dc pm cd ct : Value} {od an : Option Addr} {sl : Array (Option Value)} (hx : mg x = some (.ref C)) (h : xcOk K "ValueError.__new__" veTail C = true) (h2 : oexB K C = true) (b : PySem.W.findIn K (.ref C) "__init__" = some (some (.ref fI))) (hI : chkI K f C fI = true)
    (l : K.lookup fI = some ⟨oc, od, .func (PySem.W.fnOf "__init__" qual (defArgs st) (defBody st) (defScope st) .none kV dc pm an cd ct), sl⟩) (c : PySem.W.codeIn K cd qual = true) (mR : mg "RoundCallsError" = some (.ref C0)) (s1 : PySem.W.specialIn K (.ref C0) "__getattribute__" = some (some (.builtin "type.__getattribute__"))) (s2 : PySem.W.readsIn K C0 (.type "type") = true) (s3 : PySem.W.findCls K (.ref C0) (.type "type") "__init__" = some (.val (.builtin "ValueError.__init__")))
    (S : FnScope ["self", f] ["self", f] (defScope st))
    (hb : defBody st = [.Expr (.Call (.Attribute (.Name "RoundCallsError" p1) "__init__" p2) [.Name "self" p3, .Name f p4] [] p5) p6, .Assign [.Attribute (.Name "self" p7) f p8] (.Name f p9) p10])
    (hn : (defScope st).names.lookup ("RoundCallsError" : Str) = some .globalImplicit) (hs : (defScope st).names.lookup ("self" : Str) = some .local) (hf : (defScope st).names.lookup f = some .local) (hd : (f == ("__debug__" : Str)) = false) (hcd : (f == ("__classdict__" : Str)) = false)
    (hc : ∀ env : Env, ∃ pl : Sem Bool, eval (.Call (.Attribute (.Name "RoundCallsError" p1) "__init__" p2) [.Name "self" p3, .Name f p4] [] p5) env = (do
      let ov ← eval (.Name "RoundCallsError" p1) env
      standAt p2.atName
      let (g, first) ← holding [ov] (getMethod ov "__init__" pl)
      callWith p5 g first (backTo p5 (starEach [.Name "self" p3, .Name f p4] env)) (backToKw p5 (keywordEach [] env))))
    (hbi : ∀ us : List Value, us.length = 2 → bindArgs (PySem.W.fnOf "__init__" qual (defArgs st) (defBody st) (defScope st) .none kV dc pm an cd ct) ⟨us, []⟩ = pure ((["self", f] : List Str).zip us)) :
    XC P w K mg base x f "ValueError.__new__" veTail C := by
  unfold chkI at hI
  simp only [Bool.and_eq_true, beq_iff_eq] at hI
  have F := fun_mk (st := st) l c hI.2.2
  have T := EXI.init_VE (P := P) (w := w) (mg := mg) (base := base) (f := f) ways_VE F S hb hn hs hf hd hcd ⟨mR, s1, s2, s3⟩ hc (by rfl)
  have X := xc_of h
  obtain ⟨o1, o2⟩ := oex_of (newId := "ValueError.__new__") X h2
  exact ⟨o1, X, hI.2.1, o2, hx, fI, _, b, hI.1, T, Binds.all hbi⟩
end
end XCM

namespace K58
open PySem
def topS (i : Nat) : Stmt := PySem.Challenge.pw_roundcalls_k58_pressed_ranks.main.body.getD i (.Pass ⟨0, 0, 0, 0⟩)
def c_DOUBLE_BODIES : PyData := .tuple [(.str "and"), (.str "or"), (.str "union"), (.str "least"), (.str "most")]
def c_DOUBLE_CONDITIONS : PyData := .tuple [(.str "both"), (.str "either")]
end K58

set_option Elab.async false
set_option linter.all false
set_option maxRecDepth 100000
set_option maxHeartbeats 4000000
namespace K58
open PySem PySem.Spec PyProof.Rows L2 GG DD PT DL
abbrev s_deck : Stmt := topS 27
abbrev s_draw : Stmt := topS 28
theorem sc_deck : FnScope ["_law_script", "_law_cells", "_law_mixed", "_law_cell"] ["_law_script"] (defScope s_deck) := ⟨rfl, rfl, rfl, by decide +kernel, rfl, by decide +kernel, by decide +kernel⟩
theorem sc_draw : FnScope ["_law_deck_here", "_law_bound", "_law_cell", "_law_number"] ["_law_deck_here", "_law_bound"] (defScope s_draw) := ⟨rfl, rfl, rfl, by decide +kernel, rfl, by decide +kernel, by decide +kernel⟩
section
variable {P : Program} {w : World} {K : PySem.W.Frag} {mg : Str → Option Value} {base : Heap}
theorem ok_deck {f : Addr} {fd : FuncData} (F : L2.Fun K "_law_deck" "_law_deck" s_deck f fd) (m_list : mg "list" = none) : Fg P w K mg base 1 f fd ["_law_script"] (spDeckH K) := by
  refine okg F sc_deck (fun vs H Q h => ?_) (fun cdv A outer s H vs Q hr h => ?_)
  · obtain ⟨a, ns, rfl, _⟩ := h
    rfl
  · obtain ⟨a, ns, rfl, hS, hlen, q⟩ := h
    refine ⟨_, (pss_cons (ps_par (i := 1) (j := 2) (by rfl) sc_deck.nd rfl rfl (by decide) rfl rfl (pa_cons (pe_callTy call_list_of (by rfl) m_list (by decide +kernel) (pa_cons (pe_slice sl_list (pv 0) po_none (po_some pe_int)) pa_nil)) (pa_cons pe_int pa_nil)) (by rfl)) (pss_cons (ps_for PassesOwn.never rfl (pi_list (pv 1)) (pg_name (i := 3) sc_deck.nd rfl (Or.inl rfl)) (pss_one (ps_set (i := 2) sc_deck.nd rfl (Or.inl rfl) (pe_op op_mod (pe_op op_add (pe_op op_add (pe_op op_mul (pv 2) pe_int) (pe_op op_mod (pv 3) pe_int)) pe_int) pe_int)))) (pss_one (ps_ret (pe_lst (pa_cons (pe_revL (pv 1)) (pa_cons (pv 2) (pa_cons pe_int pa_nil)))))))), ?_⟩
    refine ⟨.ref a, rfl, 63, rfl, a, _, rfl, hS, fun p1 n1 => ?_⟩
    refine ⟨p1, _, rfl, .inl (sq upd_same), fun c nc => ?_⟩
    refine ⟨_, _, rfl, ?_⟩
    have hcut : cutV (ns.map V.int) none (some 63) = ns.map V.int := by
      unfold cutV
      rw [show HT.sIx (ns.map V.int).length (ns.map V.int).length (some 63) = min 63 (ns.map V.int).length from HT.sIx_nat _ _ 63, HT.sIx_none, List.drop_zero, Nat.sub_zero]
      exact List.take_of_length_le (by rw [List.length_map]; omega)
    rw [hcut] at nc ⊢
    have s1 : Same H (upd H p1 (.lst (ns.map V.int))) := same_upd n1
    have s2 : Same (upd H p1 (.lst (ns.map V.int))) (upd (upd H p1 (.lst (ns.map V.int))) c (.lst (ns.map V.int))) := same_upd nc
    have ec : (upd (upd H p1 (.lst (ns.map V.int))) c (.lst (ns.map V.int))) c = some (.lst (ns.map V.int)) := upd_same
    generalize hG : upd (upd H p1 (.lst (ns.map V.int))) c (.lst (ns.map V.int)) = G at *
    refine ⟨.ref c, rfl, c, rfl, ⟨_, sq ec⟩, for_list (K := K) (a := c) (xs := ns.map V.int) (fun i σ H' => ∃ (m : Int) (v : Option V), σ = [some (.ref a), some (.ref c), some (.int m), v] ∧ H' = G ∧ 0 ≤ m ∧ m < 2147483587) ⟨31091, none, rfl, rfl, by decide, by decide⟩ ?_ ?_ ?_⟩
    · rintro i σ H' _ ⟨m, v, rfl, rfl, _⟩
      exact sq ec
    · rintro i x σ H' hi ⟨m, v, rfl, rfl, h0, h1⟩
      obtain ⟨z, rfl⟩ : ∃ z, x = V.int z := by
        rw [List.getElem?_map] at hi
        cases e : ns[i]? with
        | none => rw [e] at hi; cases hi
        | some u => rw [e] at hi; exact ⟨u, (Option.some.inj hi).symm⟩
      refine ⟨_, rfl, _, _, rfl, rfl, .inl ⟨by omega, by omega⟩, .int z, rfl, z, 2147483629, rfl, rfl, (by show (0 : Int) < 2147483629; decide), _, _, rfl, rfl, _, _, rfl, rfl, _, _, rfl, rfl, (by show (0 : Int) < 2147483587; decide), ?_⟩
      exact ⟨_, _, rfl, rfl, Int.emod_nonneg _ (by decide), Int.emod_lt_of_pos _ (by decide)⟩
    · rintro σ H' ⟨m, v, rfl, rfl, h0, h1⟩
      refine ⟨.ref c, rfl, c, _, rfl, sq ec, fun l nl => ?_⟩
      refine ⟨_, rfl, (by show 3 ≤ sizeLine; decide), fun p np => ?_⟩
      have nlp : l ≠ p := ne_new upd_same np
      have np' : H' p = none := by rw [upd_ne nlp.symm] at np; exact np
      refine q _ p l (s1.trans (s2.trans ((same_upd nl).trans (same_upd np)))) ⟨⟨m, ns.reverse, upd_same, ?_, h0, by omega, by rw [List.length_reverse]; omega⟩, nlp⟩ (s1.free (s2.free np')) (s1.free (s2.free nl))
      rw [upd_ne nlp, upd_same, List.map_reverse]
theorem ok_drawH {f : Addr} {fd : FuncData} (F : L2.Fun K "_law_draw" "_law_draw" s_draw f fd) : Fg P w K mg base 1 f fd ["_law_deck_here", "_law_bound"] spDrawH := by
  refine okg F sc_draw (fun vs H Q h => ?_) (fun cdv A outer s H vs Q hr h => ?_)
  · obtain ⟨p, l, n, lim, rfl, _⟩ := h
    rfl
  · obtain ⟨p, l, n, lim, rfl, ⟨⟨m, cs, hp, hl, hm0, hm1, hcs⟩, hne⟩, hn, hlim, hlim2, q⟩ := h
    refine ⟨_, (pss_cons (ps_asg (pe_op op_add (pe_ix ix_list (pv 0) pe_int (fun _ _ => rfl)) pe_int) (pg_sub (pv 0) pe_int set_list)) (pss_cons (ps_set (i := 2) sc_draw.nd rfl (Or.inl rfl) (pe_ix ix_list (pv 0) pe_int (fun _ _ => rfl))) (Evl.pss_cut (ps_if (pt_cmpR (op_neD hr.room.units) (pe_ix ix_list (pv 0) pe_int (fun _ _ => rfl)) (pe_lst pa_nil) (nomark _)) (pss_cons (ps_set (i := 2) sc_draw.nd rfl (Or.inl rfl) (pe_bm0 PySem.F.plainAttrs_list PySem.F.slot_list_pop PySem.F.type_list_pop mt_pop (pe_ix ix_list (pv 0) pe_int (fun _ _ => rfl)))) (pss_cons (ps_if (pt_cmpR op_ge (pv 2) (pe_op op_pow pe_int pe_int) (nomark _)) (pss_cons (ps_expr (pe_bm PySem.F.plainAttrs_list PySem.F.slot_list_append PySem.F.type_list_append mt_append (pe_ix ix_list (pv 0) pe_int (fun _ _ => rfl)) (pa_cons (pe_op op_fdivN (pv 2) (pv 1)) pa_nil))) (pss_one (ps_ret (pe_op op_mod (pv 2) (pv 1))))) pss_nil) (pss_one (ps_set (i := 2) sc_draw.nd rfl (Or.inl rfl) (pe_op op_add (pv 2) (pe_ix ix_list (pv 0) pe_int (fun _ _ => rfl))))))) pss_nil) (pss_cons (ps_set (i := 3) sc_draw.nd rfl (Or.inl rfl) (pe_op op_mod (pe_op op_mul (pe_op op_add (pe_op op_add (pe_op op_mod (pv 2) pe_int) (pe_op op_mul (pe_op op_mul pe_int (pe_ix ix_list (pv 0) pe_int (fun _ _ => rfl))) (pe_ix ix_list (pv 0) pe_int (fun _ _ => rfl)))) pe_int) pe_int) pe_int)) (pss_cons (ps_set (i := 3) sc_draw.nd rfl (Or.inl rfl) (pe_op op_mod (pe_op op_add (pe_op op_add (pe_op op_mul (pv 3) (pv 3)) (pe_op op_mul pe_int (pe_ix ix_list (pv 0) pe_int (fun _ _ => rfl)))) pe_int) pe_int)) (pss_one (ps_ret (pe_op op_mod (pe_op op_fdivN (pe_op op_mod (pe_op op_mul (pv 3) pe_int) pe_int) pe_int) (pv 1))))))))), ?_⟩
    refine ⟨.ref p, rfl, p, _, 2, .int (n : Int), rfl, rfl, sq hp, rfl, _, _, rfl, rfl, .ref p, rfl, p, _, 2, 2, rfl, rfl, hp, rfl, ?_⟩
    have hp1 : (upd H p (.lst [.ref l, .int m, .int ((n : Int) + 1)])) p = some (.lst [.ref l, .int m, .int ((n : Int) + 1)]) := upd_same
    have hl1 : (upd H p (.lst [.ref l, .int m, .int ((n : Int) + 1)])) l = some (.lst (cs.map V.int)) := by rw [upd_ne hne]; exact hl
    have b1 : But p l H (upd H p (.lst [.ref l, .int m, .int ((n : Int) + 1)])) := (But.refl p l H).left
    show tSeq _ _ _ _ (upd H p (.lst [.ref l, .int m, .int ((n : Int) + 1)]))
    generalize upd H p (.lst [.ref l, .int m, .int ((n : Int) + 1)]) = H1 at hp1 hl1 b1 ⊢
    refine ⟨.ref p, rfl, p, _, 1, .int m, rfl, rfl, sq hp1, rfl, ?_⟩
    refine ⟨fun σ2 H2 => ∃ (c : Int) (cs2 : List Int), σ2 = [some (.ref p), some (.int lim), some (.int c), none] ∧ H2 p = some (.lst [.ref l, .int m, .int ((n : Int) + 1)]) ∧ H2 l = some (.lst (cs2.map V.int)) ∧ But p l H H2 ∧ cs2.length ≤ 64, ?_, ?_⟩
    · refine ⟨.ref p, rfl, p, _, 0, .ref l, rfl, rfl, sq hp1, rfl, Nat.zero_le _, fun e ne => ?_⟩
      have sE : Same H1 (upd H1 e (.lst [])) := same_upd ne
      have bE : But p l H (upd H1 e (.lst [])) := b1.trans (.of sE)
      have eE : (upd H1 e (.lst [])) e = some (.lst []) := upd_same
      have hp2 := sE _ _ hp1
      have hl2 := sE _ _ hl1
      generalize upd H1 e (.lst []) = G at sE bE eE hp2 hl2 ⊢
      refine ⟨.list (intsD cs), .list [], .lst (sq hl2) (dp_intsD cs), .lst (sq eE) .nil, shaped_ints cs, shaped_ints [], _, rfl, ?_⟩
      rw [eqv_ints_nil]
      cases cs with
      | nil => exact ⟨m, [], rfl, hp2, hl2, bE, Nat.zero_le _⟩
      | cons c0 cs0 =>
        have hlast : ((c0 :: cs0).map V.int)[((c0 :: cs0).map V.int).length - 1]? = some (.int ((c0 :: cs0).getLast (List.cons_ne_nil _ _))) := by
          rw [List.length_map, List.getElem?_map, ← List.getLast?_eq_getElem?, List.getLast?_eq_getLast (List.cons_ne_nil _ _)]
          rfl
        generalize hz : (c0 :: cs0).getLast (List.cons_ne_nil _ _) = z at hlast
        refine ⟨.ref p, rfl, p, _, 0, .ref l, rfl, rfl, sq hp2, rfl, .inl ⟨rfl, _, sq hl2⟩, l, _, _, rfl, rfl, hl2, hlast, ?_⟩
        have hdl : ((c0 :: cs0).map V.int).dropLast = ((c0 :: cs0).dropLast).map V.int := List.map_dropLast.symm
        rw [hdl]
        generalize hcs : (c0 :: cs0).dropLast = cs1
        have hlen1 : cs1.length ≤ 63 := by
          rw [← hcs, List.length_dropLast]
          omega
        have hp3 : (upd G l (.lst (cs1.map V.int))) p = some (.lst [.ref l, .int m, .int ((n : Int) + 1)]) := by rw [upd_ne hne.symm]; exact hp2
        have hl3 : (upd G l (.lst (cs1.map V.int))) l = some (.lst (cs1.map V.int)) := upd_same
        have b3 : But p l H (upd G l (.lst (cs1.map V.int))) := bE.right
        generalize upd G l (.lst (cs1.map V.int)) = G3 at hp3 hl3 b3 ⊢
        refine ⟨_, rfl, _, _, rfl, rfl, (by show (0 : Int) ≤ 18 ∧ (18 : Int) ≤ 1000000 ∧ (10 : Int).natAbs < 2 ^ 64; decide), _, _, rfl, rfl, _, rfl, ite2 (fun _ => ?_) (fun _ => ?_)⟩
        · refine ⟨.ref p, rfl, p, _, 0, .ref l, rfl, rfl, sq hp3, rfl, .inl ⟨rfl, _, sq hl3⟩, _, rfl, _, rfl, _, _, rfl, rfl, ⟨by omega, by omega⟩, l, _, _, rfl, rfl, hl3, (by rw [List.length_map]; exact szl (by omega)), ?_⟩
          refine ⟨_, rfl, _, rfl, _, _, rfl, rfl, by omega, ?_⟩
          refine q _ _ ⟨⟨m, cs1 ++ [z.fdiv lim], ?_, ?_, hm0, hm1, ?_⟩, hne⟩ b3.right (Int.emod_nonneg _ (by omega)) (Int.emod_lt_of_pos _ (by omega))
          · rw [upd_ne hne.symm]
            exact hp3
          · rw [upd_same, List.map_append]
            rfl
          · rw [List.length_append, List.length_singleton]
            omega
        · refine ⟨_, rfl, .ref p, rfl, p, _, 1, .int m, rfl, rfl, sq hp3, rfl, _, _, rfl, rfl, ?_⟩
          exact ⟨_, cs1, rfl, hp3, hl3, b3, by omega⟩
    · rintro σ2 H2 ⟨c, cs2, rfl, hp2, hl2, b2, hc2⟩
      refine ⟨_, rfl, _, _, rfl, rfl, (by show (0 : Int) < 2147483629; decide), .ref p, rfl, p, _, 2, .int ((n : Int) + 1), rfl, rfl, sq hp2, rfl, _, _, rfl, rfl, .inl ⟨by decide, by decide⟩, .ref p, rfl, p, _, 2, .int ((n : Int) + 1), rfl, rfl, sq hp2, rfl, _, _, rfl, rfl, .inl ⟨by omega, by omega⟩, _, _, rfl, rfl, _, _, rfl, rfl, _, _, rfl, rfl, .inr ⟨by decide, by decide⟩, _, _, rfl, rfl, (by show (0 : Int) < 2147483647; decide), ?_⟩
      have hx0 := Int.emod_nonneg ((c % 2147483629 + 86243 * ((n : Int) + 1) * ((n : Int) + 1) + 41) * 40692) (show (2147483647 : Int) ≠ 0 by decide)
      have hx1 := Int.emod_lt_of_pos ((c % 2147483629 + 86243 * ((n : Int) + 1) * ((n : Int) + 1) + 41) * 40692) (show (0 : Int) < 2147483647 by decide)
      show tSeq _ _ _ [some (.ref p), some (.int lim), some (.int c), some (.int ((c % 2147483629 + 86243 * ((n : Int) + 1) * ((n : Int) + 1) + 41) * 40692 % 2147483647))] H2
      generalize (c % 2147483629 + 86243 * ((n : Int) + 1) * ((n : Int) + 1) + 41) * 40692 % 2147483647 = x at hx0 hx1 ⊢
      refine ⟨_, rfl, _, rfl, _, _, rfl, rfl, .inl ⟨by omega, by omega⟩, .ref p, rfl, p, _, 2, .int ((n : Int) + 1), rfl, rfl, sq hp2, rfl, _, _, rfl, rfl, .inl ⟨by decide, by decide⟩, _, _, rfl, rfl, _, _, rfl, rfl, _, _, rfl, rfl, (by show (0 : Int) < 2147483587; decide), ?_⟩
      have hy0 := Int.emod_nonneg (x * x + 69621 * ((n : Int) + 1) + 27) (show (2147483587 : Int) ≠ 0 by decide)
      have hy1 := Int.emod_lt_of_pos (x * x + 69621 * ((n : Int) + 1) + 27) (show (0 : Int) < 2147483587 by decide)
      refine ⟨_, rfl, _, _, rfl, rfl, .inr ⟨by decide, by decide⟩, _, _, rfl, rfl, (by show (0 : Int) < 2147483563; decide), _, _, rfl, rfl, ⟨by decide, by decide⟩, _, rfl, _, _, rfl, rfl, by omega, ?_⟩
      exact q H2 _ ⟨⟨m, cs2, hp2, hl2, hm0, hm1, hc2⟩, hne⟩ b2 (Int.emod_nonneg _ (by omega)) (Int.emod_lt_of_pos _ (by omega))
theorem ok_draw {f : Addr} {fd : FuncData} (F : L2.Fun K "_law_draw" "_law_draw" s_draw f fd) : Fg P w K mg base 1 f fd ["_law_deck_here", "_law_bound"] (spOf K 2 F_draw) := weak (ok_drawH F) fun _ _ _ h => draw_of h
end
end K58


set_option Elab.async false
set_option linter.all false
set_option maxRecDepth 100000
set_option maxHeartbeats 4000000
namespace K58
open PySem PySem.Spec PyProof.Rows L2 GG DD PT DL GXR
abbrev s_field_counts : Stmt := topS 2
theorem sc_field_counts : FnScope ["signature"] ["signature"] (defScope s_field_counts) := ⟨rfl, rfl, rfl, by decide +kernel, rfl, by decide +kernel, by decide +kernel⟩
def dB_field_counts  : DS := (dRet (dNewD (dSplat (dNewD (dDictU (dVar 0))) (.inr "void") 0)))
theorem ok_field_counts {P : Program} {w : World} {K : PySem.W.Frag} {mg : Str → Option Value} {base : Heap} {f : Addr} {fd : FuncData} {k : Nat}  (F : L2.Fun K "field_counts" "field_counts" s_field_counts f fd)
    (m_dict : mg "dict" = none) {tv_VOID_TAG : Tok} (g_VOID_TAG : mg "VOID_TAG" = some (.str "void" tv_VOID_TAG))  :
    Fg P w K mg base (k + 1) f fd ["signature"] (spOf K 1 (bodyD (dB_field_counts ) 0)) :=
  okd (m := 1) rfl F sc_field_counts fun cdv A outer s H hr W B H0 G0 Z0 => ⟨_, (pss_one (ps_ret (DM.pe_splat (pe_callTy (call_dictT rfl) (by rfl) m_dict (by decide +kernel) (pa_cons (pv 0) pa_nil)) (pe_glob (v := .str "void") (by rfl) g_VOID_TAG ⟨_, rfl⟩) pe_int))),
    (rs_ret (re_newD (rd_splat (k := .inr "void") (i := 0) (re_newD (rd_dictU (re_var (i := 0)))))))⟩
abbrev s_pressed : Stmt := topS 5
theorem sc_pressed : FnScope ["ranks", "found", "last", "rank"] ["ranks"] (defScope s_pressed) := ⟨rfl, rfl, rfl, by decide +kernel, rfl, by decide +kernel, by decide +kernel⟩
def dB_pressed  : DS := (dSeq (dPar0E 1 2 (dC .none)) (dSeq (dFor (dAsL (dNewL (dSortSetI (dVar 0)))) (gdN 3) (dSeq (dIf (dB (dOp (oIsN false) (dVar 2) (dC .none))) (dSet (dOp (oI (fun _ j => 0 < j) fun i j => i % j) (dVar 3) (dC (.int 2))) 2) (dIf (dB (dOp (oEq true) (dOp (oI (fun _ j => 0 < j) fun i j => i % j) (dVar 3) (dC (.int 2))) (dOp (oI (fun _ j => 0 < j) fun i j => i % j) (dVar 2) (dC (.int 2))))) (dAugI (fun i j => i + j) 2 (dC (.int 1))) dNext)) (dDPut 1 (dVar 3) (dVar 2)))) (dFreeze 1 (dRet (dVar 1)))))
theorem ok_pressed {P : Program} {w : World} {K : PySem.W.Frag} {mg : Str → Option Value} {base : Heap} {f : Addr} {fd : FuncData} {k : Nat}  (F : L2.Fun K "pressed" "pressed" s_pressed f fd)
    (m_set : mg "set" = none) (m_sorted : mg "sorted" = none)  :
    Fg P w K mg base (k + 1) f fd ["ranks"] (spOf K 1 (bodyD (dB_pressed ) 3)) :=
  okd (m := 1) rfl F sc_pressed fun cdv A outer s H hr W B H0 G0 Z0 => ⟨_, (pss_cons (ps_par (i := 1) (j := 2) (by rfl) sc_pressed.nd rfl rfl (by decide) rfl rfl (pa_cons pe_dnewK (pa_cons pe_non pa_nil)) (by rfl)) (pss_cons (ps_for PassesOwn.never rfl (pi_list (pe_callB (SW.cr_sortI rfl (hu_le hr.room (by decide))) (by rfl) m_sorted (by decide +kernel) (pa_cons (pe_callTy (SW.cr_setI rfl) (by rfl) m_set (by decide +kernel) (pa_cons (pv 0) pa_nil)) pa_nil))) (pg_name (i := 3) sc_pressed.nd rfl (Or.inl rfl)) (pss_cons (ps_if (pt_cmpR op_isN (pv 2) pe_non (nomark _)) (pss_one (ps_set (i := 2) sc_pressed.nd rfl (Or.inl rfl) (pe_op op_mod (pv 3) pe_int))) (pss_one (ps_if (pt_cmpR op_ne (pe_op op_mod (pv 3) pe_int) (pe_op op_mod (pv 2) pe_int) (nomark _)) (pss_one (ps_aug (i := 2) sc_pressed.nd rfl (.inl rfl) pe_int ip_add)) pss_nil))) (pss_one (ps_dput (hu_of hr.room) (pv 1) (pv 3) (pv 2) (by rfl))))) (pss_one (ps_ret (pv 1))))),
    (rs_seq (rs_par0E (i := 1) (j := 2) re_non) (rs_seq (rs_for (ri_list (re_new (rf_sortSetI (re_var (i := 0))))) (rg_name (i := 3)) (rs_seq (rs_if (rt_test (re_op ro_isN (re_var (i := 2)) re_non)) (rs_set (i := 2) (re_op ro_I (re_var (i := 3)) re_int)) (rs_if (rt_test (re_op ro_ne (re_op ro_I (re_var (i := 3)) re_int) (re_op ro_I (re_var (i := 2)) re_int))) (rs_augI (i := 2) re_int) rs_next)) (rs_dPut (i := 1) (re_var (i := 3)) (re_var (i := 2))))) (rs_freeze (i := 1) (rs_ret (re_var (i := 1))))))⟩
abbrev s_press_ranks : Stmt := topS 6
theorem sc_press_ranks : FnScope ["program", "signature", "groups", "found", "sort", "functions", "numbers", "name", "params", "rank", "body"] ["program"] (defScope s_press_ranks) := ⟨rfl, rfl, rfl, by decide +kernel, rfl, by decide +kernel, by decide +kernel⟩
def dB_press_ranks (F_pressed : FD) : DS := (dSeq (dAsg (dVar 0) (gdTup 2 (gdCons (gdN 1) (gdCons (gdN 2) gdNil)))) (dSeq (dSetO (dLst dNil) 3) (dSeq (dFor (dAsU (dVar 2)) (gdTup 2 (gdCons (gdN 4) (gdCons (gdN 5) gdNil))) (dSeq (dIf (dB (dOp (oEq false) (dVar 4) (dC (.str "test")))) (dSeq (dSet (dCall 1 F_pressed (xCons (dNewL (dComp (dAsU (dVar 5)) (gdTup 4 (gdCons (gdN 7) (gdCons (gdN 8) (gdCons (gdN 9) (gdCons (gdN 10) gdNil))))) dYes (dVar 9) [7, 8, 9, 10])) xNil)) 6) (dSet (dTupOf (dComp (dAsU (dVar 5)) (gdTup 4 (gdCons (gdN 7) (gdCons (gdN 8) (gdCons (gdN 9) (gdCons (gdN 10) gdNil))))) dYes (dTup (dCons (dVar 7) (dCons (dVar 8) (dCons (dDGet 6 (dVar 9)) (dCons (dVar 10) dNil))))) [7, 8, 9, 10])) 5)) dNext) (dApp 3 (dTup (dCons (dVar 4) (dCons (dVar 5) dNil)))))) (dRet (dTup (dCons (dVar 1) (dCons (dTupOf (dListVar 3)) dNil)))))))
theorem ok_press_ranks {P : Program} {w : World} {K : PySem.W.Frag} {mg : Str → Option Value} {base : Heap} {f : Addr} {fd : FuncData} {k : Nat} {F_pressed : FD} (F : L2.Fun K "press_ranks" "press_ranks" s_press_ranks f fd)
    {k0 : Nat} (D_pressed : Df P w K mg base k0 "pressed" ["ranks"] (spOf K 1 F_pressed)) (m_tuple : mg "tuple" = none) {tv_TEST_programs : Tok} (g_TEST_programs : mg "TEST_programs" = some (.str "test" tv_TEST_programs)) (h_k0 : k0 ≤ k) :
    Fg P w K mg base (k + 1) f fd ["program"] (spOf K 1 (bodyD (dB_press_ranks F_pressed) 10)) :=
  okd (m := 1) rfl F sc_press_ranks fun cdv A outer s H hr W B H0 G0 Z0 => ⟨_, (pss_cons (ps_asg (pv 0) (pg_tup rfl (pgs_cons (pg_name (i := 1) sc_press_ranks.nd rfl (Or.inl rfl)) (pgs_cons (pg_name (i := 2) sc_press_ranks.nd rfl (Or.inl rfl)) pgs_nil)))) (pss_cons (ps_set (i := 3) sc_press_ranks.nd rfl (Or.inl rfl) (pe_lst pa_nil)) (pss_cons (ps_for PassesOwn.never rfl (pi_tup (pv 2)) (pg_tup rfl (pgs_cons (pg_name (i := 4) sc_press_ranks.nd rfl (Or.inl rfl)) (pgs_cons (pg_name (i := 5) sc_press_ranks.nd rfl (Or.inl rfl)) pgs_nil))) (pss_cons (ps_if (pt_cmpR op_eq (pv 4) (pe_glob (v := .str "test") (by rfl) g_TEST_programs ⟨_, rfl⟩) (nomark _)) (pss_cons (ps_set (i := 6) sc_press_ranks.nd rfl (Or.inr rfl) (dcall D_pressed (hr.mono (h_k0)) (by rfl) (pa_cons (pe_lc (own := [("name", 7), ("params", 8), ("rank", 9), ("body", 10)]) (g := _) rfl sc_press_ranks.nd (pi_tup (pv 5)) (blkOk_by (own := [("name", 7), ("params", 8), ("rank", 9), ("body", 10)]) (N := ["program", "signature", "groups", "found", "sort", "functions", "numbers", "name", "params", "rank", "body"]) (sc := defScope s_press_ranks) (by decide +kernel)) (fun _ _ _ _ _ => (pg_tup rfl (pgs_cons (pg_name (i := 7) sc_press_ranks.nd rfl (Or.inl rfl)) (pgs_cons (pg_name (i := 8) sc_press_ranks.nd rfl (Or.inl rfl)) (pgs_cons (pg_name (i := 9) sc_press_ranks.nd rfl (Or.inl rfl)) (pgs_cons (pg_name (i := 10) sc_press_ranks.nd rfl (Or.inl rfl)) pgs_nil)))))) (fun _ _ _ _ _ => pts_nil) (fun _ _ _ _ _ => (pv 9))) pa_nil))) (pss_one (ps_set (i := 5) sc_press_ranks.nd rfl (Or.inl rfl) (pe_callTy call_tuple_ofP (by rfl) m_tuple (by decide +kernel) (pa_cons (pe_lc (own := [("name", 7), ("params", 8), ("rank", 9), ("body", 10)]) (g := _) rfl sc_press_ranks.nd (pi_tup (pv 5)) (blkOk_by (own := [("name", 7), ("params", 8), ("rank", 9), ("body", 10)]) (N := ["program", "signature", "groups", "found", "sort", "functions", "numbers", "name", "params", "rank", "body"]) (sc := defScope s_press_ranks) (by decide +kernel)) (fun _ _ _ _ _ => (pg_tup rfl (pgs_cons (pg_name (i := 7) sc_press_ranks.nd rfl (Or.inl rfl)) (pgs_cons (pg_name (i := 8) sc_press_ranks.nd rfl (Or.inl rfl)) (pgs_cons (pg_name (i := 9) sc_press_ranks.nd rfl (Or.inl rfl)) (pgs_cons (pg_name (i := 10) sc_press_ranks.nd rfl (Or.inl rfl)) pgs_nil)))))) (fun _ _ _ _ _ => pts_nil) (fun _ _ _ _ _ => (pe_tupP (pa_cons (pv 7) (pa_cons (pv 8) (pa_cons (pe_dget (hu_of hr.room) (pv 6) (pv 9) (fun _ _ => rfl)) (pa_cons (pv 10) pa_nil))))))) pa_nil))))) pss_nil) (pss_one (ps_expr (pe_bm PySem.F.plainAttrs_list PySem.F.slot_list_append PySem.F.type_list_append mt_append (pv 3) (pa_cons (pe_tupP (pa_cons (pv 4) (pa_cons (pv 5) pa_nil))) pa_nil)))))) (pss_one (ps_ret (pe_tupP (pa_cons (pv 1) (pa_cons (pe_callTy call_tuple_ofP (by rfl) m_tuple (by decide +kernel) (pa_cons (pv 3) pa_nil)) pa_nil)))))))),
    (rs_seq (rs_asg (re_var (i := 0)) (rg_tup (rgs_cons (rg_name (i := 1)) (rgs_cons (rg_name (i := 2)) rgs_nil)))) (rs_seq (rs_setO (i := 3) (rf_lst ra_nil)) (rs_seq (rs_for (ri_tup (re_var (i := 2))) (rg_tup (rgs_cons (rg_name (i := 4)) (rgs_cons (rg_name (i := 5)) rgs_nil))) (rs_seq (rs_if (rt_test (re_op ro_eq (re_var (i := 4)) re_str)) (rs_seq (rs_set (i := 6) (re_call (rx_cons (re_new (rf_comp (vs := [7, 8, 9, 10]) (ri_tup (re_var (i := 5))) (rgv_tup (rgvs_cons (rgv_name (i := 7) (by decide)) (rgvs_cons (rgv_name (i := 8) (by decide)) (rgvs_cons (rgv_name (i := 9) (by decide)) (rgvs_cons (rgv_name (i := 10) (by decide)) rgvs_nil))))) (gw_tup (gws_cons (gw_name (i := 7) (by decide)) (gws_cons (gw_name (i := 8) (by decide)) (gws_cons (gw_name (i := 9) (by decide)) (gws_cons (gw_name (i := 10) (by decide)) gws_nil))))) rt_yes (re_var (i := 9)))) rx_nil))) (rs_set (i := 5) (re_tupL (rl_new (rf_comp (vs := [7, 8, 9, 10]) (ri_tup (re_var (i := 5))) (rgv_tup (rgvs_cons (rgv_name (i := 7) (by decide)) (rgvs_cons (rgv_name (i := 8) (by decide)) (rgvs_cons (rgv_name (i := 9) (by decide)) (rgvs_cons (rgv_name (i := 10) (by decide)) rgvs_nil))))) (gw_tup (gws_cons (gw_name (i := 7) (by decide)) (gws_cons (gw_name (i := 8) (by decide)) (gws_cons (gw_name (i := 9) (by decide)) (gws_cons (gw_name (i := 10) (by decide)) gws_nil))))) rt_yes (re_tup (ra_cons (re_var (i := 7)) (ra_cons (re_var (i := 8)) (ra_cons (re_dGet (i := 6) (re_var (i := 9))) (ra_cons (re_var (i := 10)) ra_nil)))))))))) rs_next) (rs_app (i := 3) (re_tup (ra_cons (re_var (i := 4)) (ra_cons (re_var (i := 5)) ra_nil)))))) (rs_ret (re_tup (ra_cons (re_var (i := 1)) (ra_cons (re_tupL (rl_var (i := 3))) ra_nil)))))))⟩
abbrev s_require_name : Stmt := topS 19
theorem sc_require_name : FnScope ["condition", "path"] ["condition", "path"] (defScope s_require_name) := ⟨rfl, rfl, rfl, by decide +kernel, rfl, by decide +kernel, by decide +kernel⟩
def dB_require_name (cUnknownName : Addr)  (PX : PXt) : DS := (dIf (dNot (dB (dVar 0))) (dRaise PX cUnknownName "path" (dVar 1)) dNext)
theorem ok_require_name {cUnknownName : Addr} {P : Program} {w : World} {K : PySem.W.Frag} {mg : Str → Option Value} {base : Heap} {f : Addr} {fd : FuncData} {k : Nat}  (F : L2.Fun K "require_name" "require_name" s_require_name f fd)
    (T_UnknownName : XC P w K mg base "UnknownName" "path" "ValueError.__new__" KX.veTail cUnknownName) (ge2 : 2 ≤ k)  :
    Fgx P w K mg base (k + 1) f fd ["condition", "path"] (spX K 2 (bodyX (dB_require_name cUnknownName ) 0)) :=
  okdX (m := 2) rfl F sc_require_name fun cdv A outer s H E hr W B H0 G0 Z0 PX xo => ⟨_, (pss_one (ps_if (pt_not (pt_val (pv 0))) (pss_one (ps_raisec rfl (takes_of rfl rfl rfl rfl) T_UnknownName (hr.mono (by omega)) (by rfl) (pa_cons (pv 1) pa_nil))) pss_nil)),
    (rs_if (rt_not (rt_val (re_var (i := 0)))) (rs_raise T_UnknownName.xc T_UnknownName.nF xo (re_var (i := 1))) rs_next)⟩
abbrev s_require_tag : Stmt := topS 20
theorem sc_require_tag : FnScope ["condition", "path"] ["condition", "path"] (defScope s_require_tag) := ⟨rfl, rfl, rfl, by decide +kernel, rfl, by decide +kernel, by decide +kernel⟩
def dB_require_tag (cUnknownTag : Addr)  (PX : PXt) : DS := (dIf (dNot (dB (dVar 0))) (dRaise PX cUnknownTag "path" (dVar 1)) dNext)
theorem ok_require_tag {cUnknownTag : Addr} {P : Program} {w : World} {K : PySem.W.Frag} {mg : Str → Option Value} {base : Heap} {f : Addr} {fd : FuncData} {k : Nat}  (F : L2.Fun K "require_tag" "require_tag" s_require_tag f fd)
    (T_UnknownTag : XC P w K mg base "UnknownTag" "path" "ValueError.__new__" KX.veTail cUnknownTag) (ge2 : 2 ≤ k)  :
    Fgx P w K mg base (k + 1) f fd ["condition", "path"] (spX K 2 (bodyX (dB_require_tag cUnknownTag ) 0)) :=
  okdX (m := 2) rfl F sc_require_tag fun cdv A outer s H E hr W B H0 G0 Z0 PX xo => ⟨_, (pss_one (ps_if (pt_not (pt_val (pv 0))) (pss_one (ps_raisec rfl (takes_of rfl rfl rfl rfl) T_UnknownTag (hr.mono (by omega)) (by rfl) (pa_cons (pv 1) pa_nil))) pss_nil)),
    (rs_if (rt_not (rt_val (re_var (i := 0)))) (rs_raise T_UnknownTag.xc T_UnknownTag.nF xo (re_var (i := 1))) rs_next)⟩
abbrev s_require_count : Stmt := topS 21
theorem sc_require_count : FnScope ["condition", "path"] ["condition", "path"] (defScope s_require_count) := ⟨rfl, rfl, rfl, by decide +kernel, rfl, by decide +kernel, by decide +kernel⟩
def dB_require_count (cWrongCount : Addr)  (PX : PXt) : DS := (dIf (dNot (dB (dVar 0))) (dRaise PX cWrongCount "path" (dVar 1)) dNext)
theorem ok_require_count {cWrongCount : Addr} {P : Program} {w : World} {K : PySem.W.Frag} {mg : Str → Option Value} {base : Heap} {f : Addr} {fd : FuncData} {k : Nat}  (F : L2.Fun K "require_count" "require_count" s_require_count f fd)
    (T_WrongCount : XC P w K mg base "WrongCount" "path" "ValueError.__new__" KX.veTail cWrongCount) (ge2 : 2 ≤ k)  :
    Fgx P w K mg base (k + 1) f fd ["condition", "path"] (spX K 2 (bodyX (dB_require_count cWrongCount ) 0)) :=
  okdX (m := 2) rfl F sc_require_count fun cdv A outer s H E hr W B H0 G0 Z0 PX xo => ⟨_, (pss_one (ps_if (pt_not (pt_val (pv 0))) (pss_one (ps_raisec rfl (takes_of rfl rfl rfl rfl) T_WrongCount (hr.mono (by omega)) (by rfl) (pa_cons (pv 1) pa_nil))) pss_nil)),
    (rs_if (rt_not (rt_val (re_var (i := 0)))) (rs_raise T_WrongCount.xc T_WrongCount.nF xo (re_var (i := 1))) rs_next)⟩
abbrev s_require_sort : Stmt := topS 22
theorem sc_require_sort : FnScope ["condition", "path"] ["condition", "path"] (defScope s_require_sort) := ⟨rfl, rfl, rfl, by decide +kernel, rfl, by decide +kernel, by decide +kernel⟩
def dB_require_sort (cWrongSort : Addr)  (PX : PXt) : DS := (dIf (dNot (dB (dVar 0))) (dRaise PX cWrongSort "path" (dVar 1)) dNext)
theorem ok_require_sort {cWrongSort : Addr} {P : Program} {w : World} {K : PySem.W.Frag} {mg : Str → Option Value} {base : Heap} {f : Addr} {fd : FuncData} {k : Nat}  (F : L2.Fun K "require_sort" "require_sort" s_require_sort f fd)
    (T_WrongSort : XC P w K mg base "WrongSort" "path" "ValueError.__new__" KX.veTail cWrongSort) (ge2 : 2 ≤ k)  :
    Fgx P w K mg base (k + 1) f fd ["condition", "path"] (spX K 2 (bodyX (dB_require_sort cWrongSort ) 0)) :=
  okdX (m := 2) rfl F sc_require_sort fun cdv A outer s H E hr W B H0 G0 Z0 PX xo => ⟨_, (pss_one (ps_if (pt_not (pt_val (pv 0))) (pss_one (ps_raisec rfl (takes_of rfl rfl rfl rfl) T_WrongSort (hr.mono (by omega)) (by rfl) (pa_cons (pv 1) pa_nil))) pss_nil)),
    (rs_if (rt_not (rt_val (re_var (i := 0)))) (rs_raise T_WrongSort.xc T_WrongSort.nF xo (re_var (i := 1))) rs_next)⟩
abbrev s_require_place : Stmt := topS 23
theorem sc_require_place : FnScope ["condition", "path"] ["condition", "path"] (defScope s_require_place) := ⟨rfl, rfl, rfl, by decide +kernel, rfl, by decide +kernel, by decide +kernel⟩
def dB_require_place (cWrongPlace : Addr)  (PX : PXt) : DS := (dIf (dNot (dB (dVar 0))) (dRaise PX cWrongPlace "path" (dVar 1)) dNext)
theorem ok_require_place {cWrongPlace : Addr} {P : Program} {w : World} {K : PySem.W.Frag} {mg : Str → Option Value} {base : Heap} {f : Addr} {fd : FuncData} {k : Nat}  (F : L2.Fun K "require_place" "require_place" s_require_place f fd)
    (T_WrongPlace : XC P w K mg base "WrongPlace" "path" "ValueError.__new__" KX.veTail cWrongPlace) (ge2 : 2 ≤ k)  :
    Fgx P w K mg base (k + 1) f fd ["condition", "path"] (spX K 2 (bodyX (dB_require_place cWrongPlace ) 0)) :=
  okdX (m := 2) rfl F sc_require_place fun cdv A outer s H E hr W B H0 G0 Z0 PX xo => ⟨_, (pss_one (ps_if (pt_not (pt_val (pv 0))) (pss_one (ps_raisec rfl (takes_of rfl rfl rfl rfl) T_WrongPlace (hr.mono (by omega)) (by rfl) (pa_cons (pv 1) pa_nil))) pss_nil)),
    (rs_if (rt_not (rt_val (re_var (i := 0)))) (rs_raise T_WrongPlace.xc T_WrongPlace.nF xo (re_var (i := 1))) rs_next)⟩
end K58


set_option Elab.async false
set_option linter.all false
set_option maxRecDepth 100000
set_option maxHeartbeats 4000000
namespace K58
open PySem PySem.Spec PyProof.Rows L2 GG DD PT DL GXR
abbrev s_FunctionChecker___init__ : Stmt := inClass (topS 24) 0
theorem sc_FunctionChecker___init__ : FnScope ["self", "counts", "functions", "group_number", "sort"] ["self", "counts", "functions", "group_number", "sort"] (defScope s_FunctionChecker___init__) := ⟨rfl, rfl, rfl, by decide +kernel, rfl, by decide +kernel, by decide +kernel⟩
def dB_FunctionChecker___init__ (C_FunctionChecker : Addr)  (PX : PXt) : DS := (dSeq (dFPut C_FunctionChecker "counts_by_tag" (vVar 0) (vD (dVar 1))) (dSeq (dFPut C_FunctionChecker "known_functions" (vVar 0) (vVar 2)) (dSeq (dFPut C_FunctionChecker "own_group" (vVar 0) (vD (dVar 3))) (dFPut C_FunctionChecker "own_sort" (vVar 0) (vD (dVar 4))))))
theorem ok_FunctionChecker___init__ {C_FunctionChecker : Addr} {P : Program} {w : World} {K : PySem.W.Frag} {mg : Str → Option Value} {base : Heap} {f : Addr} {fd : FuncData} {k : Nat}  (F : L2.Fun K "__init__" "FunctionChecker.__init__" s_FunctionChecker___init__ f fd)
    (cl_FunctionChecker : Cls K C_FunctionChecker) (na_FunctionChecker_counts_by_tag : NoAttr K C_FunctionChecker "counts_by_tag") (na_FunctionChecker_known_functions : NoAttr K C_FunctionChecker "known_functions") (na_FunctionChecker_own_group : NoAttr K C_FunctionChecker "own_group") (na_FunctionChecker_own_sort : NoAttr K C_FunctionChecker "own_sort")  :
    Fgx P w K mg base (k + 1) f fd ["self", "counts", "functions", "group_number", "sort"] (spO K 5 (bodyO (dB_FunctionChecker___init__ C_FunctionChecker ) 0)) :=
  okdOX (m := 5) rfl F sc_FunctionChecker___init__ fun cdv A outer s H E hr W B H0 G0 Z0 PX xo => ⟨_, (pss_cons (ps_fld (pv 0) (pv 1) (by rfl)) (pss_cons (ps_fld (pv 0) (pv 2) (by rfl)) (pss_cons (ps_fld (pv 0) (pv 3) (by rfl)) (pss_one (ps_fld (pv 0) (pv 4) (by rfl)))))),
    (rs_seq (rs_fPut cl_FunctionChecker na_FunctionChecker_counts_by_tag (rv_d (re_var (i := 1))) (rv_var (i := 0))) (rs_seq (rs_fPut cl_FunctionChecker na_FunctionChecker_known_functions (rv_var (i := 2)) (rv_var (i := 0))) (rs_seq (rs_fPut cl_FunctionChecker na_FunctionChecker_own_group (rv_d (re_var (i := 3))) (rv_var (i := 0))) (rs_fPut cl_FunctionChecker na_FunctionChecker_own_sort (rv_d (re_var (i := 4))) (rv_var (i := 0))))))⟩
abbrev s_FunctionChecker_check_function : Stmt := inClass (topS 24) 1
theorem sc_FunctionChecker_check_function : FnScope ["self", "part", "path", "sort", "word", "name", "arguments", "group_number", "found_sort", "param_count"] ["self", "part", "path", "sort"] (defScope s_FunctionChecker_check_function) := ⟨rfl, rfl, rfl, by decide +kernel, rfl, by decide +kernel, by decide +kernel⟩
def dB_FunctionChecker_check_function (C_FunctionChecker : Addr) (F_require_name : FDX) (F_require_count : FDX) (F_require_sort : FDX) (PX : PXt) : DS := (dSeq (dAsg (dVar 1) (gdTup 3 (gdCons (gdN 4) (gdCons (gdN 5) (gdCons (gdN 6) gdNil))))) (dSeq (dDrop (dCallX PX 2 F_require_name (xCons (dOIn false (dVar 5) (vFld C_FunctionChecker "known_functions" (vVar 0))) (xCons (dVar 2) xNil)))) (dSeq (dAsg (dOfV (vDGet (vFld C_FunctionChecker "known_functions" (vVar 0)) (dVar 5))) (gdTup 3 (gdCons (gdN 7) (gdCons (gdN 8) (gdCons (gdN 9) gdNil))))) (dSeq (dDrop (dCallX PX 2 F_require_count (xCons (dOp (oEq false) (dLenL (dAsU (dVar 6))) (dVar 9)) (xCons (dVar 2) xNil)))) (dSeq (dDrop (dCallX PX 2 F_require_sort (xCons (dOp (oEq false) (dVar 8) (dVar 3)) (xCons (dVar 2) xNil)))) (dRet (dOp (oEq false) (dVar 7) (dOfV (vFld C_FunctionChecker "own_group" (vVar 0))))))))))
theorem ok_FunctionChecker_check_function {C_FunctionChecker : Addr} {P : Program} {w : World} {K : PySem.W.Frag} {mg : Str → Option Value} {base : Heap} {f : Addr} {fd : FuncData} {k : Nat} {F_require_name : FDX} {F_require_count : FDX} {F_require_sort : FDX} (F : L2.Fun K "check_function" "FunctionChecker.check_function" s_FunctionChecker_check_function f fd)
    {k0 : Nat} {k1 : Nat} {k2 : Nat} (cl_FunctionChecker : Cls K C_FunctionChecker) (na_FunctionChecker_known_functions : NoAttr K C_FunctionChecker "known_functions") (na_FunctionChecker_own_group : NoAttr K C_FunctionChecker "own_group") (D_require_name : DfX P w K mg base k0 "require_name" ["condition", "path"] (spX K 2 F_require_name)) (D_require_count : DfX P w K mg base k1 "require_count" ["condition", "path"] (spX K 2 F_require_count)) (D_require_sort : DfX P w K mg base k2 "require_sort" ["condition", "path"] (spX K 2 F_require_sort)) (m_len : mg "len" = none) (h_k0 : k0 ≤ k) (h_k1 : k1 ≤ k) (h_k2 : k2 ≤ k) :
    Fgx P w K mg base (k + 1) f fd ["self", "part", "path", "sort"] (spO K 4 (bodyO (dB_FunctionChecker_check_function C_FunctionChecker F_require_name F_require_count F_require_sort) 6)) :=
  okdOX (m := 4) rfl F sc_FunctionChecker_check_function fun cdv A outer s H E hr W B H0 G0 Z0 PX xo => ⟨_, (pss_cons (ps_asg (pv 1) (pg_tup rfl (pgs_cons (pg_name (i := 4) sc_FunctionChecker_check_function.nd rfl (Or.inl rfl)) (pgs_cons (pg_name (i := 5) sc_FunctionChecker_check_function.nd rfl (Or.inl rfl)) (pgs_cons (pg_name (i := 6) sc_FunctionChecker_check_function.nd rfl (Or.inl rfl)) pgs_nil))))) (pss_cons (ps_expr (dcallx (takes_of rfl rfl rfl rfl) D_require_name (hr.mono (h_k0)) (by rfl) (pa_cons (pe_cmp (pc_din (hu_of hr.room) (pv 5) (pe_fld (pv 0) (by rfl))) (by rfl)) (pa_cons (pv 2) pa_nil)))) (pss_cons (ps_asg (pe_dget (hu_of hr.room) (pe_fld (pv 0) (by rfl)) (pv 5) (fun _ _ => rfl)) (pg_tup rfl (pgs_cons (pg_name (i := 7) sc_FunctionChecker_check_function.nd rfl (Or.inl rfl)) (pgs_cons (pg_name (i := 8) sc_FunctionChecker_check_function.nd rfl (Or.inl rfl)) (pgs_cons (pg_name (i := 9) sc_FunctionChecker_check_function.nd rfl (Or.inl rfl)) pgs_nil))))) (pss_cons (ps_expr (dcallx (takes_of rfl rfl rfl rfl) D_require_count (hr.mono (h_k1)) (by rfl) (pa_cons (pe_cmpR op_eq (pe_callB call_len_seq (by rfl) m_len (by decide +kernel) (pa_cons (pv 6) pa_nil)) (pv 9) (nomark _)) (pa_cons (pv 2) pa_nil)))) (pss_cons (ps_expr (dcallx (takes_of rfl rfl rfl rfl) D_require_sort (hr.mono (h_k2)) (by rfl) (pa_cons (pe_cmpR op_eq (pv 8) (pv 3) (nomark _)) (pa_cons (pv 2) pa_nil)))) (pss_one (ps_ret (pe_cmpR op_eq (pv 7) (pe_fld (pv 0) (by rfl)) (nomark _))))))))),
    (rs_seq (rs_asg (re_var (i := 1)) (rg_tup (rgs_cons (rg_name (i := 4)) (rgs_cons (rg_name (i := 5)) (rgs_cons (rg_name (i := 6)) rgs_nil))))) (rs_seq (rs_drop (re_callX xo (rx_cons (re_oIn (re_var (i := 5)) (rv_fld cl_FunctionChecker na_FunctionChecker_known_functions (rv_var (i := 0)))) (rx_cons (re_var (i := 2)) rx_nil)))) (rs_seq (rs_asg (re_ofV (rv_dGet (rv_fld cl_FunctionChecker na_FunctionChecker_known_functions (rv_var (i := 0))) (re_var (i := 5)))) (rg_tup (rgs_cons (rg_name (i := 7)) (rgs_cons (rg_name (i := 8)) (rgs_cons (rg_name (i := 9)) rgs_nil))))) (rs_seq (rs_drop (re_callX xo (rx_cons (re_op ro_eq (re_lenU (ru_of (re_var (i := 6)))) (re_var (i := 9))) (rx_cons (re_var (i := 2)) rx_nil)))) (rs_seq (rs_drop (re_callX xo (rx_cons (re_op ro_eq (re_var (i := 8)) (re_var (i := 3))) (rx_cons (re_var (i := 2)) rx_nil)))) (rs_ret (re_op ro_eq (re_var (i := 7)) (re_ofV (rv_fld cl_FunctionChecker na_FunctionChecker_own_group (rv_var (i := 0)))))))))))⟩
abbrev s_FunctionChecker_check_own_arguments : Stmt := inClass (topS 24) 2
theorem sc_FunctionChecker_check_own_arguments : FnScope ["self", "part", "path", "argument"] ["self", "part", "path"] (defScope s_FunctionChecker_check_own_arguments) := ⟨rfl, rfl, rfl, by decide +kernel, rfl, by decide +kernel, by decide +kernel⟩
def dB_FunctionChecker_check_own_arguments (F_require_place : FDX) (PX : PXt) : DS := (dDrop (dCallX PX 2 F_require_place (xCons (dAll (dComp (dAsU (dOp oIxU (dVar 1) (dC (.int 2)))) (gdN 3) dYes (dOp (oEq false) (dOp oIxU (dVar 3) (dC (.int 0))) (dC (.str "part"))) [3])) (xCons (dVar 2) xNil))))
theorem ok_FunctionChecker_check_own_arguments {P : Program} {w : World} {K : PySem.W.Frag} {mg : Str → Option Value} {base : Heap} {f : Addr} {fd : FuncData} {k : Nat} {F_require_place : FDX} (F : L2.Fun K "check_own_arguments" "FunctionChecker.check_own_arguments" s_FunctionChecker_check_own_arguments f fd)
    {k0 : Nat} (D_require_place : DfX P w K mg base k0 "require_place" ["condition", "path"] (spX K 2 F_require_place)) (m_all : mg "all" = none) (h_k0 : k0 ≤ k) :
    Fgx P w K mg base (k + 1) f fd ["self", "part", "path"] (spO K 3 (bodyO (dB_FunctionChecker_check_own_arguments F_require_place) 1)) :=
  okdOX (m := 3) rfl F sc_FunctionChecker_check_own_arguments fun cdv A outer s H E hr W B H0 G0 Z0 PX xo => ⟨_, (pss_one (ps_expr (dcallx (takes_of rfl rfl rfl rfl) D_require_place (hr.mono (h_k0)) (by rfl) (pa_cons (pe_callB (cr_all rfl) (by rfl) m_all (by decide +kernel) (pa_cons (pe_lc (own := [("argument", 3)]) (g := (gName 3)) rfl sc_FunctionChecker_check_own_arguments.nd (pi_tup (pe_ix ix_tup (pv 1) pe_int (fun _ _ => rfl))) (blkOk_by (own := [("argument", 3)]) (N := ["self", "part", "path", "argument"]) (sc := defScope s_FunctionChecker_check_own_arguments) (by decide +kernel)) (fun _ _ _ _ _ => (pg_name (i := 3) sc_FunctionChecker_check_own_arguments.nd rfl (Or.inl rfl))) (fun _ _ _ _ _ => pts_nil) (fun _ _ _ _ _ => (pe_cmpR op_eq (pe_ix ix_tup (pv 3) pe_int (fun _ _ => rfl)) pe_str (nomark _)))) pa_nil)) (pa_cons (pv 2) pa_nil))))),
    (rs_drop (re_callX xo (rx_cons (re_all (rl_new (rf_comp (vs := [3]) (ri_tup (re_op ro_ixU (re_var (i := 1)) re_int)) (rgv_name (i := 3) (by decide)) (gw_name (i := 3) (by decide)) rt_yes (re_op ro_eq (re_op ro_ixU (re_var (i := 3)) re_int) re_str)))) (rx_cons (re_var (i := 2)) rx_nil))))⟩
abbrev s_FunctionChecker_check_terms : Stmt := inClass (topS 24) 3
theorem sc_FunctionChecker_check_terms : FnScope ["self", "terms", "path", "names", "may_call", "index", "term"] ["self", "terms", "path", "names", "may_call"] (defScope s_FunctionChecker_check_terms) := ⟨rfl, rfl, rfl, by decide +kernel, rfl, by decide +kernel, by decide +kernel⟩
def dB_FunctionChecker_check_terms (C_FunctionChecker : Addr) (F_FunctionChecker_check_term : FO) (PX : PXt) : DS := (dFor (dEnumT (dVar 1)) (gdTup 2 (gdCons (gdN 5) (gdCons (gdN 6) gdNil))) (dDrop (dOfV (vMethX PX C_FunctionChecker "check_term" 5 F_FunctionChecker_check_term (vVar 0) (xCons (dVar 6) (xCons (dOp oCatU (dVar 2) (dTup (dCons (dVar 5) dNil))) (xCons (dVar 3) (xCons (dVar 4) xNil))))))))
theorem ok_FunctionChecker_check_terms {C_FunctionChecker : Addr} {P : Program} {w : World} {K : PySem.W.Frag} {mg : Str → Option Value} {base : Heap} {f : Addr} {fd : FuncData} {k : Nat} {F_FunctionChecker_check_term : FO} (F : L2.Fun K "check_terms" "FunctionChecker.check_terms" s_FunctionChecker_check_terms f fd)
    {k0 : Nat} (cl_FunctionChecker : Cls K C_FunctionChecker) (DM_FunctionChecker_check_term : DfM P w K mg base k0 C_FunctionChecker "check_term" ["self", "term", "path", "names", "may_call"] (spO K 5 F_FunctionChecker_check_term)) (m_enumerate : mg "enumerate" = none) (h_k0 : k0 ≤ k) :
    Fgx P w K mg base (k + 1) f fd ["self", "terms", "path", "names", "may_call"] (spO K 5 (bodyO (dB_FunctionChecker_check_terms C_FunctionChecker F_FunctionChecker_check_term) 2)) :=
  okdOX (m := 5) rfl F sc_FunctionChecker_check_terms fun cdv A outer s H E hr W B H0 G0 Z0 PX xo => ⟨_, (pss_one (ps_for (passes_of rfl) rfl (ENT.pi_enumT (by rfl) m_enumerate (pa_cons (pv 1) pa_nil)) (pg_tup rfl (pgs_cons (pg_name (i := 5) sc_FunctionChecker_check_terms.nd rfl (Or.inl rfl)) (pgs_cons (pg_name (i := 6) sc_FunctionChecker_check_terms.nd rfl (Or.inl rfl)) pgs_nil))) (pss_one (ps_expr (mcallx (takes_of rfl rfl rfl rfl) DM_FunctionChecker_check_term (hr.mono (h_k0)) (pv 0) (pa_cons (pv 6) (pa_cons (pe_op op_catP (pv 2) (pe_tupP (pa_cons (pv 5) pa_nil))) (pa_cons (pv 3) (pa_cons (pv 4) pa_nil))))))))),
    (rs_for (ri_enumT (re_var (i := 1))) (rg_tup (rgs_cons (rg_name (i := 5)) (rgs_cons (rg_name (i := 6)) rgs_nil))) (rs_drop (re_ofV (rv_methX xo (rv_var (i := 0)) (rx_cons (re_var (i := 6)) (rx_cons (re_op ro_catU (re_var (i := 2)) (re_tup (ra_cons (re_var (i := 5)) ra_nil))) (rx_cons (re_var (i := 3)) (rx_cons (re_var (i := 4)) rx_nil))))))))⟩
abbrev s_FunctionChecker_check_term : Stmt := inClass (topS 24) 4
theorem sc_FunctionChecker_check_term : FnScope ["self", "term", "path", "names", "may_call", "word"] ["self", "term", "path", "names", "may_call"] (defScope s_FunctionChecker_check_term) := ⟨rfl, rfl, rfl, by decide +kernel, rfl, by decide +kernel, by decide +kernel⟩
def dB_FunctionChecker_check_term (C_FunctionChecker : Addr) (F_require_name : FDX) (F_require_tag : FDX) (F_require_count : FDX) (F_require_place : FDX) (F_FunctionChecker_check_terms : FO) (F_FunctionChecker_check_function : FO) (F_FunctionChecker_check_own_arguments : FO) (PX : PXt) : DS := (dSeq (dSet (dOp oIxU (dVar 1) (dC (.int 0))) 5) (dIf (dB (dOp (oEq false) (dVar 5) (dC (.str "part")))) (dDrop (dCallX PX 2 F_require_name (xCons (dOp (oIn false) (dOp oIxU (dVar 1) (dC (.int 1))) (dVar 3)) (xCons (dVar 2) xNil)))) (dIf (dB (dOp (oEq false) (dVar 5) (dC (.str "tag")))) (dSeq (dDrop (dOfV (vMethX PX C_FunctionChecker "check_terms" 5 F_FunctionChecker_check_terms (vVar 0) (xCons (dOp oIxU (dVar 1) (dC (.int 2))) (xCons (dOp oCatU (dVar 2) (dTup (dCons (dC (.int 2)) dNil))) (xCons (dVar 3) (xCons (dVar 4) xNil))))))) (dSeq (dDrop (dCallX PX 2 F_require_tag (xCons (dDInE false (dOp oIxU (dVar 1) (dC (.int 1))) (dOfV (vFld C_FunctionChecker "counts_by_tag" (vVar 0)))) (xCons (dVar 2) xNil)))) (dDrop (dCallX PX 2 F_require_count (xCons (dOp (oEq false) (dLenL (dAsU (dOp oIxU (dVar 1) (dC (.int 2))))) (dDIxE (dOfV (vFld C_FunctionChecker "counts_by_tag" (vVar 0))) (dOp oIxU (dVar 1) (dC (.int 1))))) (xCons (dVar 2) xNil)))))) (dSeq (dDrop (dOfV (vMethX PX C_FunctionChecker "check_terms" 5 F_FunctionChecker_check_terms (vVar 0) (xCons (dOp oIxU (dVar 1) (dC (.int 2))) (xCons (dOp oCatU (dVar 2) (dTup (dCons (dC (.int 2)) dNil))) (xCons (dVar 3) (xCons (dC (.bool false)) xNil))))))) (dIf (dB (dOfV (vMethX PX C_FunctionChecker "check_function" 4 F_FunctionChecker_check_function (vVar 0) (xCons (dVar 1) (xCons (dVar 2) (xCons (dC (.str "make")) xNil)))))) (dSeq (dDrop (dCallX PX 2 F_require_place (xCons (dVar 4) (xCons (dVar 2) xNil)))) (dDrop (dOfV (vMethX PX C_FunctionChecker "check_own_arguments" 3 F_FunctionChecker_check_own_arguments (vVar 0) (xCons (dVar 1) (xCons (dVar 2) xNil)))))) dNext)))))
theorem ok_FunctionChecker_check_term {C_FunctionChecker : Addr} {P : Program} {w : World} {K : PySem.W.Frag} {mg : Str → Option Value} {base : Heap} {f : Addr} {fd : FuncData} {k : Nat} {F_require_name : FDX} {F_require_tag : FDX} {F_require_count : FDX} {F_require_place : FDX} {F_FunctionChecker_check_terms : FO} {F_FunctionChecker_check_function : FO} {F_FunctionChecker_check_own_arguments : FO} (F : L2.Fun K "check_term" "FunctionChecker.check_term" s_FunctionChecker_check_term f fd)
    {k0 : Nat} {k1 : Nat} {k2 : Nat} {k3 : Nat} {k4 : Nat} {k5 : Nat} {k6 : Nat} (cl_FunctionChecker : Cls K C_FunctionChecker) (na_FunctionChecker_counts_by_tag : NoAttr K C_FunctionChecker "counts_by_tag") (D_require_name : DfX P w K mg base k0 "require_name" ["condition", "path"] (spX K 2 F_require_name)) (D_require_tag : DfX P w K mg base k1 "require_tag" ["condition", "path"] (spX K 2 F_require_tag)) (D_require_count : DfX P w K mg base k2 "require_count" ["condition", "path"] (spX K 2 F_require_count)) (D_require_place : DfX P w K mg base k3 "require_place" ["condition", "path"] (spX K 2 F_require_place)) (DM_FunctionChecker_check_terms : DfM P w K mg base k4 C_FunctionChecker "check_terms" ["self", "terms", "path", "names", "may_call"] (spO K 5 F_FunctionChecker_check_terms)) (DM_FunctionChecker_check_function : DfM P w K mg base k5 C_FunctionChecker "check_function" ["self", "part", "path", "sort"] (spO K 4 F_FunctionChecker_check_function)) (DM_FunctionChecker_check_own_arguments : DfM P w K mg base k6 C_FunctionChecker "check_own_arguments" ["self", "part", "path"] (spO K 3 F_FunctionChecker_check_own_arguments)) (m_len : mg "len" = none) {tv_MAKE : Tok} (g_MAKE : mg "MAKE" = some (.str "make" tv_MAKE)) (h_k0 : k0 ≤ k) (h_k1 : k1 ≤ k) (h_k2 : k2 ≤ k) (h_k3 : k3 ≤ k) (h_k4 : k4 ≤ k) (h_k5 : k5 ≤ k) (h_k6 : k6 ≤ k) :
    Fgx P w K mg base (k + 1) f fd ["self", "term", "path", "names", "may_call"] (spO K 5 (bodyO (dB_FunctionChecker_check_term C_FunctionChecker F_require_name F_require_tag F_require_count F_require_place F_FunctionChecker_check_terms F_FunctionChecker_check_function F_FunctionChecker_check_own_arguments) 1)) :=
  okdOX (m := 5) rfl F sc_FunctionChecker_check_term fun cdv A outer s H E hr W B H0 G0 Z0 PX xo => ⟨_, (pss_cons (ps_set (i := 5) sc_FunctionChecker_check_term.nd rfl (Or.inl rfl) (pe_ix ix_tup (pv 1) pe_int (fun _ _ => rfl))) (pss_one (ps_if (pt_cmpR op_eq (pv 5) pe_str (nomark _)) (pss_one (ps_expr (dcallx (takes_of rfl rfl rfl rfl) D_require_name (hr.mono (h_k0)) (by rfl) (pa_cons (pe_cmpR op_in_seq (pe_ix ix_tup (pv 1) pe_int (fun _ _ => rfl)) (pv 3) (by rfl)) (pa_cons (pv 2) pa_nil))))) (pss_one (ps_if (pt_cmpR op_eq (pv 5) pe_str (nomark _)) (pss_cons (ps_expr (mcallx (takes_of rfl rfl rfl rfl) DM_FunctionChecker_check_terms (hr.mono (h_k4)) (pv 0) (pa_cons (pe_ix ix_tup (pv 1) pe_int (fun _ _ => rfl)) (pa_cons (pe_op op_catP (pv 2) (pe_tupP (pa_cons pe_int pa_nil))) (pa_cons (pv 3) (pa_cons (pv 4) pa_nil)))))) (pss_cons (ps_expr (dcallx (takes_of rfl rfl rfl rfl) D_require_tag (hr.mono (h_k1)) (by rfl) (pa_cons (pe_cmp (pc_din (hu_of hr.room) (pe_ix ix_tup (pv 1) pe_int (fun _ _ => rfl)) (pe_fld (pv 0) (by rfl))) (by rfl)) (pa_cons (pv 2) pa_nil)))) (pss_one (ps_expr (dcallx (takes_of rfl rfl rfl rfl) D_require_count (hr.mono (h_k2)) (by rfl) (pa_cons (pe_cmpR op_eq (pe_callB call_len_seq (by rfl) m_len (by decide +kernel) (pa_cons (pe_ix ix_tup (pv 1) pe_int (fun _ _ => rfl)) pa_nil)) (pe_dget (hu_of hr.room) (pe_fld (pv 0) (by rfl)) (pe_ix ix_tup (pv 1) pe_int (fun _ _ => rfl)) (fun _ _ => rfl)) (nomark _)) (pa_cons (pv 2) pa_nil))))))) (pss_cons (ps_expr (mcallx (takes_of rfl rfl rfl rfl) DM_FunctionChecker_check_terms (hr.mono (h_k4)) (pv 0) (pa_cons (pe_ix ix_tup (pv 1) pe_int (fun _ _ => rfl)) (pa_cons (pe_op op_catP (pv 2) (pe_tupP (pa_cons pe_int pa_nil))) (pa_cons (pv 3) (pa_cons pe_bl pa_nil)))))) (pss_one (ps_if (pt_val (mcallx (takes_of rfl rfl rfl rfl) DM_FunctionChecker_check_function (hr.mono (h_k5)) (pv 0) (pa_cons (pv 1) (pa_cons (pv 2) (pa_cons (pe_glob (v := .str "make") (by rfl) g_MAKE ⟨_, rfl⟩) pa_nil))))) (pss_cons (ps_expr (dcallx (takes_of rfl rfl rfl rfl) D_require_place (hr.mono (h_k3)) (by rfl) (pa_cons (pv 4) (pa_cons (pv 2) pa_nil)))) (pss_one (ps_expr (mcallx (takes_of rfl rfl rfl rfl) DM_FunctionChecker_check_own_arguments (hr.mono (h_k6)) (pv 0) (pa_cons (pv 1) (pa_cons (pv 2) pa_nil)))))) pss_nil)))))))),
    (rs_seq (rs_set (i := 5) (re_op ro_ixU (re_var (i := 1)) re_int)) (rs_if (rt_test (re_op ro_eq (re_var (i := 5)) re_str)) (rs_drop (re_callX xo (rx_cons (re_op ro_in (re_op ro_ixU (re_var (i := 1)) re_int) (re_var (i := 3))) (rx_cons (re_var (i := 2)) rx_nil)))) (rs_if (rt_test (re_op ro_eq (re_var (i := 5)) re_str)) (rs_seq (rs_drop (re_ofV (rv_methX xo (rv_var (i := 0)) (rx_cons (re_op ro_ixU (re_var (i := 1)) re_int) (rx_cons (re_op ro_catU (re_var (i := 2)) (re_tup (ra_cons re_int ra_nil))) (rx_cons (re_var (i := 3)) (rx_cons (re_var (i := 4)) rx_nil))))))) (rs_seq (rs_drop (re_callX xo (rx_cons (re_dInE (re_op ro_ixU (re_var (i := 1)) re_int) (re_ofV (rv_fld cl_FunctionChecker na_FunctionChecker_counts_by_tag (rv_var (i := 0))))) (rx_cons (re_var (i := 2)) rx_nil)))) (rs_drop (re_callX xo (rx_cons (re_op ro_eq (re_lenU (ru_of (re_op ro_ixU (re_var (i := 1)) re_int))) (re_dIxE (re_ofV (rv_fld cl_FunctionChecker na_FunctionChecker_counts_by_tag (rv_var (i := 0)))) (re_op ro_ixU (re_var (i := 1)) re_int))) (rx_cons (re_var (i := 2)) rx_nil)))))) (rs_seq (rs_drop (re_ofV (rv_methX xo (rv_var (i := 0)) (rx_cons (re_op ro_ixU (re_var (i := 1)) re_int) (rx_cons (re_op ro_catU (re_var (i := 2)) (re_tup (ra_cons re_int ra_nil))) (rx_cons (re_var (i := 3)) (rx_cons re_bl rx_nil))))))) (rs_if (rt_val (re_ofV (rv_methX xo (rv_var (i := 0)) (rx_cons (re_var (i := 1)) (rx_cons (re_var (i := 2)) (rx_cons re_str rx_nil)))))) (rs_seq (rs_drop (re_callX xo (rx_cons (re_var (i := 4)) (rx_cons (re_var (i := 2)) rx_nil)))) (rs_drop (re_ofV (rv_methX xo (rv_var (i := 0)) (rx_cons (re_var (i := 1)) (rx_cons (re_var (i := 2)) rx_nil)))))) rs_next)))))⟩
abbrev s_FunctionChecker_check_condition : Stmt := inClass (topS 24) 5
theorem sc_FunctionChecker_check_condition : FnScope ["self", "condition", "path", "names", "word"] ["self", "condition", "path", "names"] (defScope s_FunctionChecker_check_condition) := ⟨rfl, rfl, rfl, by decide +kernel, rfl, by decide +kernel, by decide +kernel⟩
def dB_FunctionChecker_check_condition (C_FunctionChecker : Addr) (F_require_tag : FDX) (F_FunctionChecker_check_use : FO) (F_FunctionChecker_check_term : FO) (F_FunctionChecker_check_condition : FO) (PX : PXt) : DS := (dSeq (dSet (dOp oIxU (dVar 1) (dC (.int 0))) 4) (dIf (dB (dOp (oEq false) (dVar 4) (dC (.str "ask")))) (dDrop (dOfV (vMethX PX C_FunctionChecker "check_use" 5 F_FunctionChecker_check_use (vVar 0) (xCons (dVar 1) (xCons (dVar 2) (xCons (dVar 3) (xCons (dC (.str "test")) xNil))))))) (dIf (dB (dOp (oEq false) (dVar 4) (dC (.str "same")))) (dSeq (dDrop (dOfV (vMethX PX C_FunctionChecker "check_term" 5 F_FunctionChecker_check_term (vVar 0) (xCons (dOp oIxU (dVar 1) (dC (.int 1))) (xCons (dOp oCatU (dVar 2) (dTup (dCons (dC (.int 1)) dNil))) (xCons (dVar 3) (xCons (dC (.bool false)) xNil))))))) (dDrop (dOfV (vMethX PX C_FunctionChecker "check_term" 5 F_FunctionChecker_check_term (vVar 0) (xCons (dOp oIxU (dVar 1) (dC (.int 2))) (xCons (dOp oCatU (dVar 2) (dTup (dCons (dC (.int 2)) dNil))) (xCons (dVar 3) (xCons (dC (.bool false)) xNil)))))))) (dIf (dB (dOp (oEq false) (dVar 4) (dC (.str "is")))) (dSeq (dDrop (dOfV (vMethX PX C_FunctionChecker "check_term" 5 F_FunctionChecker_check_term (vVar 0) (xCons (dOp oIxU (dVar 1) (dC (.int 1))) (xCons (dOp oCatU (dVar 2) (dTup (dCons (dC (.int 1)) dNil))) (xCons (dVar 3) (xCons (dC (.bool false)) xNil))))))) (dDrop (dCallX PX 2 F_require_tag (xCons (dDInE false (dOp oIxU (dVar 1) (dC (.int 2))) (dOfV (vFld C_FunctionChecker "counts_by_tag" (vVar 0)))) (xCons (dVar 2) xNil))))) (dSeq (dDrop (dOfV (vMethX PX C_FunctionChecker "check_condition" 4 F_FunctionChecker_check_condition (vVar 0) (xCons (dOp oIxU (dVar 1) (dC (.int 1))) (xCons (dOp oCatU (dVar 2) (dTup (dCons (dC (.int 1)) dNil))) (xCons (dVar 3) xNil)))))) (dIf (dB (dOp (oIn false) (dVar 4) (dC c_DOUBLE_CONDITIONS))) (dDrop (dOfV (vMethX PX C_FunctionChecker "check_condition" 4 F_FunctionChecker_check_condition (vVar 0) (xCons (dOp oIxU (dVar 1) (dC (.int 2))) (xCons (dOp oCatU (dVar 2) (dTup (dCons (dC (.int 2)) dNil))) (xCons (dVar 3) xNil)))))) dNext))))))
theorem ok_FunctionChecker_check_condition {C_FunctionChecker : Addr} {P : Program} {w : World} {K : PySem.W.Frag} {mg : Str → Option Value} {base : Heap} {f : Addr} {fd : FuncData} {k : Nat} {F_require_tag : FDX} {F_FunctionChecker_check_use : FO} {F_FunctionChecker_check_term : FO} {F_FunctionChecker_check_condition : FO} (F : L2.Fun K "check_condition" "FunctionChecker.check_condition" s_FunctionChecker_check_condition f fd)
    {k0 : Nat} {k1 : Nat} {k2 : Nat} {k3 : Nat} (cl_FunctionChecker : Cls K C_FunctionChecker) (na_FunctionChecker_counts_by_tag : NoAttr K C_FunctionChecker "counts_by_tag") (D_require_tag : DfX P w K mg base k0 "require_tag" ["condition", "path"] (spX K 2 F_require_tag)) (DM_FunctionChecker_check_use : DfM P w K mg base k1 C_FunctionChecker "check_use" ["self", "part", "path", "names", "sort"] (spO K 5 F_FunctionChecker_check_use)) (DM_FunctionChecker_check_term : DfM P w K mg base k2 C_FunctionChecker "check_term" ["self", "term", "path", "names", "may_call"] (spO K 5 F_FunctionChecker_check_term)) (DM_FunctionChecker_check_condition : DfM P w K mg base k3 C_FunctionChecker "check_condition" ["self", "condition", "path", "names"] (spO K 4 F_FunctionChecker_check_condition)) {a_DOUBLE_CONDITIONS : Addr} (g_DOUBLE_CONDITIONS : mg "DOUBLE_CONDITIONS" = some (.ref a_DOUBLE_CONDITIONS)) (kd_DOUBLE_CONDITIONS : ∀ H, Da K H (.ref a_DOUBLE_CONDITIONS) c_DOUBLE_CONDITIONS) {tv_TEST_checking : Tok} (g_TEST_checking : mg "TEST_checking" = some (.str "test" tv_TEST_checking)) (h_k0 : k0 ≤ k) (h_k1 : k1 ≤ k) (h_k2 : k2 ≤ k) (h_k3 : k3 ≤ k) :
    Fgx P w K mg base (k + 1) f fd ["self", "condition", "path", "names"] (spO K 4 (bodyO (dB_FunctionChecker_check_condition C_FunctionChecker F_require_tag F_FunctionChecker_check_use F_FunctionChecker_check_term F_FunctionChecker_check_condition) 1)) :=
  okdOX (m := 4) rfl F sc_FunctionChecker_check_condition fun cdv A outer s H E hr W B H0 G0 Z0 PX xo => ⟨_, (pss_cons (ps_set (i := 4) sc_FunctionChecker_check_condition.nd rfl (Or.inl rfl) (pe_ix ix_tup (pv 1) pe_int (fun _ _ => rfl))) (pss_one (ps_if (pt_cmpR op_eq (pv 4) pe_str (nomark _)) (pss_one (ps_expr (mcallx (takes_of rfl rfl rfl rfl) DM_FunctionChecker_check_use (hr.mono (h_k1)) (pv 0) (pa_cons (pv 1) (pa_cons (pv 2) (pa_cons (pv 3) (pa_cons (pe_glob (v := .str "test") (by rfl) g_TEST_checking ⟨_, rfl⟩) pa_nil))))))) (pss_one (ps_if (pt_cmpR op_eq (pv 4) pe_str (nomark _)) (pss_cons (ps_expr (mcallx (takes_of rfl rfl rfl rfl) DM_FunctionChecker_check_term (hr.mono (h_k2)) (pv 0) (pa_cons (pe_ix ix_tup (pv 1) pe_int (fun _ _ => rfl)) (pa_cons (pe_op op_catP (pv 2) (pe_tupP (pa_cons pe_int pa_nil))) (pa_cons (pv 3) (pa_cons pe_bl pa_nil)))))) (pss_one (ps_expr (mcallx (takes_of rfl rfl rfl rfl) DM_FunctionChecker_check_term (hr.mono (h_k2)) (pv 0) (pa_cons (pe_ix ix_tup (pv 1) pe_int (fun _ _ => rfl)) (pa_cons (pe_op op_catP (pv 2) (pe_tupP (pa_cons pe_int pa_nil))) (pa_cons (pv 3) (pa_cons pe_bl pa_nil)))))))) (pss_one (ps_if (pt_cmpR op_eq (pv 4) pe_str (nomark _)) (pss_cons (ps_expr (mcallx (takes_of rfl rfl rfl rfl) DM_FunctionChecker_check_term (hr.mono (h_k2)) (pv 0) (pa_cons (pe_ix ix_tup (pv 1) pe_int (fun _ _ => rfl)) (pa_cons (pe_op op_catP (pv 2) (pe_tupP (pa_cons pe_int pa_nil))) (pa_cons (pv 3) (pa_cons pe_bl pa_nil)))))) (pss_one (ps_expr (dcallx (takes_of rfl rfl rfl rfl) D_require_tag (hr.mono (h_k0)) (by rfl) (pa_cons (pe_cmp (pc_din (hu_of hr.room) (pe_ix ix_tup (pv 1) pe_int (fun _ _ => rfl)) (pe_fld (pv 0) (by rfl))) (by rfl)) (pa_cons (pv 2) pa_nil)))))) (pss_cons (ps_expr (mcallx (takes_of rfl rfl rfl rfl) DM_FunctionChecker_check_condition (hr.mono (h_k3)) (pv 0) (pa_cons (pe_ix ix_tup (pv 1) pe_int (fun _ _ => rfl)) (pa_cons (pe_op op_catP (pv 2) (pe_tupP (pa_cons pe_int pa_nil))) (pa_cons (pv 3) pa_nil))))) (pss_one (ps_if (pt_cmpR op_in_seq (pv 4) (pe_glob (v := .ref a_DOUBLE_CONDITIONS) (by rfl) g_DOUBLE_CONDITIONS rfl) (by rfl)) (pss_one (ps_expr (mcallx (takes_of rfl rfl rfl rfl) DM_FunctionChecker_check_condition (hr.mono (h_k3)) (pv 0) (pa_cons (pe_ix ix_tup (pv 1) pe_int (fun _ _ => rfl)) (pa_cons (pe_op op_catP (pv 2) (pe_tupP (pa_cons pe_int pa_nil))) (pa_cons (pv 3) pa_nil)))))) pss_nil)))))))))),
    (rs_seq (rs_set (i := 4) (re_op ro_ixU (re_var (i := 1)) re_int)) (rs_if (rt_test (re_op ro_eq (re_var (i := 4)) re_str)) (rs_drop (re_ofV (rv_methX xo (rv_var (i := 0)) (rx_cons (re_var (i := 1)) (rx_cons (re_var (i := 2)) (rx_cons (re_var (i := 3)) (rx_cons re_str rx_nil))))))) (rs_if (rt_test (re_op ro_eq (re_var (i := 4)) re_str)) (rs_seq (rs_drop (re_ofV (rv_methX xo (rv_var (i := 0)) (rx_cons (re_op ro_ixU (re_var (i := 1)) re_int) (rx_cons (re_op ro_catU (re_var (i := 2)) (re_tup (ra_cons re_int ra_nil))) (rx_cons (re_var (i := 3)) (rx_cons re_bl rx_nil))))))) (rs_drop (re_ofV (rv_methX xo (rv_var (i := 0)) (rx_cons (re_op ro_ixU (re_var (i := 1)) re_int) (rx_cons (re_op ro_catU (re_var (i := 2)) (re_tup (ra_cons re_int ra_nil))) (rx_cons (re_var (i := 3)) (rx_cons re_bl rx_nil)))))))) (rs_if (rt_test (re_op ro_eq (re_var (i := 4)) re_str)) (rs_seq (rs_drop (re_ofV (rv_methX xo (rv_var (i := 0)) (rx_cons (re_op ro_ixU (re_var (i := 1)) re_int) (rx_cons (re_op ro_catU (re_var (i := 2)) (re_tup (ra_cons re_int ra_nil))) (rx_cons (re_var (i := 3)) (rx_cons re_bl rx_nil))))))) (rs_drop (re_callX xo (rx_cons (re_dInE (re_op ro_ixU (re_var (i := 1)) re_int) (re_ofV (rv_fld cl_FunctionChecker na_FunctionChecker_counts_by_tag (rv_var (i := 0))))) (rx_cons (re_var (i := 2)) rx_nil))))) (rs_seq (rs_drop (re_ofV (rv_methX xo (rv_var (i := 0)) (rx_cons (re_op ro_ixU (re_var (i := 1)) re_int) (rx_cons (re_op ro_catU (re_var (i := 2)) (re_tup (ra_cons re_int ra_nil))) (rx_cons (re_var (i := 3)) rx_nil)))))) (rs_if (rt_test (re_op ro_in (re_var (i := 4)) (re_kd kd_DOUBLE_CONDITIONS))) (rs_drop (re_ofV (rv_methX xo (rv_var (i := 0)) (rx_cons (re_op ro_ixU (re_var (i := 1)) re_int) (rx_cons (re_op ro_catU (re_var (i := 2)) (re_tup (ra_cons re_int ra_nil))) (rx_cons (re_var (i := 3)) rx_nil)))))) rs_next))))))⟩
abbrev s_FunctionChecker_check_use : Stmt := inClass (topS 24) 6
theorem sc_FunctionChecker_check_use : FnScope ["self", "part", "path", "names", "sort"] ["self", "part", "path", "names", "sort"] (defScope s_FunctionChecker_check_use) := ⟨rfl, rfl, rfl, by decide +kernel, rfl, by decide +kernel, by decide +kernel⟩
def dB_FunctionChecker_check_use (C_FunctionChecker : Addr) (F_require_place : FDX) (F_FunctionChecker_check_terms : FO) (F_FunctionChecker_check_function : FO) (PX : PXt) : DS := (dSeq (dDrop (dOfV (vMethX PX C_FunctionChecker "check_terms" 5 F_FunctionChecker_check_terms (vVar 0) (xCons (dOp oIxU (dVar 1) (dC (.int 2))) (xCons (dOp oCatU (dVar 2) (dTup (dCons (dC (.int 2)) dNil))) (xCons (dVar 3) (xCons (dC (.bool false)) xNil))))))) (dDrop (dCallX PX 2 F_require_place (xCons (dNotV (dOfV (vMethX PX C_FunctionChecker "check_function" 4 F_FunctionChecker_check_function (vVar 0) (xCons (dVar 1) (xCons (dVar 2) (xCons (dVar 4) xNil)))))) (xCons (dVar 2) xNil)))))
theorem ok_FunctionChecker_check_use {C_FunctionChecker : Addr} {P : Program} {w : World} {K : PySem.W.Frag} {mg : Str → Option Value} {base : Heap} {f : Addr} {fd : FuncData} {k : Nat} {F_require_place : FDX} {F_FunctionChecker_check_terms : FO} {F_FunctionChecker_check_function : FO} (F : L2.Fun K "check_use" "FunctionChecker.check_use" s_FunctionChecker_check_use f fd)
    {k0 : Nat} {k1 : Nat} {k2 : Nat} (cl_FunctionChecker : Cls K C_FunctionChecker) (D_require_place : DfX P w K mg base k0 "require_place" ["condition", "path"] (spX K 2 F_require_place)) (DM_FunctionChecker_check_terms : DfM P w K mg base k1 C_FunctionChecker "check_terms" ["self", "terms", "path", "names", "may_call"] (spO K 5 F_FunctionChecker_check_terms)) (DM_FunctionChecker_check_function : DfM P w K mg base k2 C_FunctionChecker "check_function" ["self", "part", "path", "sort"] (spO K 4 F_FunctionChecker_check_function)) (h_k0 : k0 ≤ k) (h_k1 : k1 ≤ k) (h_k2 : k2 ≤ k) :
    Fgx P w K mg base (k + 1) f fd ["self", "part", "path", "names", "sort"] (spO K 5 (bodyO (dB_FunctionChecker_check_use C_FunctionChecker F_require_place F_FunctionChecker_check_terms F_FunctionChecker_check_function) 0)) :=
  okdOX (m := 5) rfl F sc_FunctionChecker_check_use fun cdv A outer s H E hr W B H0 G0 Z0 PX xo => ⟨_, (pss_cons (ps_expr (mcallx (takes_of rfl rfl rfl rfl) DM_FunctionChecker_check_terms (hr.mono (h_k1)) (pv 0) (pa_cons (pe_ix ix_tup (pv 1) pe_int (fun _ _ => rfl)) (pa_cons (pe_op op_catP (pv 2) (pe_tupP (pa_cons pe_int pa_nil))) (pa_cons (pv 3) (pa_cons pe_bl pa_nil)))))) (pss_one (ps_expr (dcallx (takes_of rfl rfl rfl rfl) D_require_place (hr.mono (h_k0)) (by rfl) (pa_cons (pe_not (mcallx (takes_of rfl rfl rfl rfl) DM_FunctionChecker_check_function (hr.mono (h_k2)) (pv 0) (pa_cons (pv 1) (pa_cons (pv 2) (pa_cons (pv 4) pa_nil))))) (pa_cons (pv 2) pa_nil)))))),
    (rs_seq (rs_drop (re_ofV (rv_methX xo (rv_var (i := 0)) (rx_cons (re_op ro_ixU (re_var (i := 1)) re_int) (rx_cons (re_op ro_catU (re_var (i := 2)) (re_tup (ra_cons re_int ra_nil))) (rx_cons (re_var (i := 3)) (rx_cons re_bl rx_nil))))))) (rs_drop (re_callX xo (rx_cons (re_not (re_ofV (rv_methX xo (rv_var (i := 0)) (rx_cons (re_var (i := 1)) (rx_cons (re_var (i := 2)) (rx_cons (re_var (i := 4)) rx_nil)))))) (rx_cons (re_var (i := 2)) rx_nil)))))⟩
abbrev s_FunctionChecker_check_call : Stmt := inClass (topS 24) 7
theorem sc_FunctionChecker_check_call : FnScope ["self", "body", "path", "names"] ["self", "body", "path", "names"] (defScope s_FunctionChecker_check_call) := ⟨rfl, rfl, rfl, by decide +kernel, rfl, by decide +kernel, by decide +kernel⟩
def dB_FunctionChecker_check_call (C_FunctionChecker : Addr) (F_require_place : FDX) (F_FunctionChecker_check_terms : FO) (F_FunctionChecker_check_own_arguments : FO) (F_FunctionChecker_check_function : FO) (PX : PXt) : DS := (dSeq (dDrop (dOfV (vMethX PX C_FunctionChecker "check_terms" 5 F_FunctionChecker_check_terms (vVar 0) (xCons (dOp oIxU (dVar 1) (dC (.int 2))) (xCons (dOp oCatU (dVar 2) (dTup (dCons (dC (.int 2)) dNil))) (xCons (dVar 3) (xCons (dC (.bool false)) xNil))))))) (dSeq (dDrop (dCallX PX 2 F_require_place (xCons (dOfV (vMethX PX C_FunctionChecker "check_function" 4 F_FunctionChecker_check_function (vVar 0) (xCons (dVar 1) (xCons (dVar 2) (xCons (dOfV (vFld C_FunctionChecker "own_sort" (vVar 0))) xNil))))) (xCons (dVar 2) xNil)))) (dDrop (dOfV (vMethX PX C_FunctionChecker "check_own_arguments" 3 F_FunctionChecker_check_own_arguments (vVar 0) (xCons (dVar 1) (xCons (dVar 2) xNil)))))))
theorem ok_FunctionChecker_check_call {C_FunctionChecker : Addr} {P : Program} {w : World} {K : PySem.W.Frag} {mg : Str → Option Value} {base : Heap} {f : Addr} {fd : FuncData} {k : Nat} {F_require_place : FDX} {F_FunctionChecker_check_terms : FO} {F_FunctionChecker_check_own_arguments : FO} {F_FunctionChecker_check_function : FO} (F : L2.Fun K "check_call" "FunctionChecker.check_call" s_FunctionChecker_check_call f fd)
    {k0 : Nat} {k1 : Nat} {k2 : Nat} {k3 : Nat} (cl_FunctionChecker : Cls K C_FunctionChecker) (na_FunctionChecker_own_sort : NoAttr K C_FunctionChecker "own_sort") (D_require_place : DfX P w K mg base k0 "require_place" ["condition", "path"] (spX K 2 F_require_place)) (DM_FunctionChecker_check_terms : DfM P w K mg base k1 C_FunctionChecker "check_terms" ["self", "terms", "path", "names", "may_call"] (spO K 5 F_FunctionChecker_check_terms)) (DM_FunctionChecker_check_own_arguments : DfM P w K mg base k2 C_FunctionChecker "check_own_arguments" ["self", "part", "path"] (spO K 3 F_FunctionChecker_check_own_arguments)) (DM_FunctionChecker_check_function : DfM P w K mg base k3 C_FunctionChecker "check_function" ["self", "part", "path", "sort"] (spO K 4 F_FunctionChecker_check_function)) (h_k0 : k0 ≤ k) (h_k1 : k1 ≤ k) (h_k2 : k2 ≤ k) (h_k3 : k3 ≤ k) :
    Fgx P w K mg base (k + 1) f fd ["self", "body", "path", "names"] (spO K 4 (bodyO (dB_FunctionChecker_check_call C_FunctionChecker F_require_place F_FunctionChecker_check_terms F_FunctionChecker_check_own_arguments F_FunctionChecker_check_function) 0)) :=
  okdOX (m := 4) rfl F sc_FunctionChecker_check_call fun cdv A outer s H E hr W B H0 G0 Z0 PX xo => ⟨_, (pss_cons (ps_expr (mcallx (takes_of rfl rfl rfl rfl) DM_FunctionChecker_check_terms (hr.mono (h_k1)) (pv 0) (pa_cons (pe_ix ix_tup (pv 1) pe_int (fun _ _ => rfl)) (pa_cons (pe_op op_catP (pv 2) (pe_tupP (pa_cons pe_int pa_nil))) (pa_cons (pv 3) (pa_cons pe_bl pa_nil)))))) (pss_cons (ps_expr (dcallx (takes_of rfl rfl rfl rfl) D_require_place (hr.mono (h_k0)) (by rfl) (pa_cons (mcallx (takes_of rfl rfl rfl rfl) DM_FunctionChecker_check_function (hr.mono (h_k3)) (pv 0) (pa_cons (pv 1) (pa_cons (pv 2) (pa_cons (pe_fld (pv 0) (by rfl)) pa_nil)))) (pa_cons (pv 2) pa_nil)))) (pss_one (ps_expr (mcallx (takes_of rfl rfl rfl rfl) DM_FunctionChecker_check_own_arguments (hr.mono (h_k2)) (pv 0) (pa_cons (pv 1) (pa_cons (pv 2) pa_nil))))))),
    (rs_seq (rs_drop (re_ofV (rv_methX xo (rv_var (i := 0)) (rx_cons (re_op ro_ixU (re_var (i := 1)) re_int) (rx_cons (re_op ro_catU (re_var (i := 2)) (re_tup (ra_cons re_int ra_nil))) (rx_cons (re_var (i := 3)) (rx_cons re_bl rx_nil))))))) (rs_seq (rs_drop (re_callX xo (rx_cons (re_ofV (rv_methX xo (rv_var (i := 0)) (rx_cons (re_var (i := 1)) (rx_cons (re_var (i := 2)) (rx_cons (re_ofV (rv_fld cl_FunctionChecker na_FunctionChecker_own_sort (rv_var (i := 0)))) rx_nil))))) (rx_cons (re_var (i := 2)) rx_nil)))) (rs_drop (re_ofV (rv_methX xo (rv_var (i := 0)) (rx_cons (re_var (i := 1)) (rx_cons (re_var (i := 2)) rx_nil)))))))⟩
abbrev s_FunctionChecker_check_branch : Stmt := inClass (topS 24) 8
theorem sc_FunctionChecker_check_branch : FnScope ["self", "branch", "path", "names", "tag", "fields", "body"] ["self", "branch", "path", "names"] (defScope s_FunctionChecker_check_branch) := ⟨rfl, rfl, rfl, by decide +kernel, rfl, by decide +kernel, by decide +kernel⟩
def dB_FunctionChecker_check_branch (C_FunctionChecker : Addr) (F_require_tag : FDX) (F_require_count : FDX) (F_FunctionChecker_check_body : FO) (PX : PXt) : DS := (dSeq (dAsg (dVar 1) (gdTup 3 (gdCons (gdN 4) (gdCons (gdN 5) (gdCons (gdN 6) gdNil))))) (dSeq (dDrop (dCallX PX 2 F_require_tag (xCons (dAndV (dDInE false (dVar 4) (dOfV (vFld C_FunctionChecker "counts_by_tag" (vVar 0)))) (dOp (oEq true) (dVar 4) (dC (.str "void")))) (xCons (dVar 2) xNil)))) (dSeq (dDrop (dCallX PX 2 F_require_count (xCons (dOp (oEq false) (dLenL (dAsU (dVar 5))) (dDIxE (dOfV (vFld C_FunctionChecker "counts_by_tag" (vVar 0))) (dVar 4))) (xCons (dVar 2) xNil)))) (dDrop (dOfV (vMethX PX C_FunctionChecker "check_body" 4 F_FunctionChecker_check_body (vVar 0) (xCons (dVar 6) (xCons (dOp oCatU (dVar 2) (dTup (dCons (dC (.int 2)) dNil))) (xCons (dOp oCatU (dVar 3) (dVar 5)) xNil)))))))))
theorem ok_FunctionChecker_check_branch {C_FunctionChecker : Addr} {P : Program} {w : World} {K : PySem.W.Frag} {mg : Str → Option Value} {base : Heap} {f : Addr} {fd : FuncData} {k : Nat} {F_require_tag : FDX} {F_require_count : FDX} {F_FunctionChecker_check_body : FO} (F : L2.Fun K "check_branch" "FunctionChecker.check_branch" s_FunctionChecker_check_branch f fd)
    {k0 : Nat} {k1 : Nat} {k2 : Nat} (cl_FunctionChecker : Cls K C_FunctionChecker) (na_FunctionChecker_counts_by_tag : NoAttr K C_FunctionChecker "counts_by_tag") (D_require_tag : DfX P w K mg base k0 "require_tag" ["condition", "path"] (spX K 2 F_require_tag)) (D_require_count : DfX P w K mg base k1 "require_count" ["condition", "path"] (spX K 2 F_require_count)) (DM_FunctionChecker_check_body : DfM P w K mg base k2 C_FunctionChecker "check_body" ["self", "body", "path", "names"] (spO K 4 F_FunctionChecker_check_body)) (m_len : mg "len" = none) {tv_VOID_TAG : Tok} (g_VOID_TAG : mg "VOID_TAG" = some (.str "void" tv_VOID_TAG)) (h_k0 : k0 ≤ k) (h_k1 : k1 ≤ k) (h_k2 : k2 ≤ k) :
    Fgx P w K mg base (k + 1) f fd ["self", "branch", "path", "names"] (spO K 4 (bodyO (dB_FunctionChecker_check_branch C_FunctionChecker F_require_tag F_require_count F_FunctionChecker_check_body) 3)) :=
  okdOX (m := 4) rfl F sc_FunctionChecker_check_branch fun cdv A outer s H E hr W B H0 G0 Z0 PX xo => ⟨_, (pss_cons (ps_asg (pv 1) (pg_tup rfl (pgs_cons (pg_name (i := 4) sc_FunctionChecker_check_branch.nd rfl (Or.inl rfl)) (pgs_cons (pg_name (i := 5) sc_FunctionChecker_check_branch.nd rfl (Or.inl rfl)) (pgs_cons (pg_name (i := 6) sc_FunctionChecker_check_branch.nd rfl (Or.inl rfl)) pgs_nil))))) (pss_cons (ps_expr (dcallx (takes_of rfl rfl rfl rfl) D_require_tag (hr.mono (h_k0)) (by rfl) (pa_cons (pe_and (pe_cmp (pc_din (hu_of hr.room) (pv 4) (pe_fld (pv 0) (by rfl))) (by rfl)) (pe_one (pe_cmpR op_ne (pv 4) (pe_glob (v := .str "void") (by rfl) g_VOID_TAG ⟨_, rfl⟩) (nomark _)))) (pa_cons (pv 2) pa_nil)))) (pss_cons (ps_expr (dcallx (takes_of rfl rfl rfl rfl) D_require_count (hr.mono (h_k1)) (by rfl) (pa_cons (pe_cmpR op_eq (pe_callB call_len_seq (by rfl) m_len (by decide +kernel) (pa_cons (pv 5) pa_nil)) (pe_dget (hu_of hr.room) (pe_fld (pv 0) (by rfl)) (pv 4) (fun _ _ => rfl)) (nomark _)) (pa_cons (pv 2) pa_nil)))) (pss_one (ps_expr (mcallx (takes_of rfl rfl rfl rfl) DM_FunctionChecker_check_body (hr.mono (h_k2)) (pv 0) (pa_cons (pv 6) (pa_cons (pe_op op_catP (pv 2) (pe_tupP (pa_cons pe_int pa_nil))) (pa_cons (pe_op op_catP (pv 3) (pv 5)) pa_nil))))))))),
    (rs_seq (rs_asg (re_var (i := 1)) (rg_tup (rgs_cons (rg_name (i := 4)) (rgs_cons (rg_name (i := 5)) (rgs_cons (rg_name (i := 6)) rgs_nil))))) (rs_seq (rs_drop (re_callX xo (rx_cons (re_and (re_dInE (re_var (i := 4)) (re_ofV (rv_fld cl_FunctionChecker na_FunctionChecker_counts_by_tag (rv_var (i := 0))))) (re_op ro_ne (re_var (i := 4)) re_str)) (rx_cons (re_var (i := 2)) rx_nil)))) (rs_seq (rs_drop (re_callX xo (rx_cons (re_op ro_eq (re_lenU (ru_of (re_var (i := 5)))) (re_dIxE (re_ofV (rv_fld cl_FunctionChecker na_FunctionChecker_counts_by_tag (rv_var (i := 0)))) (re_var (i := 4)))) (rx_cons (re_var (i := 2)) rx_nil)))) (rs_drop (re_ofV (rv_methX xo (rv_var (i := 0)) (rx_cons (re_var (i := 6)) (rx_cons (re_op ro_catU (re_var (i := 2)) (re_tup (ra_cons re_int ra_nil))) (rx_cons (re_op ro_catU (re_var (i := 3)) (re_var (i := 5))) rx_nil)))))))))⟩
abbrev s_FunctionChecker_check_case : Stmt := inClass (topS 24) 9
theorem sc_FunctionChecker_check_case : FnScope ["self", "body", "path", "names", "word", "name", "branches", "other", "index", "branch"] ["self", "body", "path", "names"] (defScope s_FunctionChecker_check_case) := ⟨rfl, rfl, rfl, by decide +kernel, rfl, by decide +kernel, by decide +kernel⟩
def dB_FunctionChecker_check_case (C_FunctionChecker : Addr) (F_require_name : FDX) (F_FunctionChecker_check_body : FO) (F_FunctionChecker_check_branch : FO) (PX : PXt) : DS := (dSeq (dAsg (dVar 1) (gdTup 4 (gdCons (gdN 4) (gdCons (gdN 5) (gdCons (gdN 6) (gdCons (gdN 7) gdNil)))))) (dSeq (dDrop (dCallX PX 2 F_require_name (xCons (dOp (oIn false) (dVar 5) (dVar 3)) (xCons (dVar 2) xNil)))) (dSeq (dFor (dEnumT (dVar 6)) (gdTup 2 (gdCons (gdN 8) (gdCons (gdN 9) gdNil))) (dDrop (dOfV (vMethX PX C_FunctionChecker "check_branch" 4 F_FunctionChecker_check_branch (vVar 0) (xCons (dVar 9) (xCons (dOp oCatU (dVar 2) (dTup (dCons (dC (.int 2)) (dCons (dVar 8) dNil)))) (xCons (dVar 3) xNil))))))) (dDrop (dOfV (vMethX PX C_FunctionChecker "check_body" 4 F_FunctionChecker_check_body (vVar 0) (xCons (dVar 7) (xCons (dOp oCatU (dVar 2) (dTup (dCons (dC (.int 3)) dNil))) (xCons (dVar 3) xNil)))))))))
theorem ok_FunctionChecker_check_case {C_FunctionChecker : Addr} {P : Program} {w : World} {K : PySem.W.Frag} {mg : Str → Option Value} {base : Heap} {f : Addr} {fd : FuncData} {k : Nat} {F_require_name : FDX} {F_FunctionChecker_check_body : FO} {F_FunctionChecker_check_branch : FO} (F : L2.Fun K "check_case" "FunctionChecker.check_case" s_FunctionChecker_check_case f fd)
    {k0 : Nat} {k1 : Nat} {k2 : Nat} (cl_FunctionChecker : Cls K C_FunctionChecker) (D_require_name : DfX P w K mg base k0 "require_name" ["condition", "path"] (spX K 2 F_require_name)) (DM_FunctionChecker_check_body : DfM P w K mg base k1 C_FunctionChecker "check_body" ["self", "body", "path", "names"] (spO K 4 F_FunctionChecker_check_body)) (DM_FunctionChecker_check_branch : DfM P w K mg base k2 C_FunctionChecker "check_branch" ["self", "branch", "path", "names"] (spO K 4 F_FunctionChecker_check_branch)) (m_enumerate : mg "enumerate" = none) (h_k0 : k0 ≤ k) (h_k1 : k1 ≤ k) (h_k2 : k2 ≤ k) :
    Fgx P w K mg base (k + 1) f fd ["self", "body", "path", "names"] (spO K 4 (bodyO (dB_FunctionChecker_check_case C_FunctionChecker F_require_name F_FunctionChecker_check_body F_FunctionChecker_check_branch) 6)) :=
  okdOX (m := 4) rfl F sc_FunctionChecker_check_case fun cdv A outer s H E hr W B H0 G0 Z0 PX xo => ⟨_, (pss_cons (ps_asg (pv 1) (pg_tup rfl (pgs_cons (pg_name (i := 4) sc_FunctionChecker_check_case.nd rfl (Or.inl rfl)) (pgs_cons (pg_name (i := 5) sc_FunctionChecker_check_case.nd rfl (Or.inl rfl)) (pgs_cons (pg_name (i := 6) sc_FunctionChecker_check_case.nd rfl (Or.inl rfl)) (pgs_cons (pg_name (i := 7) sc_FunctionChecker_check_case.nd rfl (Or.inl rfl)) pgs_nil)))))) (pss_cons (ps_expr (dcallx (takes_of rfl rfl rfl rfl) D_require_name (hr.mono (h_k0)) (by rfl) (pa_cons (pe_cmpR op_in_seq (pv 5) (pv 3) (by rfl)) (pa_cons (pv 2) pa_nil)))) (pss_cons (ps_for (passes_of rfl) rfl (ENT.pi_enumT (by rfl) m_enumerate (pa_cons (pv 6) pa_nil)) (pg_tup rfl (pgs_cons (pg_name (i := 8) sc_FunctionChecker_check_case.nd rfl (Or.inl rfl)) (pgs_cons (pg_name (i := 9) sc_FunctionChecker_check_case.nd rfl (Or.inl rfl)) pgs_nil))) (pss_one (ps_expr (mcallx (takes_of rfl rfl rfl rfl) DM_FunctionChecker_check_branch (hr.mono (h_k2)) (pv 0) (pa_cons (pv 9) (pa_cons (pe_op op_catP (pv 2) (pe_tupP (pa_cons pe_int (pa_cons (pv 8) pa_nil)))) (pa_cons (pv 3) pa_nil))))))) (pss_one (ps_expr (mcallx (takes_of rfl rfl rfl rfl) DM_FunctionChecker_check_body (hr.mono (h_k1)) (pv 0) (pa_cons (pv 7) (pa_cons (pe_op op_catP (pv 2) (pe_tupP (pa_cons pe_int pa_nil))) (pa_cons (pv 3) pa_nil))))))))),
    (rs_seq (rs_asg (re_var (i := 1)) (rg_tup (rgs_cons (rg_name (i := 4)) (rgs_cons (rg_name (i := 5)) (rgs_cons (rg_name (i := 6)) (rgs_cons (rg_name (i := 7)) rgs_nil)))))) (rs_seq (rs_drop (re_callX xo (rx_cons (re_op ro_in (re_var (i := 5)) (re_var (i := 3))) (rx_cons (re_var (i := 2)) rx_nil)))) (rs_seq (rs_for (ri_enumT (re_var (i := 6))) (rg_tup (rgs_cons (rg_name (i := 8)) (rgs_cons (rg_name (i := 9)) rgs_nil))) (rs_drop (re_ofV (rv_methX xo (rv_var (i := 0)) (rx_cons (re_var (i := 9)) (rx_cons (re_op ro_catU (re_var (i := 2)) (re_tup (ra_cons re_int (ra_cons (re_var (i := 8)) ra_nil)))) (rx_cons (re_var (i := 3)) rx_nil))))))) (rs_drop (re_ofV (rv_methX xo (rv_var (i := 0)) (rx_cons (re_var (i := 7)) (rx_cons (re_op ro_catU (re_var (i := 2)) (re_tup (ra_cons re_int ra_nil))) (rx_cons (re_var (i := 3)) rx_nil)))))))))⟩
abbrev s_FunctionChecker_check_body : Stmt := inClass (topS 24) 10
theorem sc_FunctionChecker_check_body : FnScope ["self", "body", "path", "names", "word"] ["self", "body", "path", "names"] (defScope s_FunctionChecker_check_body) := ⟨rfl, rfl, rfl, by decide +kernel, rfl, by decide +kernel, by decide +kernel⟩
def dB_FunctionChecker_check_body (C_FunctionChecker : Addr) (F_FunctionChecker_check_case : FO) (F_FunctionChecker_check_condition : FO) (F_FunctionChecker_check_body : FO) (F_FunctionChecker_check_term : FO) (F_FunctionChecker_check_other_body : FO) (PX : PXt) : DS := (dSeq (dSet (dOp oIxU (dVar 1) (dC (.int 0))) 4) (dIf (dB (dOp (oEq false) (dVar 4) (dC (.str "case")))) (dDrop (dOfV (vMethX PX C_FunctionChecker "check_case" 4 F_FunctionChecker_check_case (vVar 0) (xCons (dVar 1) (xCons (dVar 2) (xCons (dVar 3) xNil)))))) (dIf (dB (dOp (oEq false) (dVar 4) (dC (.str "if")))) (dSeq (dDrop (dOfV (vMethX PX C_FunctionChecker "check_condition" 4 F_FunctionChecker_check_condition (vVar 0) (xCons (dOp oIxU (dVar 1) (dC (.int 1))) (xCons (dOp oCatU (dVar 2) (dTup (dCons (dC (.int 1)) dNil))) (xCons (dVar 3) xNil)))))) (dSeq (dDrop (dOfV (vMethX PX C_FunctionChecker "check_body" 4 F_FunctionChecker_check_body (vVar 0) (xCons (dOp oIxU (dVar 1) (dC (.int 2))) (xCons (dOp oCatU (dVar 2) (dTup (dCons (dC (.int 2)) dNil))) (xCons (dVar 3) xNil)))))) (dDrop (dOfV (vMethX PX C_FunctionChecker "check_body" 4 F_FunctionChecker_check_body (vVar 0) (xCons (dOp oIxU (dVar 1) (dC (.int 3))) (xCons (dOp oCatU (dVar 2) (dTup (dCons (dC (.int 3)) dNil))) (xCons (dVar 3) xNil)))))))) (dIf (dB (dOp (oEq false) (dOfV (vFld C_FunctionChecker "own_sort" (vVar 0))) (dC (.str "make")))) (dDrop (dOfV (vMethX PX C_FunctionChecker "check_term" 5 F_FunctionChecker_check_term (vVar 0) (xCons (dVar 1) (xCons (dVar 2) (xCons (dVar 3) (xCons (dC (.bool true)) xNil))))))) (dDrop (dOfV (vMethX PX C_FunctionChecker "check_other_body" 4 F_FunctionChecker_check_other_body (vVar 0) (xCons (dVar 1) (xCons (dVar 2) (xCons (dVar 3) xNil))))))))))
theorem ok_FunctionChecker_check_body {C_FunctionChecker : Addr} {P : Program} {w : World} {K : PySem.W.Frag} {mg : Str → Option Value} {base : Heap} {f : Addr} {fd : FuncData} {k : Nat} {F_FunctionChecker_check_case : FO} {F_FunctionChecker_check_condition : FO} {F_FunctionChecker_check_body : FO} {F_FunctionChecker_check_term : FO} {F_FunctionChecker_check_other_body : FO} (F : L2.Fun K "check_body" "FunctionChecker.check_body" s_FunctionChecker_check_body f fd)
    {k0 : Nat} {k1 : Nat} {k2 : Nat} {k3 : Nat} {k4 : Nat} (cl_FunctionChecker : Cls K C_FunctionChecker) (na_FunctionChecker_own_sort : NoAttr K C_FunctionChecker "own_sort") (DM_FunctionChecker_check_case : DfM P w K mg base k0 C_FunctionChecker "check_case" ["self", "body", "path", "names"] (spO K 4 F_FunctionChecker_check_case)) (DM_FunctionChecker_check_condition : DfM P w K mg base k1 C_FunctionChecker "check_condition" ["self", "condition", "path", "names"] (spO K 4 F_FunctionChecker_check_condition)) (DM_FunctionChecker_check_body : DfM P w K mg base k2 C_FunctionChecker "check_body" ["self", "body", "path", "names"] (spO K 4 F_FunctionChecker_check_body)) (DM_FunctionChecker_check_term : DfM P w K mg base k3 C_FunctionChecker "check_term" ["self", "term", "path", "names", "may_call"] (spO K 5 F_FunctionChecker_check_term)) (DM_FunctionChecker_check_other_body : DfM P w K mg base k4 C_FunctionChecker "check_other_body" ["self", "body", "path", "names"] (spO K 4 F_FunctionChecker_check_other_body)) {tv_MAKE : Tok} (g_MAKE : mg "MAKE" = some (.str "make" tv_MAKE)) (h_k0 : k0 ≤ k) (h_k1 : k1 ≤ k) (h_k2 : k2 ≤ k) (h_k3 : k3 ≤ k) (h_k4 : k4 ≤ k) :
    Fgx P w K mg base (k + 1) f fd ["self", "body", "path", "names"] (spO K 4 (bodyO (dB_FunctionChecker_check_body C_FunctionChecker F_FunctionChecker_check_case F_FunctionChecker_check_condition F_FunctionChecker_check_body F_FunctionChecker_check_term F_FunctionChecker_check_other_body) 1)) :=
  okdOX (m := 4) rfl F sc_FunctionChecker_check_body fun cdv A outer s H E hr W B H0 G0 Z0 PX xo => ⟨_, (pss_cons (ps_set (i := 4) sc_FunctionChecker_check_body.nd rfl (Or.inl rfl) (pe_ix ix_tup (pv 1) pe_int (fun _ _ => rfl))) (pss_one (ps_if (pt_cmpR op_eq (pv 4) pe_str (nomark _)) (pss_one (ps_expr (mcallx (takes_of rfl rfl rfl rfl) DM_FunctionChecker_check_case (hr.mono (h_k0)) (pv 0) (pa_cons (pv 1) (pa_cons (pv 2) (pa_cons (pv 3) pa_nil)))))) (pss_one (ps_if (pt_cmpR op_eq (pv 4) pe_str (nomark _)) (pss_cons (ps_expr (mcallx (takes_of rfl rfl rfl rfl) DM_FunctionChecker_check_condition (hr.mono (h_k1)) (pv 0) (pa_cons (pe_ix ix_tup (pv 1) pe_int (fun _ _ => rfl)) (pa_cons (pe_op op_catP (pv 2) (pe_tupP (pa_cons pe_int pa_nil))) (pa_cons (pv 3) pa_nil))))) (pss_cons (ps_expr (mcallx (takes_of rfl rfl rfl rfl) DM_FunctionChecker_check_body (hr.mono (h_k2)) (pv 0) (pa_cons (pe_ix ix_tup (pv 1) pe_int (fun _ _ => rfl)) (pa_cons (pe_op op_catP (pv 2) (pe_tupP (pa_cons pe_int pa_nil))) (pa_cons (pv 3) pa_nil))))) (pss_one (ps_expr (mcallx (takes_of rfl rfl rfl rfl) DM_FunctionChecker_check_body (hr.mono (h_k2)) (pv 0) (pa_cons (pe_ix ix_tup (pv 1) pe_int (fun _ _ => rfl)) (pa_cons (pe_op op_catP (pv 2) (pe_tupP (pa_cons pe_int pa_nil))) (pa_cons (pv 3) pa_nil)))))))) (pss_one (ps_if (pt_cmpR op_eq (pe_fld (pv 0) (by rfl)) (pe_glob (v := .str "make") (by rfl) g_MAKE ⟨_, rfl⟩) (nomark _)) (pss_one (ps_expr (mcallx (takes_of rfl rfl rfl rfl) DM_FunctionChecker_check_term (hr.mono (h_k3)) (pv 0) (pa_cons (pv 1) (pa_cons (pv 2) (pa_cons (pv 3) (pa_cons pe_bl pa_nil))))))) (pss_one (ps_expr (mcallx (takes_of rfl rfl rfl rfl) DM_FunctionChecker_check_other_body (hr.mono (h_k4)) (pv 0) (pa_cons (pv 1) (pa_cons (pv 2) (pa_cons (pv 3) pa_nil))))))))))))),
    (rs_seq (rs_set (i := 4) (re_op ro_ixU (re_var (i := 1)) re_int)) (rs_if (rt_test (re_op ro_eq (re_var (i := 4)) re_str)) (rs_drop (re_ofV (rv_methX xo (rv_var (i := 0)) (rx_cons (re_var (i := 1)) (rx_cons (re_var (i := 2)) (rx_cons (re_var (i := 3)) rx_nil)))))) (rs_if (rt_test (re_op ro_eq (re_var (i := 4)) re_str)) (rs_seq (rs_drop (re_ofV (rv_methX xo (rv_var (i := 0)) (rx_cons (re_op ro_ixU (re_var (i := 1)) re_int) (rx_cons (re_op ro_catU (re_var (i := 2)) (re_tup (ra_cons re_int ra_nil))) (rx_cons (re_var (i := 3)) rx_nil)))))) (rs_seq (rs_drop (re_ofV (rv_methX xo (rv_var (i := 0)) (rx_cons (re_op ro_ixU (re_var (i := 1)) re_int) (rx_cons (re_op ro_catU (re_var (i := 2)) (re_tup (ra_cons re_int ra_nil))) (rx_cons (re_var (i := 3)) rx_nil)))))) (rs_drop (re_ofV (rv_methX xo (rv_var (i := 0)) (rx_cons (re_op ro_ixU (re_var (i := 1)) re_int) (rx_cons (re_op ro_catU (re_var (i := 2)) (re_tup (ra_cons re_int ra_nil))) (rx_cons (re_var (i := 3)) rx_nil)))))))) (rs_if (rt_test (re_op ro_eq (re_ofV (rv_fld cl_FunctionChecker na_FunctionChecker_own_sort (rv_var (i := 0)))) re_str)) (rs_drop (re_ofV (rv_methX xo (rv_var (i := 0)) (rx_cons (re_var (i := 1)) (rx_cons (re_var (i := 2)) (rx_cons (re_var (i := 3)) (rx_cons re_bl rx_nil))))))) (rs_drop (re_ofV (rv_methX xo (rv_var (i := 0)) (rx_cons (re_var (i := 1)) (rx_cons (re_var (i := 2)) (rx_cons (re_var (i := 3)) rx_nil))))))))))⟩
abbrev s_FunctionChecker_check_other_body : Stmt := inClass (topS 24) 11
theorem sc_FunctionChecker_check_other_body : FnScope ["self", "body", "path", "names", "word"] ["self", "body", "path", "names"] (defScope s_FunctionChecker_check_other_body) := ⟨rfl, rfl, rfl, by decide +kernel, rfl, by decide +kernel, by decide +kernel⟩
def dB_FunctionChecker_check_other_body (C_FunctionChecker : Addr) (F_require_name : FDX) (F_require_tag : FDX) (F_FunctionChecker_check_call : FO) (F_FunctionChecker_check_use : FO) (F_FunctionChecker_check_body : FO) (PX : PXt) : DS := (dSeq (dSet (dOp oIxU (dVar 1) (dC (.int 0))) 4) (dIf (dB (dOp (oEq false) (dVar 4) (dC (.str "call")))) (dDrop (dOfV (vMethX PX C_FunctionChecker "check_call" 4 F_FunctionChecker_check_call (vVar 0) (xCons (dVar 1) (xCons (dVar 2) (xCons (dVar 3) xNil)))))) (dIf (dB (dOp (oIn false) (dVar 4) (dTup (dCons (dC (.str "ask")) (dCons (dC (.str "take")) dNil))))) (dDrop (dOfV (vMethX PX C_FunctionChecker "check_use" 5 F_FunctionChecker_check_use (vVar 0) (xCons (dVar 1) (xCons (dVar 2) (xCons (dVar 3) (xCons (dOfV (vFld C_FunctionChecker "own_sort" (vVar 0))) xNil))))))) (dIf (dB (dOp (oEq false) (dVar 4) (dC (.str "root")))) (dDrop (dCallX PX 2 F_require_name (xCons (dOp (oIn false) (dOp oIxU (dVar 1) (dC (.int 1))) (dVar 3)) (xCons (dVar 2) xNil)))) (dIf (dB (dOp (oEq false) (dVar 4) (dC (.str "one")))) (dDrop (dCallX PX 2 F_require_tag (xCons (dDInE false (dOp oIxU (dVar 1) (dC (.int 1))) (dOfV (vFld C_FunctionChecker "counts_by_tag" (vVar 0)))) (xCons (dVar 2) xNil)))) (dIf (dB (dOp (oEq false) (dVar 4) (dC (.str "plus")))) (dDrop (dOfV (vMethX PX C_FunctionChecker "check_body" 4 F_FunctionChecker_check_body (vVar 0) (xCons (dOp oIxU (dVar 1) (dC (.int 2))) (xCons (dOp oCatU (dVar 2) (dTup (dCons (dC (.int 2)) dNil))) (xCons (dVar 3) xNil)))))) (dIf (dB (dOp (oIn false) (dVar 4) (dC c_DOUBLE_BODIES))) (dSeq (dDrop (dOfV (vMethX PX C_FunctionChecker "check_body" 4 F_FunctionChecker_check_body (vVar 0) (xCons (dOp oIxU (dVar 1) (dC (.int 1))) (xCons (dOp oCatU (dVar 2) (dTup (dCons (dC (.int 1)) dNil))) (xCons (dVar 3) xNil)))))) (dDrop (dOfV (vMethX PX C_FunctionChecker "check_body" 4 F_FunctionChecker_check_body (vVar 0) (xCons (dOp oIxU (dVar 1) (dC (.int 2))) (xCons (dOp oCatU (dVar 2) (dTup (dCons (dC (.int 2)) dNil))) (xCons (dVar 3) xNil))))))) dNext)))))))
theorem ok_FunctionChecker_check_other_body {C_FunctionChecker : Addr} {P : Program} {w : World} {K : PySem.W.Frag} {mg : Str → Option Value} {base : Heap} {f : Addr} {fd : FuncData} {k : Nat} {F_require_name : FDX} {F_require_tag : FDX} {F_FunctionChecker_check_call : FO} {F_FunctionChecker_check_use : FO} {F_FunctionChecker_check_body : FO} (F : L2.Fun K "check_other_body" "FunctionChecker.check_other_body" s_FunctionChecker_check_other_body f fd)
    {k0 : Nat} {k1 : Nat} {k2 : Nat} {k3 : Nat} {k4 : Nat} (cl_FunctionChecker : Cls K C_FunctionChecker) (na_FunctionChecker_counts_by_tag : NoAttr K C_FunctionChecker "counts_by_tag") (na_FunctionChecker_own_sort : NoAttr K C_FunctionChecker "own_sort") (D_require_name : DfX P w K mg base k0 "require_name" ["condition", "path"] (spX K 2 F_require_name)) (D_require_tag : DfX P w K mg base k1 "require_tag" ["condition", "path"] (spX K 2 F_require_tag)) (DM_FunctionChecker_check_call : DfM P w K mg base k2 C_FunctionChecker "check_call" ["self", "body", "path", "names"] (spO K 4 F_FunctionChecker_check_call)) (DM_FunctionChecker_check_use : DfM P w K mg base k3 C_FunctionChecker "check_use" ["self", "part", "path", "names", "sort"] (spO K 5 F_FunctionChecker_check_use)) (DM_FunctionChecker_check_body : DfM P w K mg base k4 C_FunctionChecker "check_body" ["self", "body", "path", "names"] (spO K 4 F_FunctionChecker_check_body)) {a_DOUBLE_BODIES : Addr} (g_DOUBLE_BODIES : mg "DOUBLE_BODIES" = some (.ref a_DOUBLE_BODIES)) (kd_DOUBLE_BODIES : ∀ H, Da K H (.ref a_DOUBLE_BODIES) c_DOUBLE_BODIES) (h_k0 : k0 ≤ k) (h_k1 : k1 ≤ k) (h_k2 : k2 ≤ k) (h_k3 : k3 ≤ k) (h_k4 : k4 ≤ k) :
    Fgx P w K mg base (k + 1) f fd ["self", "body", "path", "names"] (spO K 4 (bodyO (dB_FunctionChecker_check_other_body C_FunctionChecker F_require_name F_require_tag F_FunctionChecker_check_call F_FunctionChecker_check_use F_FunctionChecker_check_body) 1)) :=
  okdOX (m := 4) rfl F sc_FunctionChecker_check_other_body fun cdv A outer s H E hr W B H0 G0 Z0 PX xo => ⟨_, (pss_cons (ps_set (i := 4) sc_FunctionChecker_check_other_body.nd rfl (Or.inl rfl) (pe_ix ix_tup (pv 1) pe_int (fun _ _ => rfl))) (pss_one (ps_if (pt_cmpR op_eq (pv 4) pe_str (nomark _)) (pss_one (ps_expr (mcallx (takes_of rfl rfl rfl rfl) DM_FunctionChecker_check_call (hr.mono (h_k2)) (pv 0) (pa_cons (pv 1) (pa_cons (pv 2) (pa_cons (pv 3) pa_nil)))))) (pss_one (ps_if (pt_cmpR op_in_seq (pv 4) (pe_tupP (pa_cons pe_str (pa_cons pe_str pa_nil))) (by rfl)) (pss_one (ps_expr (mcallx (takes_of rfl rfl rfl rfl) DM_FunctionChecker_check_use (hr.mono (h_k3)) (pv 0) (pa_cons (pv 1) (pa_cons (pv 2) (pa_cons (pv 3) (pa_cons (pe_fld (pv 0) (by rfl)) pa_nil))))))) (pss_one (ps_if (pt_cmpR op_eq (pv 4) pe_str (nomark _)) (pss_one (ps_expr (dcallx (takes_of rfl rfl rfl rfl) D_require_name (hr.mono (h_k0)) (by rfl) (pa_cons (pe_cmpR op_in_seq (pe_ix ix_tup (pv 1) pe_int (fun _ _ => rfl)) (pv 3) (by rfl)) (pa_cons (pv 2) pa_nil))))) (pss_one (ps_if (pt_cmpR op_eq (pv 4) pe_str (nomark _)) (pss_one (ps_expr (dcallx (takes_of rfl rfl rfl rfl) D_require_tag (hr.mono (h_k1)) (by rfl) (pa_cons (pe_cmp (pc_din (hu_of hr.room) (pe_ix ix_tup (pv 1) pe_int (fun _ _ => rfl)) (pe_fld (pv 0) (by rfl))) (by rfl)) (pa_cons (pv 2) pa_nil))))) (pss_one (ps_if (pt_cmpR op_eq (pv 4) pe_str (nomark _)) (pss_one (ps_expr (mcallx (takes_of rfl rfl rfl rfl) DM_FunctionChecker_check_body (hr.mono (h_k4)) (pv 0) (pa_cons (pe_ix ix_tup (pv 1) pe_int (fun _ _ => rfl)) (pa_cons (pe_op op_catP (pv 2) (pe_tupP (pa_cons pe_int pa_nil))) (pa_cons (pv 3) pa_nil)))))) (pss_one (ps_if (pt_cmpR op_in_seq (pv 4) (pe_glob (v := .ref a_DOUBLE_BODIES) (by rfl) g_DOUBLE_BODIES rfl) (by rfl)) (pss_cons (ps_expr (mcallx (takes_of rfl rfl rfl rfl) DM_FunctionChecker_check_body (hr.mono (h_k4)) (pv 0) (pa_cons (pe_ix ix_tup (pv 1) pe_int (fun _ _ => rfl)) (pa_cons (pe_op op_catP (pv 2) (pe_tupP (pa_cons pe_int pa_nil))) (pa_cons (pv 3) pa_nil))))) (pss_one (ps_expr (mcallx (takes_of rfl rfl rfl rfl) DM_FunctionChecker_check_body (hr.mono (h_k4)) (pv 0) (pa_cons (pe_ix ix_tup (pv 1) pe_int (fun _ _ => rfl)) (pa_cons (pe_op op_catP (pv 2) (pe_tupP (pa_cons pe_int pa_nil))) (pa_cons (pv 3) pa_nil))))))) pss_nil))))))))))))),
    (rs_seq (rs_set (i := 4) (re_op ro_ixU (re_var (i := 1)) re_int)) (rs_if (rt_test (re_op ro_eq (re_var (i := 4)) re_str)) (rs_drop (re_ofV (rv_methX xo (rv_var (i := 0)) (rx_cons (re_var (i := 1)) (rx_cons (re_var (i := 2)) (rx_cons (re_var (i := 3)) rx_nil)))))) (rs_if (rt_test (re_op ro_in (re_var (i := 4)) (re_tup (ra_cons re_str (ra_cons re_str ra_nil))))) (rs_drop (re_ofV (rv_methX xo (rv_var (i := 0)) (rx_cons (re_var (i := 1)) (rx_cons (re_var (i := 2)) (rx_cons (re_var (i := 3)) (rx_cons (re_ofV (rv_fld cl_FunctionChecker na_FunctionChecker_own_sort (rv_var (i := 0)))) rx_nil))))))) (rs_if (rt_test (re_op ro_eq (re_var (i := 4)) re_str)) (rs_drop (re_callX xo (rx_cons (re_op ro_in (re_op ro_ixU (re_var (i := 1)) re_int) (re_var (i := 3))) (rx_cons (re_var (i := 2)) rx_nil)))) (rs_if (rt_test (re_op ro_eq (re_var (i := 4)) re_str)) (rs_drop (re_callX xo (rx_cons (re_dInE (re_op ro_ixU (re_var (i := 1)) re_int) (re_ofV (rv_fld cl_FunctionChecker na_FunctionChecker_counts_by_tag (rv_var (i := 0))))) (rx_cons (re_var (i := 2)) rx_nil)))) (rs_if (rt_test (re_op ro_eq (re_var (i := 4)) re_str)) (rs_drop (re_ofV (rv_methX xo (rv_var (i := 0)) (rx_cons (re_op ro_ixU (re_var (i := 1)) re_int) (rx_cons (re_op ro_catU (re_var (i := 2)) (re_tup (ra_cons re_int ra_nil))) (rx_cons (re_var (i := 3)) rx_nil)))))) (rs_if (rt_test (re_op ro_in (re_var (i := 4)) (re_kd kd_DOUBLE_BODIES))) (rs_seq (rs_drop (re_ofV (rv_methX xo (rv_var (i := 0)) (rx_cons (re_op ro_ixU (re_var (i := 1)) re_int) (rx_cons (re_op ro_catU (re_var (i := 2)) (re_tup (ra_cons re_int ra_nil))) (rx_cons (re_var (i := 3)) rx_nil)))))) (rs_drop (re_ofV (rv_methX xo (rv_var (i := 0)) (rx_cons (re_op ro_ixU (re_var (i := 1)) re_int) (rx_cons (re_op ro_catU (re_var (i := 2)) (re_tup (ra_cons re_int ra_nil))) (rx_cons (re_var (i := 3)) rx_nil))))))) rs_next)))))))⟩
abbrev s_check_program : Stmt := topS 25
theorem sc_check_program : FnScope ["program", "signature", "groups", "counts", "known", "group_number", "sort", "functions", "checker", "index", "name", "params", "rank", "body"] ["program"] (defScope s_check_program) := ⟨rfl, rfl, rfl, by decide +kernel, rfl, by decide +kernel, by decide +kernel⟩
def dB_check_program (C_FunctionChecker : Addr) (F_field_counts : FD) (F_FunctionChecker___init__ : FO) (F_FunctionChecker_check_body : FO) (PX : PXt) : DS := (dSeq (dAsg (dVar 0) (gdTup 2 (gdCons (gdN 1) (gdCons (gdN 2) gdNil)))) (dSeq (dParV 3 4 (vD (dCall 1 F_field_counts (xCons (dVar 1) xNil))) vNew0) (dFor (dEnumT (dVar 2)) (gdTup 2 (gdCons (gdN 5) (gdCons (gdTup 2 (gdCons (gdN 6) (gdCons (gdN 7) gdNil))) gdNil))) (dSeq (dDrop (dOUpd (vVar 4) (dNewD (dDcomp (dAsU (dVar 7)) (gdTup 4 (gdCons (gdN 10) (gdCons (gdN 11) (gdCons (gdN 12) (gdCons (gdN 13) gdNil))))) dYes (dVar 10) (dTup (dCons (dVar 5) (dCons (dVar 6) (dCons (dLenL (dAsU (dVar 11))) dNil)))) [10, 11, 12, 13])))) (dSeq (dSetV (vMakeX PX C_FunctionChecker 5 F_FunctionChecker___init__ (xCons (dVar 3) (xV (vVar 4) (xCons (dVar 5) (xCons (dVar 6) xNil))))) 8) (dFor (dEnumT (dVar 7)) (gdTup 2 (gdCons (gdN 9) (gdCons (gdTup 4 (gdCons (gdN 10) (gdCons (gdN 11) (gdCons (gdN 12) (gdCons (gdN 13) gdNil))))) gdNil))) (dDrop (dOfV (vMethX PX C_FunctionChecker "check_body" 4 F_FunctionChecker_check_body (vVar 8) (xCons (dVar 13) (xCons (dTup (dCons (dC (.int 1)) (dCons (dVar 5) (dCons (dC (.int 1)) (dCons (dVar 9) (dCons (dC (.int 3)) dNil)))))) (xCons (dVar 11) xNil))))))))))))
theorem ok_check_program {C_FunctionChecker : Addr} {P : Program} {w : World} {K : PySem.W.Frag} {mg : Str → Option Value} {base : Heap} {f : Addr} {fd : FuncData} {k : Nat} {F_field_counts : FD} {F_FunctionChecker___init__ : FO} {F_FunctionChecker_check_body : FO} (F : L2.Fun K "check_program" "check_program" s_check_program f fd)
    {k0 : Nat} {k1 : Nat} {k2 : Nat} (cl_FunctionChecker : Cls K C_FunctionChecker) (D_field_counts : Df P w K mg base k0 "field_counts" ["signature"] (spOf K 1 F_field_counts)) (DC_FunctionChecker : DfC P w K mg base k1 "FunctionChecker" C_FunctionChecker ["self", "counts", "functions", "group_number", "sort"] (spO K 5 F_FunctionChecker___init__)) (DM_FunctionChecker_check_body : DfM P w K mg base k2 C_FunctionChecker "check_body" ["self", "body", "path", "names"] (spO K 4 F_FunctionChecker_check_body)) (m_enumerate : mg "enumerate" = none) (m_len : mg "len" = none) (h_k0 : k0 ≤ k) (h_k1 : k1 + 1 ≤ k) (h_k2 : k2 ≤ k) :
    Fgx P w K mg base (k + 1) f fd ["program"] (spO K 1 (bodyO (dB_check_program C_FunctionChecker F_field_counts F_FunctionChecker___init__ F_FunctionChecker_check_body) 13)) :=
  okdOX (m := 1) rfl F sc_check_program fun cdv A outer s H E hr W B H0 G0 Z0 PX xo => ⟨_, (pss_cons (ps_asg (pv 0) (pg_tup rfl (pgs_cons (pg_name (i := 1) sc_check_program.nd rfl (Or.inl rfl)) (pgs_cons (pg_name (i := 2) sc_check_program.nd rfl (Or.inl rfl)) pgs_nil)))) (pss_cons (ps_par (i := 3) (j := 4) (by rfl) sc_check_program.nd rfl rfl (by decide) rfl rfl (pa_cons (dcall D_field_counts (hr.mono (h_k0)) (by rfl) (pa_cons (pv 1) pa_nil)) (pa_cons pe_dnewK pa_nil)) (by rfl)) (pss_one (ps_for (passes_of rfl) rfl (ENT.pi_enumT (by rfl) m_enumerate (pa_cons (pv 2) pa_nil)) (pg_tup rfl (pgs_cons (pg_name (i := 5) sc_check_program.nd rfl (Or.inr rfl)) (pgs_cons (pg_tup rfl (pgs_cons (pg_name (i := 6) sc_check_program.nd rfl (Or.inr rfl)) (pgs_cons (pg_name (i := 7) sc_check_program.nd rfl (Or.inl rfl)) pgs_nil))) pgs_nil))) (pss_cons (ps_expr (UPK.pe_updK (pv 4) (pe_dc (own := [("name", 10), ("params", 11), ("rank", 12), ("body", 13)]) (g := _) rfl sc_check_program.nd (pi_tup (pv 7)) (blkOk_by (own := [("name", 10), ("params", 11), ("rank", 12), ("body", 13)]) (N := ["program", "signature", "groups", "counts", "known", "group_number", "sort", "functions", "checker", "index", "name", "params", "rank", "body"]) (sc := defScope s_check_program) (by decide +kernel)) (fun _ _ _ _ _ => (pg_tup rfl (pgs_cons (pg_name (i := 10) sc_check_program.nd rfl (Or.inl rfl)) (pgs_cons (pg_name (i := 11) sc_check_program.nd rfl (Or.inl rfl)) (pgs_cons (pg_name (i := 12) sc_check_program.nd rfl (Or.inl rfl)) (pgs_cons (pg_name (i := 13) sc_check_program.nd rfl (Or.inl rfl)) pgs_nil)))))) (fun _ _ _ _ _ => pts_nil) (fun _ _ _ _ _ => (pv 10)) (fun _ _ _ _ _ => (pe_tupP (pa_cons (pv 5) (pa_cons (pv 6) (pa_cons (pe_callB call_len_seq (by rfl) m_len (by decide +kernel) (pa_cons (pv 11) pa_nil)) pa_nil)))))) ⟨rfl, rfl, rfl, rfl⟩)) (pss_cons (ps_set (i := 8) sc_check_program.nd rfl (Or.inl rfl) (newx (takes_of rfl rfl rfl rfl) DC_FunctionChecker (hr.mono (h_k1)) (by rfl) (pa_cons (pv 3) (pa_cons (pv 4) (pa_cons (pv 5) (pa_cons (pv 6) pa_nil)))))) (pss_one (ps_for (passes_of rfl) rfl (ENT.pi_enumT (by rfl) m_enumerate (pa_cons (pv 7) pa_nil)) (pg_tup rfl (pgs_cons (pg_name (i := 9) sc_check_program.nd rfl (Or.inl rfl)) (pgs_cons (pg_tup rfl (pgs_cons (pg_name (i := 10) sc_check_program.nd rfl (Or.inl rfl)) (pgs_cons (pg_name (i := 11) sc_check_program.nd rfl (Or.inl rfl)) (pgs_cons (pg_name (i := 12) sc_check_program.nd rfl (Or.inl rfl)) (pgs_cons (pg_name (i := 13) sc_check_program.nd rfl (Or.inl rfl)) pgs_nil))))) pgs_nil))) (pss_one (ps_expr (mcallx (takes_of rfl rfl rfl rfl) DM_FunctionChecker_check_body (hr.mono (h_k2)) (pv 8) (pa_cons (pv 13) (pa_cons (pe_tupP (pa_cons pe_int (pa_cons (pv 5) (pa_cons pe_int (pa_cons (pv 9) (pa_cons pe_int pa_nil)))))) (pa_cons (pv 11) pa_nil)))))))))))))),
    (rs_seq (rs_asg (re_var (i := 0)) (rg_tup (rgs_cons (rg_name (i := 1)) (rgs_cons (rg_name (i := 2)) rgs_nil)))) (rs_seq (rs_parV (i := 3) (j := 4) (rv_d (re_call (rx_cons (re_var (i := 1)) rx_nil))) rv_new0) (rs_for (ri_enumT (re_var (i := 2))) (rg_tup (rgs_cons (rg_name (i := 5)) (rgs_cons (rg_tup (rgs_cons (rg_name (i := 6)) (rgs_cons (rg_name (i := 7)) rgs_nil))) rgs_nil))) (rs_seq (rs_drop (re_oUpd (rv_var (i := 4)) (re_newD (rd_dcomp (vs := [10, 11, 12, 13]) (ri_tup (re_var (i := 7))) (rgv_tup (rgvs_cons (rgv_name (i := 10) (by decide)) (rgvs_cons (rgv_name (i := 11) (by decide)) (rgvs_cons (rgv_name (i := 12) (by decide)) (rgvs_cons (rgv_name (i := 13) (by decide)) rgvs_nil))))) (gw_tup (gws_cons (gw_name (i := 10) (by decide)) (gws_cons (gw_name (i := 11) (by decide)) (gws_cons (gw_name (i := 12) (by decide)) (gws_cons (gw_name (i := 13) (by decide)) gws_nil))))) rt_yes (re_var (i := 10)) (re_tup (ra_cons (re_var (i := 5)) (ra_cons (re_var (i := 6)) (ra_cons (re_lenU (ru_of (re_var (i := 11)))) ra_nil)))))))) (rs_seq (rs_setV (i := 8) (rv_makeX xo (rx_cons (re_var (i := 3)) (rx_V (rv_var (i := 4)) (rx_cons (re_var (i := 5)) (rx_cons (re_var (i := 6)) rx_nil)))))) (rs_for (ri_enumT (re_var (i := 7))) (rg_tup (rgs_cons (rg_name (i := 9)) (rgs_cons (rg_tup (rgs_cons (rg_name (i := 10)) (rgs_cons (rg_name (i := 11)) (rgs_cons (rg_name (i := 12)) (rgs_cons (rg_name (i := 13)) rgs_nil))))) rgs_nil))) (rs_drop (re_ofV (rv_methX xo (rv_var (i := 8)) (rx_cons (re_var (i := 13)) (rx_cons (re_tup (ra_cons re_int (ra_cons (re_var (i := 5)) (ra_cons re_int (ra_cons (re_var (i := 9)) (ra_cons re_int ra_nil)))))) (rx_cons (re_var (i := 11)) rx_nil))))))))))))⟩
end K58


set_option Elab.async false
set_option linter.all false
set_option maxRecDepth 100000
set_option maxHeartbeats 4000000
namespace K58
open PySem PySem.Spec PyProof.Rows L2 GG DD PT DL GXR
abbrev s_pick : Stmt := topS 29
theorem sc_pick : FnScope ["_law_deck_here", "_law_items"] ["_law_deck_here", "_law_items"] (defScope s_pick) := ⟨rfl, rfl, rfl, by decide +kernel, rfl, by decide +kernel, by decide +kernel⟩
def dB_pick (F_draw : FD) : DS := (dRet (dOp oIxQ (dVar 1) (dCall 2 F_draw (xDeck 0 (xCons (dLenD (dVar 1)) xNil)))))
theorem ok_pick {P : Program} {w : World} {K : PySem.W.Frag} {mg : Str → Option Value} {base : Heap} {f : Addr} {fd : FuncData} {k : Nat} {F_draw : FD} (F : L2.Fun K "_law_pick" "_law_pick" s_pick f fd)
    {k0 : Nat} (D_draw : Df P w K mg base k0 "_law_draw" ["_law_deck_here", "_law_bound"] (spOf K 2 F_draw)) (m_len : mg "len" = none) (h_k0 : k0 ≤ k) :
    Fg P w K mg base (k + 1) f fd ["_law_deck_here", "_law_items"] (spOf K 2 (bodyD (dB_pick F_draw) 0)) :=
  okd (m := 2) rfl F sc_pick fun cdv A outer s H hr W B H0 G0 Z0 => ⟨_, (pss_one (ps_ret (pe_ix ix_seq (pv 1) (dcall D_draw (hr.mono (h_k0)) (by rfl) (pa_cons (pv 0) (pa_cons (pe_callB call_len_seq (by rfl) m_len (by decide +kernel) (pa_cons (pv 1) pa_nil)) pa_nil))) (fun _ _ => rfl)))),
    (rs_ret (re_op ro_ixQ (re_var (i := 1)) (re_call (rx_deck (i := 0) (rx_cons (re_lenD (re_var (i := 1))) rx_nil)))))⟩
abbrev s_ranks : Stmt := topS 30
theorem sc_ranks : FnScope ["_law_deck_here", "_law_count", "_law_way", "_law_first", "_law_k"] ["_law_deck_here", "_law_count"] (defScope s_ranks) := ⟨rfl, rfl, rfl, by decide +kernel, rfl, by decide +kernel, by decide +kernel⟩
def dB_ranks (F_draw : FD) : DS := (dSeq (dPar 2 3 (dCons (dCall 2 F_draw (xDeck 0 (xCons (dC (.int 4)) xNil))) (dCons (dCall 2 F_draw (xDeck 0 (xCons (dC (.int 10)) xNil))) dNil))) (dSeq (dIf (dB (dOp (oEq false) (dVar 2) (dC (.int 0)))) (dRet (dNewL (dComp (dRng1 (dVar 1)) (gdN 4) dYes (dCall 2 F_draw (xDeck 0 (xCons (dC (.int 10)) xNil))) [4]))) dNext) (dSeq (dIf (dB (dOp (oEq false) (dVar 2) (dC (.int 1)))) (dRet (dNewL (dComp (dRng1 (dVar 1)) (gdN 4) dYes (dOp (oI (fun _ j => 0 < j) fun i j => i % j) (dOp (oI0 fun i j => i + j) (dVar 3) (dOp (oI CMul fun i j => i * j) (dC (.int 2)) (dCall 2 F_draw (xDeck 0 (xCons (dC (.int 5)) xNil))))) (dC (.int 10))) [4]))) dNext) (dRet (dIfE (dB (dOp (oEq false) (dVar 2) (dC (.int 2)))) (dNewL (dComp (dRng1 (dVar 1)) (gdN 4) dYes (dOp (oI (fun _ j => 0 < j) fun i j => i % j) (dOp (oI0 fun i j => i + j) (dVar 3) (dVar 4)) (dC (.int 10))) [4])) (dNewL (dRep (dNewL (dLst (dCons (dVar 3) dNil))) (dVar 1))))))))
theorem ok_ranks {P : Program} {w : World} {K : PySem.W.Frag} {mg : Str → Option Value} {base : Heap} {f : Addr} {fd : FuncData} {k : Nat} {F_draw : FD} (F : L2.Fun K "_law_ranks" "_law_ranks" s_ranks f fd)
    {k0 : Nat} (D_draw : Df P w K mg base k0 "_law_draw" ["_law_deck_here", "_law_bound"] (spOf K 2 F_draw)) (m_range : mg "range" = none) (h_k0 : k0 ≤ k) :
    Fg P w K mg base (k + 1) f fd ["_law_deck_here", "_law_count"] (spOf K 2 (bodyD (dB_ranks F_draw) 3)) :=
  okd (m := 2) rfl F sc_ranks fun cdv A outer s H hr W B H0 G0 Z0 => ⟨_, (pss_cons (ps_asg (pe_tupP (pa_cons (dcall D_draw (hr.mono (h_k0)) (by rfl) (pa_cons (pv 0) (pa_cons pe_int pa_nil))) (pa_cons (dcall D_draw (hr.mono (h_k0)) (by rfl) (pa_cons (pv 0) (pa_cons pe_int pa_nil))) pa_nil))) (pg_tup rfl (pgs_cons (pg_name (i := 2) sc_ranks.nd rfl (Or.inl rfl)) (pgs_cons (pg_name (i := 3) sc_ranks.nd rfl (Or.inr rfl)) pgs_nil)))) (pss_cons (ps_if (pt_cmpR op_eq (pv 2) pe_int (nomark _)) (pss_one (ps_ret (pe_lc (own := [("_law_k", 4)]) (g := (gName 4)) rfl sc_ranks.nd (pi_range1 (by rfl) m_range (pa_cons (pv 1) pa_nil)) (blkOk_by (own := [("_law_k", 4)]) (N := ["_law_deck_here", "_law_count", "_law_way", "_law_first", "_law_k"]) (sc := defScope s_ranks) (by decide +kernel)) (fun _ _ _ _ _ => (pg_name (i := 4) sc_ranks.nd rfl (Or.inl rfl))) (fun _ _ _ _ _ => pts_nil) (fun _ _ _ _ _ => (dcall D_draw (hr.mono (h_k0)) (by rfl) (pa_cons (pv 0) (pa_cons pe_int pa_nil))))))) pss_nil) (pss_cons (ps_if (pt_cmpR op_eq (pv 2) pe_int (nomark _)) (pss_one (ps_ret (pe_lc (own := [("_law_k", 4)]) (g := (gName 4)) rfl sc_ranks.nd (pi_range1 (by rfl) m_range (pa_cons (pv 1) pa_nil)) (blkOk_by (own := [("_law_k", 4)]) (N := ["_law_deck_here", "_law_count", "_law_way", "_law_first", "_law_k"]) (sc := defScope s_ranks) (by decide +kernel)) (fun _ _ _ _ _ => (pg_name (i := 4) sc_ranks.nd rfl (Or.inl rfl))) (fun _ _ _ _ _ => pts_nil) (fun _ _ _ _ _ => (pe_op op_mod (pe_op op_add (pv 3) (pe_op op_mul pe_int (dcall D_draw (hr.mono (h_k0)) (by rfl) (pa_cons (pv 0) (pa_cons pe_int pa_nil))))) pe_int))))) pss_nil) (pss_one (ps_ret (pe_ifExp (pt_cmpR op_eq (pv 2) pe_int (nomark _)) (pe_lc (own := [("_law_k", 4)]) (g := (gName 4)) rfl sc_ranks.nd (pi_range1 (by rfl) m_range (pa_cons (pv 1) pa_nil)) (blkOk_by (own := [("_law_k", 4)]) (N := ["_law_deck_here", "_law_count", "_law_way", "_law_first", "_law_k"]) (sc := defScope s_ranks) (by decide +kernel)) (fun _ _ _ _ _ => (pg_name (i := 4) sc_ranks.nd rfl (Or.inl rfl))) (fun _ _ _ _ _ => pts_nil) (fun _ _ _ _ _ => (pe_op op_mod (pe_op op_add (pv 3) (pv 4)) pe_int))) (pe_op op_rep (pe_lst (pa_cons (pv 3) pa_nil)) (pv 1)))))))),
    (rs_seq (rs_tup2 (i := 2) (j := 3) (ra_cons (re_call (rx_deck (i := 0) (rx_cons re_int rx_nil))) (ra_cons (re_call (rx_deck (i := 0) (rx_cons re_int rx_nil))) ra_nil))) (rs_seq (rs_if (rt_test (re_op ro_eq (re_var (i := 2)) re_int)) (rs_ret (re_new (rf_comp (vs := [4]) (ri_rng1 (re_var (i := 1))) (rgv_name (i := 4) (by decide)) (gw_name (i := 4) (by decide)) rt_yes (re_call (rx_deck (i := 0) (rx_cons re_int rx_nil)))))) rs_next) (rs_seq (rs_if (rt_test (re_op ro_eq (re_var (i := 2)) re_int)) (rs_ret (re_new (rf_comp (vs := [4]) (ri_rng1 (re_var (i := 1))) (rgv_name (i := 4) (by decide)) (gw_name (i := 4) (by decide)) rt_yes (re_op ro_I (re_op ro_I0 (re_var (i := 3)) (re_op ro_I re_int (re_call (rx_deck (i := 0) (rx_cons re_int rx_nil))))) re_int)))) rs_next) (rs_ret (re_if (rt_test (re_op ro_eq (re_var (i := 2)) re_int)) (re_new (rf_comp (vs := [4]) (ri_rng1 (re_var (i := 1))) (rgv_name (i := 4) (by decide)) (gw_name (i := 4) (by decide)) rt_yes (re_op ro_I (re_op ro_I0 (re_var (i := 3)) (re_var (i := 4))) re_int))) (re_new (rf_rep (re_new (rf_lst (ra_cons (re_var (i := 3)) ra_nil))) (re_var (i := 1)))))))))⟩
abbrev s_l_pressed : Stmt := topS 31
theorem sc_l_pressed : FnScope ["_law_ranks_here", "_law_found", "_law_number", "_law_rank"] ["_law_ranks_here"] (defScope s_l_pressed) := ⟨rfl, rfl, rfl, by decide +kernel, rfl, by decide +kernel, by decide +kernel⟩
def dB_l_pressed  : DS := (dSeq (dPar0E 1 2 (dC (.int 0))) (dSeq (dFor (dRng1 (dC (.int 10))) (gdN 3) (dIf (dB (dOp (oIn false) (dVar 3) (dVar 0))) (dSeq (dIf (dB (dEqK0 1)) (dSet (dOp (oI (fun _ j => 0 < j) fun i j => i % j) (dVar 3) (dC (.int 2))) 2) (dIf (dB (dOp (oEq true) (dOp (oI (fun _ j => 0 < j) fun i j => i % j) (dVar 2) (dC (.int 2))) (dOp (oI (fun _ j => 0 < j) fun i j => i % j) (dVar 3) (dC (.int 2))))) (dSet (dOp (oI0 fun i j => i + j) (dVar 2) (dC (.int 1))) 2) dNext)) (dDPut 1 (dVar 3) (dVar 2))) dNext)) (dRet (dNewL (dComp (dAsL (dVar 0)) (gdN 3) dYes (dDGet 1 (dVar 3)) [3])))))
theorem ok_l_pressed {P : Program} {w : World} {K : PySem.W.Frag} {mg : Str → Option Value} {base : Heap} {f : Addr} {fd : FuncData} {k : Nat}  (F : L2.Fun K "_law_pressed" "_law_pressed" s_l_pressed f fd)
    (m_range : mg "range" = none)  :
    Fg P w K mg base (k + 1) f fd ["_law_ranks_here"] (spOf K 1 (bodyD (dB_l_pressed ) 3)) :=
  okd (m := 1) rfl F sc_l_pressed fun cdv A outer s H hr W B H0 G0 Z0 => ⟨_, (pss_cons (ps_asg (pe_tupP (pa_cons pe_dnewK (pa_cons pe_int pa_nil))) (pg_tup rfl (pgs_cons (pg_name (i := 1) sc_l_pressed.nd rfl (Or.inr rfl)) (pgs_cons (pg_name (i := 2) sc_l_pressed.nd rfl (Or.inl rfl)) pgs_nil)))) (pss_cons (ps_for PassesOwn.never rfl (pi_range1 (by rfl) m_range (pa_cons pe_int pa_nil)) (pg_name (i := 3) sc_l_pressed.nd rfl (Or.inl rfl)) (pss_one (ps_if (pt_cmpR op_in_seq (pv 3) (pv 0) (by rfl)) (pss_cons (ps_if (pt_cmpR (UPT.op_eqK0 (Nat.lt_of_le_of_lt (Nat.le_add_right _ _) hr.room.units)) (pv 1) pe_dnewK (nomark _)) (pss_one (ps_set (i := 2) sc_l_pressed.nd rfl (Or.inl rfl) (pe_op op_mod (pv 3) pe_int))) (pss_one (ps_if (pt_cmpR op_ne (pe_op op_mod (pv 2) pe_int) (pe_op op_mod (pv 3) pe_int) (nomark _)) (pss_one (ps_set (i := 2) sc_l_pressed.nd rfl (Or.inl rfl) (pe_op op_add (pv 2) pe_int))) pss_nil))) (pss_one (ps_dput (hu_of hr.room) (pv 1) (pv 3) (pv 2) (by rfl)))) pss_nil))) (pss_one (ps_ret (pe_lc (own := [("_law_rank", 3)]) (g := (gName 3)) rfl sc_l_pressed.nd (pi_list (pv 0)) (blkOk_by (own := [("_law_rank", 3)]) (N := ["_law_ranks_here", "_law_found", "_law_number", "_law_rank"]) (sc := defScope s_l_pressed) (by decide +kernel)) (fun _ _ _ _ _ => (pg_name (i := 3) sc_l_pressed.nd rfl (Or.inl rfl))) (fun _ _ _ _ _ => pts_nil) (fun _ _ _ _ _ => (pe_dget (hu_of hr.room) (pv 1) (pv 3) (fun _ _ => rfl)))))))),
    (rs_seq (rs_tup0E (i := 1) (j := 2) re_int) (rs_seq (rs_for (ri_rng1 re_int) (rg_name (i := 3)) (rs_if (rt_test (re_op ro_in (re_var (i := 3)) (re_var (i := 0)))) (rs_seq (rs_if (rt_test (re_eqK0 (i := 1))) (rs_set (i := 2) (re_op ro_I (re_var (i := 3)) re_int)) (rs_if (rt_test (re_op ro_ne (re_op ro_I (re_var (i := 2)) re_int) (re_op ro_I (re_var (i := 3)) re_int))) (rs_set (i := 2) (re_op ro_I0 (re_var (i := 2)) re_int)) rs_next)) (rs_dPut (i := 1) (re_var (i := 3)) (re_var (i := 2)))) rs_next)) (rs_ret (re_new (rf_comp (vs := [3]) (ri_list (re_var (i := 0))) (rgv_name (i := 3) (by decide)) (gw_name (i := 3) (by decide)) rt_yes (re_dGet (i := 1) (re_var (i := 3))))))))⟩
abbrev s_functions : Stmt := topS 32
theorem sc_functions : FnScope ["_law_deck_here", "_law_letter", "_law_ranks_here", "_law_found", "_law_k", "_law_name", "_law_body"] ["_law_deck_here", "_law_letter", "_law_ranks_here"] (defScope s_functions) := ⟨rfl, rfl, rfl, by decide +kernel, rfl, by decide +kernel, by decide +kernel⟩
def dB_functions (F_pick : FD) : DS := (dSeq (dSetO (dLst dNil) 3) (dSeq (dFor (dRng1 (dLenL (dListVar 2))) (gdN 4) (dSeq (dSet (dOp oCatS (dOp oCatS (dC (.str "f")) (dVar 1)) (dOp oIxS (dC (.str "abcdefghij")) (dVar 4))) 5) (dSeq (dSet (dCall 2 F_pick (xDeck 0 (xCons (dNewL (dLst (dCons (dTup (dCons (dC (.str "yes")) dNil)) (dCons (dTup (dCons (dC (.str "call")) (dCons (dVar 5) (dCons (dTup (dCons (dTup (dCons (dC (.str "part")) (dCons (dC (.str "x")) dNil))) dNil)) dNil)))) (dCons (dTup (dCons (dC (.str "or")) (dCons (dTup (dCons (dC (.str "no")) dNil)) (dCons (dTup (dCons (dC (.str "yes")) dNil)) dNil)))) dNil))))) xNil))) 6) (dApp 3 (dTup (dCons (dVar 5) (dCons (dTup (dCons (dC (.str "x")) dNil)) (dCons (dIxVar 2 (dVar 4)) (dCons (dVar 6) dNil))))))))) (dRet (dTupOf (dListVar 3)))))
theorem ok_functions {P : Program} {w : World} {K : PySem.W.Frag} {mg : Str → Option Value} {base : Heap} {f : Addr} {fd : FuncData} {k : Nat} {F_pick : FD} (F : L2.Fun K "_law_functions" "_law_functions" s_functions f fd)
    {k0 : Nat} (D_pick : Df P w K mg base k0 "_law_pick" ["_law_deck_here", "_law_items"] (spOf K 2 F_pick)) (m_len : mg "len" = none) (m_range : mg "range" = none) (m_tuple : mg "tuple" = none) (h_k0 : k0 ≤ k) :
    Fg P w K mg base (k + 1) f fd ["_law_deck_here", "_law_letter", "_law_ranks_here"] (spOf K 3 (bodyD (dB_functions F_pick) 4)) :=
  okd (m := 3) rfl F sc_functions fun cdv A outer s H hr W B H0 G0 Z0 => ⟨_, (pss_cons (ps_set (i := 3) sc_functions.nd rfl (Or.inl rfl) (pe_lst pa_nil)) (pss_cons (ps_for PassesOwn.never rfl (pi_range1 (by rfl) m_range (pa_cons (pe_callB call_len_seq (by rfl) m_len (by decide +kernel) (pa_cons (pv 2) pa_nil)) pa_nil)) (pg_name (i := 4) sc_functions.nd rfl (Or.inl rfl)) (pss_cons (ps_set (i := 5) sc_functions.nd rfl (Or.inl rfl) (pe_op op_add_str (pe_op op_add_str pe_str (pv 1)) (pe_ix ix_str pe_str (pv 4) (fun _ _ => rfl)))) (pss_cons (ps_set (i := 6) sc_functions.nd rfl (Or.inl rfl) (dcall D_pick (hr.mono (h_k0)) (by rfl) (pa_cons (pv 0) (pa_cons (pe_lst (pa_cons (pe_tupP (pa_cons pe_str pa_nil)) (pa_cons (pe_tupP (pa_cons pe_str (pa_cons (pv 5) (pa_cons (pe_tupP (pa_cons (pe_tupP (pa_cons pe_str (pa_cons pe_str pa_nil))) pa_nil)) pa_nil)))) (pa_cons (pe_tupP (pa_cons pe_str (pa_cons (pe_tupP (pa_cons pe_str pa_nil)) (pa_cons (pe_tupP (pa_cons pe_str pa_nil)) pa_nil)))) pa_nil)))) pa_nil)))) (pss_one (ps_expr (pe_bm PySem.F.plainAttrs_list PySem.F.slot_list_append PySem.F.type_list_append mt_append (pv 3) (pa_cons (pe_tupP (pa_cons (pv 5) (pa_cons (pe_tupP (pa_cons pe_str pa_nil)) (pa_cons (pe_ix ix_list (pv 2) (pv 4) (fun _ _ => rfl)) (pa_cons (pv 6) pa_nil))))) pa_nil))))))) (pss_one (ps_ret (pe_callTy call_tuple_ofP (by rfl) m_tuple (by decide +kernel) (pa_cons (pv 3) pa_nil)))))),
    (rs_seq (rs_setO (i := 3) (rf_lst ra_nil)) (rs_seq (rs_for (ri_rng1 (re_lenL (rl_var (i := 2)))) (rg_name (i := 4)) (rs_seq (rs_set (i := 5) (re_op ro_catS (re_op ro_catS re_str (re_var (i := 1))) (re_op ro_ixS re_str (re_var (i := 4))))) (rs_seq (rs_set (i := 6) (re_call (rx_deck (i := 0) (rx_cons (re_new (rf_lst (ra_cons (re_tup (ra_cons re_str ra_nil)) (ra_cons (re_tup (ra_cons re_str (ra_cons (re_var (i := 5)) (ra_cons (re_tup (ra_cons (re_tup (ra_cons re_str (ra_cons re_str ra_nil))) ra_nil)) ra_nil)))) (ra_cons (re_tup (ra_cons re_str (ra_cons (re_tup (ra_cons re_str ra_nil)) (ra_cons (re_tup (ra_cons re_str ra_nil)) ra_nil)))) ra_nil))))) rx_nil)))) (rs_app (i := 3) (re_tup (ra_cons (re_var (i := 5)) (ra_cons (re_tup (ra_cons re_str ra_nil)) (ra_cons (re_ixVar (i := 2) (re_var (i := 4))) (ra_cons (re_var (i := 6)) ra_nil))))))))) (rs_ret (re_tupL (rl_var (i := 3))))))⟩
end K58


set_option Elab.async false
set_option linter.all false
set_option maxRecDepth 100000
set_option maxHeartbeats 4000000
namespace K58
open PySem PySem.Spec PyProof.Rows L2 GG DD PT DL GXR
abbrev s_law : Stmt := topS 33
theorem sc_law : FnScope ["_law_script", "_law_deck_here", "_law_turn", "_law_groups", "_law_due", "_law_k", "_law_other", "_law_ranks_here", "_law_functions_here", "_law_numbers", "_law_rows", "_law_made", "_law_kept", "_law_told", "_law_j"] ["_law_script"] (defScope s_law) := ⟨rfl, rfl, rfl, by decide +kernel, rfl, by decide +kernel, by decide +kernel⟩
def dB_law (F_press_ranks : FD) (F_draw : FD) (F_ranks : FD) (F_functions : FD) (F_l_pressed : FD) (F_check_program : FDX) : DS := (dSeq (dFor (dRng1 (dC (.int 5))) (gdN 2) (dSeq (dParLL 3 4 (dLst dNil) (dLst dNil)) (dSeq (dFor (dRng1 (dOp (oI0 fun i j => i + j) (dC (.int 1)) (dCall 2 F_draw (xDeck 1 (xCons (dC (.int 4)) xNil))))) (gdN 5) (dIf (dB (dOp (oEq false) (dCall 2 F_draw (xDeck 1 (xCons (dC (.int 4)) xNil))) (dC (.int 0)))) (dSeq (dSet (dTup (dCons (dC (.str "gather")) (dCons (dTup (dCons (dTup (dCons (dOp oCatS (dC (.str "g")) (dOp oIxS (dC (.str "abcd")) (dVar 5))) (dCons (dTup (dCons (dC (.str "x")) dNil)) (dCons (dC (.int 0)) (dCons (dTup (dCons (dC (.str "none")) dNil)) dNil))))) dNil)) dNil))) 6) (dSeq (dApp 3 (dVar 6)) (dApp 4 (dVar 6)))) (dSeq (dSet (dCall 2 F_ranks (xDeck 1 (xCons (dOp (oI0 fun i j => i + j) (dC (.int 1)) (dCall 2 F_draw (xDeck 1 (xCons (dC (.int 4)) xNil)))) xNil))) 7) (dSeq (dSet (dCall 3 F_functions (xDeck 1 (xCons (dOp oIxS (dC (.str "abcd")) (dVar 5)) (xCons (dVar 7) xNil)))) 8) (dSeq (dSet (dCall 1 F_l_pressed (xCons (dVar 7) xNil)) 9) (dSeq (dApp 3 (dTup (dCons (dC (.str "test")) (dCons (dVar 8) dNil)))) (dSeq (dSet (dNewL (dComp (dRng1 (dLenL (dListVar 7))) (gdN 14) dYes (dOp oCatU (dOp oCatU (dSlU (dOp oIxU (dVar 8) (dVar 14)) dNoP (dPart (dC (.int 2)))) (dTup (dCons (dIxVar 9 (dVar 14)) dNil))) (dSlU (dOp oIxU (dVar 8) (dVar 14)) (dPart (dC (.int 3))) dNoP)) [14])) 10) (dApp 4 (dTup (dCons (dC (.str "test")) (dCons (dTupOf (dListVar 10)) dNil))))))))))) (dSeq (dSet (dTup (dCons (dTup (dCons (dTup (dCons (dC (.str "one")) (dCons (dC (.int 0)) dNil))) dNil)) (dCons (dTupOf (dListVar 3)) dNil))) 11) (dSeq (dPar 12 13 (dCons (dReprA (dVar 11)) (dCons (dCall 1 F_press_ranks (xCons (dVar 11) xNil)) dNil))) (dSeq (dIf (dOr (dB (dOp (oIsN true) (dCallX (fun _ _ _ => False) 1 F_check_program (xCons (dVar 11) xNil)) (dC .none))) (dB (dOp (oEq true) (dReprA (dVar 13)) (dReprA (dTup (dCons (dOp oIxU (dVar 11) (dC (.int 0))) (dCons (dTupOf (dListVar 4)) dNil))))))) (dRet (dC (.bool false))) dNext) (dIf (dOr (dB (dOp (oEqD true) (dCall 1 F_press_ranks (xCons (dVar 13) xNil)) (dVar 13))) (dOr (dB (dOp (oEqD true) (dCallP 1 F_press_ranks [0] 1 (xCons (dVar 11) xNil)) (dVar 13))) (dB (dOp (oEq true) (dReprA (dVar 11)) (dVar 12))))) (dRet (dC (.bool false))) dNext))))))) (dRet (dC (.bool true))))
theorem ok_law {P : Program} {w : World} {K : PySem.W.Frag} {mg : Str → Option Value} {base : Heap} {f : Addr} {fd : FuncData} {k : Nat} {F_press_ranks : FD} {F_draw : FD} {F_ranks : FD} {F_functions : FD} {F_l_pressed : FD} {F_check_program : FDX} (F : L2.Fun K "law" "law" s_law f fd)
    {k0 : Nat} {k1 : Nat} {k2 : Nat} {k3 : Nat} {k4 : Nat} {k5 : Nat} {k6 : Nat} (D_deck : Df P w K mg base k0 "_law_deck" ["_law_script"] (spDeckH K)) (D_press_ranks : Df P w K mg base k1 "press_ranks" ["program"] (spOf K 1 F_press_ranks)) (D_draw : Df P w K mg base k2 "_law_draw" ["_law_deck_here", "_law_bound"] (spOf K 2 F_draw)) (D_ranks : Df P w K mg base k3 "_law_ranks" ["_law_deck_here", "_law_count"] (spOf K 2 F_ranks)) (D_functions : Df P w K mg base k4 "_law_functions" ["_law_deck_here", "_law_letter", "_law_ranks_here"] (spOf K 3 F_functions)) (D_l_pressed : Df P w K mg base k5 "_law_pressed" ["_law_ranks_here"] (spOf K 1 F_l_pressed)) (D_check_program : DfX P w K mg base k6 "check_program" ["program"] (spX K 1 F_check_program)) (DK_press_ranks_program : DfK P w K mg base k1 "press_ranks" ["program"] ["program"] [0] (spOf K 1 F_press_ranks)) (m_len : mg "len" = none) (m_range : mg "range" = none) (m_repr : mg "repr" = none) (m_tuple : mg "tuple" = none) (sys : SysK K) (h_k0 : k0 ≤ k) (h_k1 : k1 ≤ k) (h_k2 : k2 ≤ k) (h_k3 : k3 ≤ k) (h_k4 : k4 ≤ k) (h_k5 : k5 ≤ k) (h_k6 : k6 ≤ k)
    (hd : dB_law F_press_ranks F_draw F_ranks F_functions F_l_pressed F_check_program { nx := fun _ => False, rt := fun v _ => v = .bool true } ⟨.un :: .deck :: List.replicate 13 .un, g0 0⟩) :
    Fg P w K mg base (k + 1) f fd ["_law_script"] (spLaw K) :=
  ok_law_of 13 F sc_law rfl hd fun cdv A outer s H hr => ⟨_, (pss_cons (ps_set (i := 1) sc_law.nd rfl (Or.inl rfl) (dcall D_deck (hr.mono (h_k0)) (by rfl) (pa_cons (pv 0) pa_nil))) (pss_cons (ps_for PassesOwn.never rfl (pi_range1 (by rfl) m_range (pa_cons pe_int pa_nil)) (pg_name (i := 2) sc_law.nd rfl (Or.inl rfl)) (pss_cons (ps_par (i := 3) (j := 4) (by rfl) sc_law.nd rfl rfl (by decide) rfl rfl (pa_cons (pe_lst pa_nil) (pa_cons (pe_lst pa_nil) pa_nil)) (by rfl)) (pss_cons (ps_for PassesOwn.never rfl (pi_range1 (by rfl) m_range (pa_cons (pe_op op_add pe_int (dcall D_draw (hr.mono (h_k2)) (by rfl) (pa_cons (pv 1) (pa_cons pe_int pa_nil)))) pa_nil)) (pg_name (i := 5) sc_law.nd rfl (Or.inl rfl)) (pss_one (ps_if (pt_cmpR op_eq (dcall D_draw (hr.mono (h_k2)) (by rfl) (pa_cons (pv 1) (pa_cons pe_int pa_nil))) pe_int (nomark _)) (pss_cons (ps_set (i := 6) sc_law.nd rfl (Or.inl rfl) (pe_tupP (pa_cons pe_str (pa_cons (pe_tupP (pa_cons (pe_tupP (pa_cons (pe_op op_add_str pe_str (pe_ix ix_str pe_str (pv 5) (fun _ _ => rfl))) (pa_cons (pe_tupP (pa_cons pe_str pa_nil)) (pa_cons pe_int (pa_cons (pe_tupP (pa_cons pe_str pa_nil)) pa_nil))))) pa_nil)) pa_nil)))) (pss_cons (ps_expr (pe_bm PySem.F.plainAttrs_list PySem.F.slot_list_append PySem.F.type_list_append mt_append (pv 3) (pa_cons (pv 6) pa_nil))) (pss_one (ps_expr (pe_bm PySem.F.plainAttrs_list PySem.F.slot_list_append PySem.F.type_list_append mt_append (pv 4) (pa_cons (pv 6) pa_nil)))))) (pss_cons (ps_set (i := 7) sc_law.nd rfl (Or.inl rfl) (dcall D_ranks (hr.mono (h_k3)) (by rfl) (pa_cons (pv 1) (pa_cons (pe_op op_add pe_int (dcall D_draw (hr.mono (h_k2)) (by rfl) (pa_cons (pv 1) (pa_cons pe_int pa_nil)))) pa_nil)))) (pss_cons (ps_set (i := 8) sc_law.nd rfl (Or.inr rfl) (dcall D_functions (hr.mono (h_k4)) (by rfl) (pa_cons (pv 1) (pa_cons (pe_ix ix_str pe_str (pv 5) (fun _ _ => rfl)) (pa_cons (pv 7) pa_nil))))) (pss_cons (ps_set (i := 9) sc_law.nd rfl (Or.inr rfl) (dcall D_l_pressed (hr.mono (h_k5)) (by rfl) (pa_cons (pv 7) pa_nil))) (pss_cons (ps_expr (pe_bm PySem.F.plainAttrs_list PySem.F.slot_list_append PySem.F.type_list_append mt_append (pv 3) (pa_cons (pe_tupP (pa_cons pe_str (pa_cons (pv 8) pa_nil))) pa_nil))) (pss_cons (ps_setLc (i := 10) (own := [("_law_j", 14)]) (g := (gName 14)) rfl sc_law.nd rfl rfl (sw_true rfl rfl rfl (by decide +kernel)) (pi_range1 (by rfl) m_range (pa_cons (pe_callB call_len_seq (by rfl) m_len (by decide +kernel) (pa_cons (pv 7) pa_nil)) pa_nil)) (blkOk_by (own := [("_law_j", 14)]) (N := ["_law_script", "_law_deck_here", "_law_turn", "_law_groups", "_law_due", "_law_k", "_law_other", "_law_ranks_here", "_law_functions_here", "_law_numbers", "_law_rows", "_law_made", "_law_kept", "_law_told", "_law_j"]) (sc := defScope s_law) (by decide +kernel)) (fun _ _ _ _ _ => (pg_name (i := 14) sc_law.nd rfl (Or.inl rfl))) (fun _ _ _ _ _ => pts_nil) (fun _ _ _ _ _ => (pe_op (r := rCatP K) op_catP (pe_op (r := rCatP K) op_catP (pe_slice (r := rSlP K) sl_tupP (pe_ix (r := rIxT K) ix_tup (pv 8) (pv 14) (fun _ _ => rfl)) po_none (po_some pe_int)) (pe_tupP (pa_cons (pe_ix (r := rIxL K) ix_list (pv 9) (pv 14) (fun _ _ => rfl)) pa_nil))) (pe_slice (r := rSlP K) sl_tupP (pe_ix (r := rIxT K) ix_tup (pv 8) (pv 14) (fun _ _ => rfl)) (po_some pe_int) po_none)))) (pss_one (ps_expr (pe_bm PySem.F.plainAttrs_list PySem.F.slot_list_append PySem.F.type_list_append mt_append (pv 4) (pa_cons (pe_tupP (pa_cons pe_str (pa_cons (pe_callTy call_tuple_ofP (by rfl) m_tuple (by decide +kernel) (pa_cons (pv 10) pa_nil)) pa_nil))) pa_nil)))))))))))) (pss_cons (ps_set (i := 11) sc_law.nd rfl (Or.inl rfl) (pe_tupP (pa_cons (pe_tupP (pa_cons (pe_tupP (pa_cons pe_str (pa_cons pe_int pa_nil))) pa_nil)) (pa_cons (pe_callTy call_tuple_ofP (by rfl) m_tuple (by decide +kernel) (pa_cons (pv 3) pa_nil)) pa_nil)))) (pss_cons (ps_par (i := 12) (j := 13) (by rfl) sc_law.nd rfl rfl (by decide) rfl rfl (pa_cons (pe_callB (call_reprA hr sys) (by rfl) m_repr (by decide +kernel) (pa_cons (pv 11) pa_nil)) (pa_cons (dcall D_press_ranks (hr.mono (h_k1)) (by rfl) (pa_cons (pv 11) pa_nil)) pa_nil)) (by rfl)) (pss_cons (ps_if (PW.pt (pw_or (pt_cmpR op_notN (dcallx takes0 D_check_program (hr.mono (h_k6)) (by rfl) (pa_cons (pv 11) pa_nil)) pe_non (nomark _)) (pw_or1 (pt_cmpR op_ne (pe_callB (call_reprA hr sys) (by rfl) m_repr (by decide +kernel) (pa_cons (pv 13) pa_nil)) (pe_callB (call_reprA hr sys) (by rfl) m_repr (by decide +kernel) (pa_cons (pe_tupP (pa_cons (pe_ix ix_tup (pv 11) pe_int (fun _ _ => rfl)) (pa_cons (pe_callTy call_tuple_ofP (by rfl) m_tuple (by decide +kernel) (pa_cons (pv 4) pa_nil)) pa_nil))) pa_nil)) (nomark _))))) (pss_one (ps_ret pe_bl)) pss_nil) (pss_one (ps_if (PW.pt (pw_or (pt_cmpR (op_neD hr.room.units) (dcall D_press_ranks (hr.mono (h_k1)) (by rfl) (pa_cons (pv 13) pa_nil)) (pv 13) (nomark _)) (pw_or (pt_cmpR (op_neD hr.room.units) (kcall DK_press_ranks_program (hr.mono (h_k1)) (by rfl) (pk_cons (pv 11) pk_nil)) (pv 13) (nomark _)) (pw_or1 (pt_cmpR op_ne (pe_callB (call_reprA hr sys) (by rfl) m_repr (by decide +kernel) (pa_cons (pv 11) pa_nil)) (pv 12) (nomark _)))))) (pss_one (ps_ret pe_bl)) pss_nil)))))))) (pss_one (ps_ret pe_bl)))),
    fun W B H0 G0 Z0 => (rs_seq (rs_for (ri_rng1 re_int) (rg_name (i := 2)) (rs_seq (rs_parLL (i := 3) (j := 4) (rf_lst ra_nil) (rf_lst ra_nil)) (rs_seq (rs_for (ri_rng1 (re_op ro_I0 re_int (re_call (rx_deck (i := 1) (rx_cons re_int rx_nil))))) (rg_name (i := 5)) (rs_if (rt_test (re_op ro_eq (re_call (rx_deck (i := 1) (rx_cons re_int rx_nil))) re_int)) (rs_seq (rs_set (i := 6) (re_tup (ra_cons re_str (ra_cons (re_tup (ra_cons (re_tup (ra_cons (re_op ro_catS re_str (re_op ro_ixS re_str (re_var (i := 5)))) (ra_cons (re_tup (ra_cons re_str ra_nil)) (ra_cons re_int (ra_cons (re_tup (ra_cons re_str ra_nil)) ra_nil))))) ra_nil)) ra_nil)))) (rs_seq (rs_app (i := 3) (re_var (i := 6))) (rs_app (i := 4) (re_var (i := 6))))) (rs_seq (rs_set (i := 7) (re_call (rx_deck (i := 1) (rx_cons (re_op ro_I0 re_int (re_call (rx_deck (i := 1) (rx_cons re_int rx_nil)))) rx_nil)))) (rs_seq (rs_set (i := 8) (re_call (rx_deck (i := 1) (rx_cons (re_op ro_ixS re_str (re_var (i := 5))) (rx_cons (re_var (i := 7)) rx_nil))))) (rs_seq (rs_set (i := 9) (re_call (rx_cons (re_var (i := 7)) rx_nil))) (rs_seq (rs_app (i := 3) (re_tup (ra_cons re_str (ra_cons (re_var (i := 8)) ra_nil)))) (rs_seq (rs_set (i := 10) (re_new (rf_comp (vs := [14]) (ri_rng1 (re_lenL (rl_var (i := 7)))) (rgv_name (i := 14) (by decide)) (gw_name (i := 14) (by decide)) rt_yes (re_op ro_catU (re_op ro_catU (re_slU (re_op ro_ixU (re_var (i := 8)) (re_var (i := 14))) rp_no (rp_of re_int)) (re_tup (ra_cons (re_ixVar (i := 9) (re_var (i := 14))) ra_nil))) (re_slU (re_op ro_ixU (re_var (i := 8)) (re_var (i := 14))) (rp_of re_int) rp_no))))) (rs_app (i := 4) (re_tup (ra_cons re_str (ra_cons (re_tupL (rl_var (i := 10))) ra_nil))))))))))) (rs_seq (rs_set (i := 11) (re_tup (ra_cons (re_tup (ra_cons (re_tup (ra_cons re_str (ra_cons re_int ra_nil))) ra_nil)) (ra_cons (re_tupL (rl_var (i := 3))) ra_nil)))) (rs_seq (rs_par (i := 12) (j := 13) (ra_cons (re_reprA (re_var (i := 11))) (ra_cons (re_call (rx_cons (re_var (i := 11)) rx_nil)) ra_nil))) (rs_seq (rs_if (rt_or (rt_test (re_op ro_notN (re_callX xo_none (rx_cons (re_var (i := 11)) rx_nil)) re_non)) (rt_test (re_op ro_ne (re_reprA (re_var (i := 13))) (re_reprA (re_tup (ra_cons (re_op ro_ixU (re_var (i := 11)) re_int) (ra_cons (re_tupL (rl_var (i := 4))) ra_nil))))))) (rs_ret re_bl) rs_next) (rs_if (rt_or (rt_test (re_op ro_neD (re_call (rx_cons (re_var (i := 13)) rx_nil)) (re_var (i := 13)))) (rt_or (rt_test (re_op ro_neD (re_callP (π := [0]) (n := 1) (rx_cons (re_var (i := 11)) rx_nil)) (re_var (i := 13)))) (rt_test (re_op ro_ne (re_reprA (re_var (i := 11))) (re_var (i := 12)))))) (rs_ret re_bl) rs_next))))))) (rs_ret re_bl))⟩
end K58


set_option Elab.async false
set_option linter.all false
set_option maxRecDepth 100000
set_option maxHeartbeats 4000000
namespace DL
open PySem PySem.Spec PyProof.Rows L2 GG DD PT
def clsB (K : PySem.W.Frag) (C : Addr) : Bool := PySem.W.plainGet K C Str.empty && (PySem.W.hasDictIn K C && (PySem.W.plainOver K C && decide (PySem.W.findIn K (.ref C) "__setattr__" = some (some (.builtin "object.__setattr__")))))
theorem cls_of {K : PySem.W.Frag} {C : Addr} (h : clsB K C = true) : Cls K C := by
  unfold clsB at h
  simp only [Bool.and_eq_true, decide_eq_true_eq] at h
  exact ⟨h.1, h.2.1, h.2.2.1, h.2.2.2⟩
def nosB (K : PySem.W.Frag) (C : Addr) (fs : List Str) : Bool := fs.all fun f => decide (PySem.W.findIn K (.ref C) f = some none)
theorem no_of {K : PySem.W.Frag} {C : Addr} {fs : List Str} (h : nosB K C fs = true) (i : Nat) {f : Str} (e : fs[i]? = some f := by rfl) : NoAttr K C f :=
  show PySem.W.findIn K (.ref C) f = some none from of_decide_eq_true (List.all_eq_true.mp h f (List.mem_of_getElem? e))
def mkB (K : PySem.W.Frag) (C f : Addr) : Bool := PySem.W.makesIn K C && (PySem.W.isFn K (.ref f) && PySem.W.keepIn K (.ref C))
section
variable {P : Program} {w : World} {K : PySem.W.Frag} {mg : Str → Option Value} {base : Heap} {k : Nat} {f C : Addr} {fd : FuncData} {ps : List Str} {x m : Str} {sp : Sp}
theorem mk_of (h : mkB K C f = true) (i : PySem.W.findIn K (.ref C) "__init__" = some (some (.ref f))) : Mk K C f := by
  unfold mkB at h
  simp only [Bool.and_eq_true] at h
  exact ⟨h.1, i, h.2.1, h.2.2⟩
theorem dfM_mk (A : Fgx P w K mg base k f fd ps sp) (c : Cls K C) (i : PySem.W.findIn K (.ref C) m = some (some (.ref f))) (hf : PySem.W.isFn K (.ref f) = true) (hk : PySem.W.keepIn K (.ref f) = true) (b : Binds K fd ps []) : DfM P w K mg base k C m ps sp :=
  ⟨f, fd, A, c, ⟨i, hf, hk⟩, b⟩
theorem dfC_mk (A : Fgx P w K mg base k f fd ps sp) (M : Mk K C f) (hx : mg x = some (.ref C)) (b : Binds K fd ps []) : DfC P w K mg base k x C ps sp :=
  ⟨f, fd, A, M, hx, b⟩
theorem fgx_noneO (n : Nat) : Fgx P w K mg base k f fd ps (spO K n fun _ _ _ _ => False) :=
  ⟨fun vs H Q E h => by
    obtain ⟨_, _, _, _, _, _, _, _, _, _, _, _, hF, _⟩ := h
    exact hF.elim, fun A o s H a us vs Q E r e b v h => by
    obtain ⟨_, _, _, _, _, _, _, _, _, _, _, _, hF, _⟩ := h
    exact hF.elim⟩
theorem fgx_recC {n l : Nat} (c : Nat) {F : Nat → FO} (h0 : F 0 = fun _ _ _ _ => False) (step : ∀ j, Fgx P w K mg base (l + c * j) f fd ps (spO K n (F j)) → Fgx P w K mg base (l + c * j + c) f fd ps (spO K n (F (j + 1)))) : ∀ j, Fgx P w K mg base (l + c * j) f fd ps (spO K n (F j))
  | 0 => by
    rw [h0]
    exact fgx_noneO n
  | j + 1 => by
    rw [Nat.mul_succ, ← Nat.add_assoc]
    exact step j (fgx_recC c h0 step j)
end
end DL

set_option Elab.async false
set_option linter.all false
set_option maxRecDepth 100000
set_option maxHeartbeats 4000000
namespace DL
open PySem PySem.Spec PyProof.Rows L2 GG DD PT
theorem kdat_of {K : PySem.W.Frag} {n : Nat} {a : Addr} {d : PyData} (h : datIn K n (.ref a) = some d) : ∀ H, Da K H (.ref a) d := by
  obtain ⟨v, r, q⟩ := datIn_ok n _ d h
  cases v <;> first | (cases r; exact q) | (obtain ⟨t, r⟩ := r; cases r) | (cases r; done)
end DL

set_option Elab.async false
set_option linter.all false
set_option maxRecDepth 100000
set_option maxHeartbeats 4000000
namespace DL
open PySem PySem.Spec PyProof.Rows L2 GG DD PT
section
variable {P : PyData → DSt → Prop} {PA : List PyData → DSt → Prop} {PT' : Bool → DSt → Prop} {PX : List DV → DSt → Prop} {PO : PyData → Prop} {s : DSt} {E : DEnds} {i j m : Nat} {d e : PyData} {de df da db dc : DE} {dl dm : DA} {c c2 : DT} {a b : DS} {x : DX} {F : FD} {r r' : D2}
theorem w_seq (h : a { E with nx := b E } s) : dSeq a b E s := h
theorem w_next (h : E.nx s) : dNext E s := h
theorem w_set (h : de s fun d s1 => E.nx ⟨s1.sl.set i (.dat d), s1.n⟩) : dSet de i E s := h
theorem w_setO (h : dl s fun ds s1 => i < s1.sl.length ∧ E.nx ⟨s1.sl.set i (.own ds), s1.n⟩) : dSetO dl i E s := h
theorem w_if (h : c s fun b' s1 => if b' = true then a E s1 else b E s1) : dIf c a b E s := h
theorem w_ret (h : de s E.rt) : dRet de E s := h
theorem w_drop (h : de s fun _ s1 => E.nx s1) : dDrop de E s := h
theorem w_fzO {ds : List PyData} (e : s.sl[i]? = some (.own ds)) (h : b E ⟨s.sl.set i (.dat (.list ds)), s.n⟩) : dFreeze i b E s := by unfold dFreeze; rw [e]; exact h
theorem w_fzD {kvs : List (PyData × PyData)} (e : s.sl[i]? = some (.owd kvs)) (h : b E ⟨s.sl.set i (.dat (.dict kvs)), s.n⟩) : dFreeze i b E s := by unfold dFreeze; rw [e]; exact h
theorem w_fz (e : s.sl[i]? = some (.dat d)) (h : b E s) : dFreeze i b E s := by unfold dFreeze; rw [e]; exact h
theorem w_par (h : dl s fun ds s1 => match ds with
  | [d, e] => E.nx ⟨(s1.sl.set i (.dat d)).set j (.dat e), s1.n⟩
  | _ => False) : dPar i j dl E s := h
theorem w_parLL (h : dl s fun ds s1 => dm s1 fun es s2 => i < s2.sl.length ∧ j < s2.sl.length ∧ E.nx ⟨(s2.sl.set i (.own ds)).set j (.own es), s2.n⟩) : dParLL i j dl dm E s := h
theorem w_asg {g : DG} (h : de s fun d s1 => g d E.nx s1) : dAsg de g E s := h
def appK (i : Nat) (E : DEnds) (d : PyData) (s1 : DSt) : Prop := match s1.sl[i]? with
  | some (.own ds) => ds.length < 1000000 ∧ E.nx ⟨s1.sl.set i (.own (ds ++ [d])), s1.n⟩
  | _ => False
theorem w_app (h0 : isOwnL s.sl[i]?) (h : de s fun d s1 => appK i E d s1) : dApp i de E s := ⟨h0, h⟩
theorem w_appK {ds : List PyData} (e : s.sl[i]? = some (.own ds)) (h1 : ds.length < 1000000) (h : E.nx ⟨s.sl.set i (.own (ds ++ [d])), s.n⟩) : appK i E d s := by
  unfold appK
  rw [e]
  exact ⟨h1, h⟩
def getK (i : Nat) (P : PyData → DSt → Prop) (kd : PyData) (s1 : DSt) : Prop := match kOf kd with
  | some k => dDictVar i s1 fun kvs s2 => ∃ d, dgetD kvs k = some d ∧ P d s2
  | none => False
theorem w_dGet (h0 : hasV s.sl[i]?) (h : de s fun kd s1 => getK i P kd s1) : dDGet i de s P := ⟨h0, h⟩
theorem w_getK {kvs : List (PyData × PyData)} {k : L2.Key} {x : PyData} (ek : kOf d = some k) (e : s.sl[i]? = some (.dat (.dict kvs))) (hh : headK kvs = true) (hx : dgetD kvs k = some x) (h : P x s) : getK i P d s := by
  unfold getK
  rw [ek]
  show dDictVar i s _
  unfold dDictVar
  rw [e]
  exact ⟨hh, x, hx, h⟩
theorem w_getKO {kvs : List (PyData × PyData)} {k : L2.Key} {x : PyData} (ek : kOf d = some k) (e : s.sl[i]? = some (.owd kvs)) (hx : dgetD kvs k = some x) (h : P x s) : getK i P d s := by
  unfold getK
  rw [ek]
  show dDictVar i s _
  unfold dDictVar
  rw [e]
  exact ⟨x, hx, h⟩
def putK' (i : Nat) (E : DEnds) (d kd : PyData) (s2 : DSt) : Prop := match kOf kd, s2.sl[i]? with
  | some k, some (.owd kvs) => kvs.length < 1000000 ∧ E.nx ⟨s2.sl.set i (.owd (dputD kvs k d)), s2.n⟩
  | _, _ => False
theorem w_dPut (h : df s fun d s1 => isOwnD s1.sl[i]? ∧ de s1 fun kd s2 => putK' i E d kd s2) : dDPut i de df E s := h
theorem w_putK {kvs : List (PyData × PyData)} {k : L2.Key} {kd : PyData} (ek : kOf kd = some k) (e : s.sl[i]? = some (.owd kvs)) (hl : kvs.length < 1000000) (h : E.nx ⟨s.sl.set i (.owd (dputD kvs k d)), s.n⟩) : putK' i E d kd s := by
  unfold putK'
  rw [ek, e]
  exact ⟨hl, h⟩
theorem get_map (k k' : L2.Key) (d : PyData) : ∀ kvs : List (PyData × PyData), dgetD (kvs.map fun p => if kOf p.1 = some k then (p.1, d) else p) k' = if k = k' then (dgetD kvs k).map (fun _ => d) else dgetD kvs k'
  | [] => by
    show none = _
    split <;> rfl
  | p :: r => by
    have ih := get_map k k' d r
    rw [List.map_cons]
    by_cases e : kOf p.1 = some k
    · rw [if_pos e]
      show (if kOf p.1 = some k' then some d else dgetD _ k') = _
      by_cases e2 : k = k'
      · subst e2
        rw [if_pos e, if_pos rfl]
        show _ = (if kOf p.1 = some k then some p.2 else dgetD r k).map _
        rw [if_pos e]
        rfl
      · have e3 : ¬ kOf p.1 = some k' := fun z => e2 (Option.some.inj (e.symm.trans z))
        rw [if_neg e3, ih, if_neg e2, if_neg e2]
        show _ = (if kOf p.1 = some k' then some p.2 else dgetD r k')
        rw [if_neg e3]
    · rw [if_neg e]
      show (if kOf p.1 = some k' then some p.2 else dgetD _ k') = _
      rw [ih]
      by_cases e2 : k = k'
      · subst e2
        rw [if_neg e, if_pos rfl, if_pos rfl]
        show _ = (if kOf p.1 = some k then some p.2 else dgetD r k).map _
        rw [if_neg e]
      · rw [if_neg e2, if_neg e2]
        rfl
theorem get_append (k : L2.Key) (b : List (PyData × PyData)) : ∀ a : List (PyData × PyData), dgetD (a ++ b) k = (dgetD a k).or (dgetD b k)
  | [] => rfl
  | p :: r => by
    show (if kOf p.1 = some k then some p.2 else dgetD (r ++ b) k) = (if kOf p.1 = some k then some p.2 else dgetD r k).or _
    by_cases e : kOf p.1 = some k
    · rw [if_pos e, if_pos e]
      rfl
    · rw [if_neg e, if_neg e]
      exact get_append k b r
theorem get_put (kvs : List (PyData × PyData)) (k k' : L2.Key) (d : PyData) : dgetD (dputD kvs k d) k' = if k = k' then some d else dgetD kvs k' := by
  unfold dputD
  by_cases h : (dgetD kvs k).isSome = true
  · rw [if_pos h, get_map]
    by_cases e : k = k'
    · rw [if_pos e, if_pos e]
      obtain ⟨x, hx⟩ := Option.isSome_iff_exists.mp h
      rw [hx]
      rfl
    · rw [if_neg e, if_neg e]
  · rw [if_neg h, get_append]
    have hn : dgetD kvs k = none := by
      cases e : dgetD kvs k with
      | none => rfl
      | some x => rw [e] at h; exact absurd rfl h
    show (dgetD kvs k').or (if kOf (keyD k) = some k' then some d else none) = _
    rw [kOf_keyD]
    by_cases e : k = k'
    · subst e
      rw [hn, if_pos rfl, if_pos rfl]
      rfl
    · rw [if_neg (fun z => e (Option.some.inj z)), if_neg e]
      cases dgetD kvs k' <;> rfl
theorem w_for {g : DG} (h : dl s fun items s1 => dLoop g b E items s1) : dFor dl g b E s := h
theorem w_gdN {N : DSt → Prop} (h : N ⟨s.sl.set i (.dat d), s.n⟩) : gdN i d N s := h
theorem w_gdTup {n : Nat} {g : DGs} {ds : List PyData} {N : DSt → Prop} (hl : ds.length = n) (h : g ds N s) : gdTup n g (.tuple ds) N s := ⟨hl, h⟩
theorem w_gdNil {N : DSt → Prop} (h : N s) : gdNil [] N s := ⟨rfl, h⟩
theorem w_gdCons {g : DG} {gs : DGs} {ds : List PyData} {N : DSt → Prop} (h : g d (fun s1 => gs ds N s1) s) : gdCons g gs (d :: ds) N s := h
theorem w_c (h : P d s) : dC d s P := h
theorem w_var (e : s.sl[i]? = some (.dat d)) (h : P d s) : dVar i s P := by unfold dVar; rw [e]; exact h
theorem w_listO {ds : List PyData} (e : s.sl[i]? = some (.own ds)) (h : PA ds s) : dListVar i s PA := by unfold dListVar; rw [e]; exact h
theorem w_listD {ds : List PyData} (e : s.sl[i]? = some (.dat (.list ds))) (h : PA ds s) : dListVar i s PA := by unfold dListVar; rw [e]; exact h
theorem w_asL (h : de s fun d s1 => match d with
  | .list ds => PA ds s1
  | _ => False) : dAsL de s PA := h
theorem w_asU (h : de s fun d s1 => match d with
  | .tuple ds => PA ds s1
  | _ => False) : dAsU de s PA := h
theorem w_newL (h : dl s fun ds s1 => P (.list ds) s1) : dNewL dl s P := h
theorem w_nil (h : PA [] s) : dNil s PA := h
theorem w_cons (h : de s fun d s1 => dl s1 fun ds s2 => PA (d :: ds) s2) : dCons de dl s PA := h
theorem w_tup (h : dl s fun ds s1 => ds.length ≤ 1000000 ∧ P (.tuple ds) s1) : dTup dl s P := h
theorem w_lst (h : dl s fun ds s1 => ds.length ≤ 1000000 ∧ PA ds s1) : dLst dl s PA := h
theorem w_op (h : da s fun d s1 => db s1 fun e s2 => r d e fun f => P f s2) : dOp r da db s P := h
theorem w_lenL (h : dl s fun ds s1 => P (.int ds.length) s1) : dLenL dl s P := h
theorem w_lenD (h : de s fun d s1 => match d with
  | .list ds => P (.int ds.length) s1
  | .tuple ds => P (.int ds.length) s1
  | _ => False) : dLenD de s P := h
theorem w_tupOf (h : dl s fun ds s1 => P (.tuple ds) s1) : dTupOf dl s P := h
theorem w_ifE (h : c s fun b s1 => if b = true then da s1 P else db s1 P) : dIfE c da db s P := h
theorem w_rep (h : da s fun d s1 => db s1 fun e s2 => match d, e with
  | .list a, .int k => -(2 ^ 63) ≤ k ∧ k < 2 ^ 63 ∧ a.length * k.toNat ≤ 1000000 ∧ PA (List.replicate k.toNat a).flatten s2
  | _, _ => False) : dRep da db s PA := h
theorem w_call (h : x s fun as s1 => as.length = m ∧ F as s1.n.n fun d n' => P d ⟨s1.sl, s1.n.on n'⟩) : dCall m F x s P := h
theorem w_callP {π : List Nat} {n : Nat} (h : x s fun as s1 => as.length = n ∧ (permL π as).length = m ∧ F (permL π as) s1.n.n fun d n' => P d ⟨s1.sl, s1.n.on n'⟩) : dCallP m F π n x s P := h
theorem w_xNil (h : PX [] s) : xNil s PX := h
theorem w_xCons (h : de s fun d s1 => x s1 fun ds s2 => PX (.dat d :: ds) s2) : xCons de x s PX := h
theorem w_xDeck (e : s.sl[i]? = some .deck) (h : x s fun ds s2 => PX (.deck :: ds) s2) : xDeck i x s PX := by unfold xDeck; rw [e]; exact h
theorem w_ixVarD (e : s.sl[i]? = some (.dat d)) (h : db s fun e s1 => match e with
  | .int k => dListVar i s1 fun a s2 => ∃ x, atI a k = some x ∧ P x s2
  | _ => False) : dIxVar i db s P := ⟨by rw [e]; trivial, h⟩
theorem w_all (h : dl s fun ds s1 => ∃ bs, boolsD ds = some bs ∧ P (.bool (bs.all id)) s1) : dAll dl s P := h
theorem w_reprA (h : de s fun d s1 => Shows d ∧ P (.str d.shown) s1) : dReprA de s P := h
theorem w_andV (h : da s fun d s1 => match d with
  | .bool c => if c = true then db s1 P else P (.bool false) s1
  | _ => False) : dAndV da db s P := h
theorem w_newD {dk : DK} (h : dk s fun kvs s1 => P (.dict kvs) s1) : dNewD dk s P := h
theorem w_rng1 (h : de s fun d s1 => match d with
  | .int j => -(2 ^ 62) ≤ j ∧ j < 2 ^ 62 ∧ PA (rngD 0 j.toNat) s1
  | _ => False) : dRng1 de s PA := h
theorem w_comp {g : DG} {t : DT} {vs : List Nat} (h : dl s fun items s1 => items.length ≤ 1000 ∧ noOwnB s1.sl vs = true ∧ dLc g t de (wipeD s1.sl vs) items [] s1.n fun acc n => PA acc ⟨s1.sl, n⟩) : dComp dl g t de vs s PA := h
theorem w_B (h : de s fun d s1 => match d with
  | .bool c => PT' c s1
  | _ => False) : dB de s PT' := h
theorem w_or (h : c s fun b s1 => if b = true then PT' true s1 else c2 s1 PT') : dOr c c2 s PT' := h
theorem w_not (h : c s fun b s1 => PT' (!b) s1) : dNot c s PT' := h
theorem w_yes (h : PT' true s) : dYes s PT' := h
theorem w_T {c : Bool} {x y : Prop} (e : c = true) (h : x) : if c = true then x else y := by rw [if_pos e]; exact h
theorem w_F {c : Bool} {x y : Prop} (e : c = false) (h : y) : if c = true then x else y := by rw [if_neg (by rw [e]; decide)]; exact h
theorem w_ite {c : Bool} {x y : Prop} (h1 : c = true → x) (h2 : c = false → y) : if c = true then x else y := by
  cases c with
  | true => exact w_T rfl (h1 rfl)
  | false => exact w_F rfl (h2 rfl)
theorem w_I0 {g : Int → Int → Int} {p q : Int} (h : PO (.int (g p q))) : oI0 g (.int p) (.int q) PO := h
theorem w_eqI {p q : Int} (h : PO (.bool (decide (p = q)))) : oEq false (.int p) (.int q) PO := by
  refine ⟨rfl, ?_⟩
  have e : decide (V.int p = V.int q) = decide (p = q) := decide_eq_decide.mpr ⟨fun z => V.int.inj z, fun z => by rw [z]⟩
  show PO (.bool (decide (V.int p = V.int q)))
  rw [e]
  exact h
theorem w_neI {p q : Int} (h : PO (.bool (!decide (p = q)))) : oEq true (.int p) (.int q) PO := by
  refine ⟨rfl, ?_⟩
  have e : decide (V.int p = V.int q) = decide (p = q) := decide_eq_decide.mpr ⟨fun z => V.int.inj z, fun z => by rw [z]⟩
  show PO (.bool (!decide (V.int p = V.int q)))
  rw [e]
  exact h
theorem w_eqS {p q : Str} (h : PO (.bool (decide (p = q)))) : oEq false (.str p) (.str q) PO := by
  refine ⟨rfl, ?_⟩
  have e : decide (V.str p = V.str q) = decide (p = q) := decide_eq_decide.mpr ⟨fun z => V.str.inj z, fun z => by rw [z]⟩
  show PO (.bool (decide (V.str p = V.str q)))
  rw [e]
  exact h
theorem w_neS {p q : Str} (h : PO (.bool (!decide (p = q)))) : oEq true (.str p) (.str q) PO := by
  refine ⟨rfl, ?_⟩
  have e : decide (V.str p = V.str q) = decide (p = q) := decide_eq_decide.mpr ⟨fun z => V.str.inj z, fun z => by rw [z]⟩
  show PO (.bool (!decide (V.str p = V.str q)))
  rw [e]
  exact h
theorem w_ixU {ds : List PyData} {k : Int} (e : atI ds k = some d) (h : PO d) : oIxU (.tuple ds) (.int k) PO := ⟨d, e, h⟩
theorem w_catU {ds es : List PyData} (e : ds.length + es.length ≤ 1000000) (h : PO (.tuple (ds ++ es))) : oCatU (.tuple ds) (.tuple es) PO := ⟨e, h⟩
theorem w_isN (h : PO (.bool (isNoneD d))) : oIsN false d .none PO := h
theorem w_notN (h : PO (.bool (!isNoneD d))) : oIsN true d .none PO := h
end
theorem loop_rem {g : DG} {b : DS} {E : DEnds} (J : List PyData → DSt → Prop)
    (step : ∀ d ds s, J (d :: ds) s → ∀ N : DSt → Prop, (∀ s2, J ds s2 → N s2) → g d (fun s1 => b { nx := N, rt := E.rt, ro := E.ro, ct := N, bk := E.nx } s1) s)
    (fin : ∀ s, J [] s → E.nx s) : ∀ (items : List PyData) (s : DSt), J items s → dLoop g b E items s
  | [], s, h => fin s h
  | d :: ds, s, h => step d ds s h _ fun s2 h2 => loop_rem J step fin ds s2 h2
theorem lc_rem {g : DG} {t : DT} {e : DE} {base : List DV} {P : List PyData → GS → Prop} (J : List PyData → List PyData → GS → Prop)
    (step : ∀ d ds acc n, J (d :: ds) acc n → ∀ (Y : PyData → GS → Prop) (Z : GS → Prop), (∀ y n', J ds (acc ++ [y]) n' → Y y n') → (∀ n', J ds acc n' → Z n') →
      g d (fun s1 => t s1 fun b s2 => if b = true then e s2 fun y s3 => s3.sl = s1.sl ∧ Y y s3.n else s2.sl = s1.sl ∧ Z s2.n) ⟨base, n⟩)
    (fin : ∀ acc n, J [] acc n → P acc n) : ∀ (items acc : List PyData) (n : GS), J items acc n → dLc g t e base items acc n P
  | [], acc, n, h => fin acc n h
  | d :: ds, acc, n, h => step d ds acc n h (fun y n' => dLc g t e base ds (acc ++ [y]) n' P) (fun n' => dLc g t e base ds acc n' P)
      (fun y n' h2 => lc_rem J step fin ds _ n' h2) (fun n' h2 => lc_rem J step fin ds _ n' h2)
/-- each item gives its image; no draw -/
theorem lc_map {g : DG} {t : DT} {e : DE} {base : List DV} {P : List PyData → GS → Prop} {n : GS} {items : List PyData} (f : PyData → PyData)
    (step : ∀ d, d ∈ items → ∀ (Y : PyData → GS → Prop) (Z : GS → Prop), Y (f d) n →
      g d (fun s1 => t s1 fun b s2 => if b = true then e s2 fun y s3 => s3.sl = s1.sl ∧ Y y s3.n else s2.sl = s1.sl ∧ Z s2.n) ⟨base, n⟩)
    (fin : P (items.map f) n) : dLc g t e base items [] n P := by
  refine lc_rem (fun ds acc m => (∀ d, d ∈ ds → d ∈ items) ∧ acc ++ ds.map f = items.map f ∧ m = n) (fun d ds acc m h Y Z hY hZ => ?_) (fun acc m h => ?_) items [] n ⟨fun _ h => h, rfl, rfl⟩
  · obtain ⟨h1, h2, rfl⟩ := h
    refine step d (h1 d List.mem_cons_self) Y Z (hY _ _ ⟨fun x hx => h1 x (List.mem_cons_of_mem _ hx), ?_, rfl⟩)
    rw [← h2, List.map_cons, List.append_assoc]
    rfl
  · obtain ⟨_, h2, rfl⟩ := h
    rw [List.map_nil, List.append_nil] at h2
    rw [h2]
    exact fin
/-- each item gives something that keeps R, with at most k draws each -/
theorem lc_all {g : DG} {t : DT} {e : DE} {base : List DV} {P : List PyData → GS → Prop} {n : GS} {items : List PyData} (R : PyData → Prop) (k : Nat)
    (step : ∀ d, d ∈ items → ∀ m, n.n ≤ m → m + k ≤ n.n + k * items.length → ∀ (Y : PyData → GS → Prop) (Z : GS → Prop), (∀ y m', R y → m ≤ m' → m' ≤ m + k → Y y (n.on m')) →
      g d (fun s1 => t s1 fun b s2 => if b = true then e s2 fun y s3 => s3.sl = s1.sl ∧ Y y s3.n else s2.sl = s1.sl ∧ Z s2.n) ⟨base, n.on m⟩)
    (fin : ∀ ys m, ys.length = items.length → (∀ y, y ∈ ys → R y) → n.n ≤ m → m ≤ n.n + k * items.length → P ys (n.on m)) : dLc g t e base items [] n P := by
  refine lc_rem (fun ds acc m0 => ∃ m, m0 = n.on m ∧ (∀ d, d ∈ ds → d ∈ items) ∧ acc.length + ds.length = items.length ∧ (∀ y, y ∈ acc → R y) ∧ n.n ≤ m ∧ m + k * ds.length ≤ n.n + k * items.length) (fun d ds acc m0 h Y Z hY hZ => ?_) (fun acc m0 h => ?_) items [] n ⟨n.n, rfl, fun _ h => h, by simp, (fun y h => by cases h), Nat.le_refl _, Nat.le_refl _⟩
  · obtain ⟨m, rfl, h1, h2, h3, h4, h5⟩ := h
    rw [List.length_cons, Nat.mul_add, Nat.mul_one] at h5
    rw [List.length_cons] at h2
    refine step d (h1 d List.mem_cons_self) m h4 (by omega) Y Z fun y m' hR a1 a2 => hY _ _ ⟨m', rfl, fun x hx => h1 x (List.mem_cons_of_mem _ hx), ?_, fun z hz => ?_, by omega, by omega⟩
    · rw [List.length_append, List.length_singleton]
      omega
    · rcases List.mem_append.mp hz with hz | hz
      · exact h3 z hz
      · rw [List.mem_singleton.mp hz]
        exact hR
  · obtain ⟨m, rfl, _, h2, h3, h4, h5⟩ := h
    exact fin acc m (by simpa using h2) h3 h4 (by simpa using h5)
theorem w_slU {P : PyData → DSt → Prop} {s : DSt} {de : DE} {d1 d2 : DO} (h : de s fun d s1 => d1 s1 fun lo s2 => d2 s2 fun hi s3 => match d with
  | .tuple ds => P (.tuple (cutD ds lo hi)) s3
  | _ => False) : dSlU de d1 d2 s P := h
theorem w_noP {P : Option Int → DSt → Prop} {s : DSt} (h : P none s) : dNoP s P := h
theorem w_part {P : Option Int → DSt → Prop} {s : DSt} {de : DE} (h : de s fun d s1 => match d with
  | .int i => P (some i) s1
  | _ => False) : dPart de s P := h
theorem w_dictU {P : List (PyData × PyData) → DSt → Prop} {s : DSt} {de : DE} (h : de s fun d s1 => match d with
  | .tuple ds => ∃ prs, pairsD ds = some prs ∧ P (mergeD [] prs) s1
  | _ => False) : dDictU de s P := h
abbrev natsD (l : List Nat) : List PyData := l.map fun f => .int (f : Nat)
theorem rng_len (lo : Int) (n : Nat) : (rngD lo n).length = n := by unfold rngD; simp
theorem w_draw {n L : Nat} {P : PyData → Nat → Prop} (hn : n < 1000000) (h1 : 1 ≤ L) (h2 : L < 1000000) (h : ∀ v : Nat, v < L → P (.int (v : Nat)) (n + 1)) : F_draw [.deck, .dat (.int (L : Nat))] n P := by
  refine ⟨hn, by omega, by omega, fun v h0 hv => ?_⟩
  obtain ⟨k, rfl⟩ := Int.eq_ofNat_of_zero_le h0
  exact h k (by omega)
structure Val (D W : Nat) (d : PyData) : Prop where
  sh : d.showable = true
  lv : d.leavesShort 40 = true
  dp : d.depth ≤ D
  wt : d.weight ≤ W
theorem Val.shows {D W : Nat} {d : PyData} (h : Val D W d) (hD : D ≤ 60) (hW : W ≤ 399000) : Shows d :=
  ⟨h.sh, Nat.le_trans h.dp hD, by
    have z := PyData.shown_le 40 (by decide) d h.lv
    have y := h.wt
    rw [sizeLine_eq]
    omega⟩
theorem Val.mono {D W D' W' : Nat} {d : PyData} (h : Val D W d) (hD : D ≤ D') (hW : W ≤ W') : Val D' W' d := ⟨h.sh, h.lv, Nat.le_trans h.dp hD, Nat.le_trans h.wt hW⟩
structure Vals' (D W : Nat) (ds : List PyData) : Prop where
  sh : PyData.showableAll ds = true
  lv : PyData.leavesShortAll 40 ds = true
  dp : PyData.depthAll ds ≤ D
  wt : PyData.weightAll ds ≤ W
theorem vals_nil {D W : Nat} : Vals' D W [] := ⟨by simp only [PyData.showableAll], by simp only [PyData.leavesShortAll], by simp only [PyData.depthAll]; omega, by simp only [PyData.weightAll]; omega⟩
theorem vals_cons {D W V : Nat} {d : PyData} {ds : List PyData} (h : Val D V d) (hs : Vals' D W ds) : Vals' D (V + 1 + W) (d :: ds) :=
  ⟨by simp only [PyData.showableAll, h.sh, hs.sh, Bool.and_self], by simp only [PyData.leavesShortAll, h.lv, hs.lv, Bool.and_self], by simp only [PyData.depthAll]; exact Nat.max_le.mpr ⟨h.dp, hs.dp⟩, by
    simp only [PyData.weightAll]
    have := h.wt
    have := hs.wt
    omega⟩
theorem vals_mono {D W D' W' : Nat} {ds : List PyData} (h : Vals' D W ds) (hD : D ≤ D') (hW : W ≤ W') : Vals' D' W' ds := ⟨h.sh, h.lv, Nat.le_trans h.dp hD, Nat.le_trans h.wt hW⟩
theorem val_tup {D W : Nat} {ds : List PyData} (h : Vals' D W ds) : Val (D + 1) W (.tuple ds) :=
  ⟨by simp only [PyData.showable, h.sh], by simp only [PyData.leavesShort, h.lv], by simp only [PyData.depth]; have := h.dp; omega, by simp only [PyData.weight]; exact h.wt⟩
/-- each of them -/
theorem vals_all {D V : Nat} : ∀ {ds : List PyData}, (∀ d, d ∈ ds → Val D V d) → Vals' D (ds.length * (V + 1)) ds
  | [], _ => vals_nil
  | d :: ds, h => by
    have z := vals_cons (h d List.mem_cons_self) (vals_all fun x hx => h x (List.mem_cons_of_mem _ hx))
    refine vals_mono z (Nat.le_refl _) ?_
    rw [List.length_cons, Nat.add_mul]
    omega
theorem val_none {D W : Nat} : Val D W .none := ⟨by simp only [PyData.showable], by simp only [PyData.leavesShort], by simp only [PyData.depth]; omega, by simp only [PyData.weight]; omega⟩
end DL
namespace DL
open PySem PySem.Spec PyProof.Rows L2 GG DD PT
theorem val_str {D W : Nat} {x : Str} (h : (PyData.str x).leavesShort 40 = true) (hw : x.cps.size ≤ W) : Val D W (.str x) := ⟨by simp only [PyData.showable], h, by simp only [PyData.depth]; omega, by simp only [PyData.weight]; exact hw⟩
end DL
namespace DL
open PySem PySem.Spec PyProof.Rows L2 GG DD PT
theorem vN : Val 0 0 .none := val_none
theorem vals2 {D A D' B : Nat} {a b : PyData} (h : Val D A a) (k : Val D' B b) : Vals' (max D D') (A + B + 2) [a, b] :=
  vals_mono (vals_cons (h.mono (Nat.le_max_left _ _) (Nat.le_refl _)) (vals_cons (W := 0) (k.mono (Nat.le_max_right _ _) (Nat.le_refl _)) vals_nil)) (Nat.le_refl _) (by omega)
end DL
namespace DL
open PySem PySem.Spec PyProof.Rows L2 GG DD PT
end DL

set_option Elab.async false
set_option linter.all false
set_option maxRecDepth 100000
set_option maxHeartbeats 4000000
namespace DL
open PySem PySem.Spec PyProof.Rows L2 GG DD PT
section
variable {P : PyData → DSt → Prop} {PA : List PyData → DSt → Prop} {PT' : Bool → DSt → Prop} {PX : List DV → DSt → Prop} {PO : PyData → Prop} {PK : List (PyData × PyData) → DSt → Prop} {s : DSt} {E : DEnds} {i j l m : Nat} {d e : PyData} {de df da db dc : DE} {dl dm : DA} {c c2 : DT} {a b : DS} {x : DX} {F : FD}
theorem w_listA {ad : Addr} {ds : List PyData} (e : s.sl[i]? = some (.arg ad ds)) (h : PA ds s) : dListVar i s PA := by unfold dListVar; rw [e]; exact h
theorem w_oI {cc : Int → Int → Prop} {g : Int → Int → Int} {p q : Int} (h0 : cc p q) (h : PO (.int (g p q))) : oI cc g (.int p) (.int q) PO := ⟨h0, h⟩
theorem w_catS {p q : Str} (h0 : p.length + q.length ≤ 1000000) (h : PO (.str (p ++ q))) : oCatS (.str p) (.str q) PO := ⟨h0, h⟩
theorem w_ixS {z : Str} {k : Int} {cc : Nat} (hz : z.length ≤ 1000000) (e : atI z.cps.toList k = some cc) (h : PO (.str ⟨#[cc]⟩)) : oIxS (.str z) (.int k) PO := ⟨hz, cc, e, h⟩
theorem w_dcomp {g : DG} {t : DT} {ek ev : DE} {vs : List Nat} (h : dl s fun items s1 => items.length ≤ 1000 ∧ noOwnB s1.sl vs = true ∧ dDc g t ek ev (wipeD s1.sl vs) items [] s1.n fun acc n => PK acc ⟨s1.sl, n⟩) : dDcomp dl g t ek ev vs s PK := h
end
/-- each item gives its pair; no draw -/
theorem dc_map {g : DG} {t : DT} {ek ev : DE} {base : List DV} {P : List (PyData × PyData) → GS → Prop} {n : GS} {items : List PyData} (f : PyData → L2.Key × PyData)
    (step : ∀ d, d ∈ items → ∀ (Y : PyData → PyData → GS → Prop) (Z : GS → Prop), Y (keyD (f d).1) (f d).2 n →
      g d (fun s1 => t s1 fun b s2 => if b = true then ek s2 fun kd s3 => ev s3 fun y s4 => s4.sl = s1.sl ∧ Y kd y s4.n else s2.sl = s1.sl ∧ Z s2.n) ⟨base, n⟩)
    (fin : P (mergeD [] (items.map f)) n) : dDc g t ek ev base items [] n P := by
  have key : ∀ (its : List PyData) (acc : List (PyData × PyData)), (∀ d, d ∈ its → d ∈ items) → mergeD acc (its.map f) = mergeD [] (items.map f) → dDc g t ek ev base its acc n P := by
    intro its
    induction its with
    | nil =>
      intro acc _ h
      have h : acc = _ := h
      rw [h]
      exact fin
    | cons d ds ih =>
      intro acc hm h
      exact step d (hm d List.mem_cons_self) (fun kd y n' => ∃ k, kOf kd = some k ∧ dDc g t ek ev base ds (dputD acc k y) n' P) (fun n' => dDc g t ek ev base ds acc n' P) ⟨(f d).1, kOf_keyD _, ih _ (fun x hx => hm x (List.mem_cons_of_mem _ hx)) h⟩
  exact key items [] (fun _ h => h) rfl
end DL

set_option Elab.async false
set_option linter.all false
set_option maxRecDepth 100000
set_option maxHeartbeats 4000000
namespace DL
open PySem PySem.Spec PyProof.Rows L2 GG DD PT
section
variable {da db dc de : DE} {s : DSt} {P : PyData → DSt → Prop}
theorem w_notV (h : da s fun d s1 => match d with
  | .bool c => P (.bool (!c)) s1
  | _ => False) : dNotV da s P := h
end
end DL

set_option Elab.async false
set_option linter.all false
set_option maxRecDepth 100000
set_option maxHeartbeats 4000000
namespace DL
open PySem PySem.Spec PyProof.Rows L2 GG DD PT
section
variable {da db dc de : DE} {dx : DX} {s : DSt} {P : PyData → DSt → Prop} {E : DEnds} {PX : PXt} {m : Nat} {F : FDX} {i : Nat}
theorem w_raise {Cx : Addr} {f : Str} (h : de s fun d s1 => PX Cx (some [(f, d)]) s1) : dRaise PX Cx f de E s := h
theorem w_callX (h : dx s fun as s1 => as.length = m ∧ F as s1.n.n (fun d n' => P d ⟨s1.sl, s1.n.on n'⟩) fun Cx fs n' => PX Cx fs ⟨s1.sl, s1.n.on n'⟩) : dCallX PX m F dx s P := h
theorem w_tryAs {C0 : Addr} {db : PXt → DS} {dsu : Addr → List (Str × PyData) → DS} (h : db (fun (Cx : Addr) (ox : Option (List (Str × PyData))) (s1 : DSt) => match ox with | none => False | some fs => Cx = C0 ∧ noLockB s1.sl = true ∧ ∀ a, dsu a fs { nx := fun s2 => noLockB s2.sl = true ∧ E.nx ⟨s2.sl.set i .un, s2.n⟩, rt := fun d s2 => noLockB s2.sl = true ∧ E.rt d s2, bk := fun s2 => noLockB s2.sl = true ∧ E.bk ⟨s2.sl.set i .un, s2.n⟩, ct := fun s2 => noLockB s2.sl = true ∧ E.ct ⟨s2.sl.set i .un, s2.n⟩ } ⟨s1.sl.set i (.exc a), s1.n⟩) E s) : dTryAs C0 i db dsu E s := h
theorem w_tryAs0 {C0 : Addr} {db : PXt → DS} {dsu : Addr → DS} (h : db (fun (Cx : Addr) (ox : Option (List (Str × PyData))) (s1 : DSt) => match ox with | some _ => False | none => Cx = C0 ∧ noLockB s1.sl = true ∧ ∀ a, dsu a { nx := fun s2 => noLockB s2.sl = true ∧ E.nx ⟨s2.sl.set i .un, s2.n⟩, rt := fun d s2 => noLockB s2.sl = true ∧ E.rt d s2, bk := fun s2 => noLockB s2.sl = true ∧ E.bk ⟨s2.sl.set i .un, s2.n⟩, ct := fun s2 => noLockB s2.sl = true ∧ E.ct ⟨s2.sl.set i .un, s2.n⟩ } ⟨s1.sl.set i (.exc a), s1.n⟩) E s) : dTryAs0 C0 i db dsu E s := h
end
end DL

set_option Elab.async false
set_option linter.all false
set_option maxRecDepth 100000
set_option maxHeartbeats 4000000
namespace DL
open PySem PySem.Spec PyProof.Rows L2 GG DD PT
section
variable {de : DE} {s : DSt} {P : PyData → DSt → Prop} {di : DA} {g : DG} {t : DT} {vs : List Nat} {stop : Bool} {PO : PyData → Prop} {PK : List (PyData × PyData) → DSt → Prop}
theorem w_splat {k : L2.Key} {i : Int} (h : de s fun d s1 => match d with
  | .dict kvs => kvs.length ≤ 1000000 ∧ ∃ k0, keysD kvs = some k0 ∧ PK (dputD (mergeD [] k0) k (.int i)) s1
  | _ => False) : dSplat de k i s PK := h
end
end DL

set_option Elab.async false
set_option linter.all false
set_option maxRecDepth 100000
set_option maxHeartbeats 4000000
namespace DL
open PySem PySem.Spec PyProof.Rows L2 GG DD PT
section
variable {da db de df : DE} {s : DSt} {P : PyData → DSt → Prop} {PA : List PyData → DSt → Prop} {PO : PyData → Prop}
end
end DL

set_option Elab.async false
set_option linter.all false
set_option maxRecDepth 100000
set_option maxHeartbeats 4000000
namespace DL
open PySem PySem.Spec PyProof.Rows L2 GG DD PT
section
variable {P : PyData → DSt → Prop} {PA : List PyData → DSt → Prop} {s : DSt} {E : DEnds} {i j l m : Nat} {de df dk dv : DE} {dl : DA} {w : World} {dX : DKX} {f : Int → Int → Int}
theorem w_augI {a : Int} (e : s.sl[i]? = some (.dat (.int a))) (h : de s fun d s1 => ∃ b : Int, d = .int b ∧ E.nx ⟨s1.sl.set i (.dat (.int (f a b))), s1.n⟩) : dAugI f i de E s := ⟨a, e, h⟩
end
end DL

set_option Elab.async false
set_option linter.all false
set_option maxRecDepth 100000
set_option maxHeartbeats 4000000
namespace DL
open PySem PySem.Spec PyProof.Rows L2 GG DD PT
section
variable {P : PyData → DSt → Prop} {PA : List PyData → DSt → Prop} {s : DSt} {E : DEnds} {i j l m : Nat} {de df dk dv : DE} {dl dm : DA} {d : PyData}
end
end DL

set_option Elab.async false
set_option linter.all false
set_option maxRecDepth 100000
set_option maxHeartbeats 4000000
namespace DL
open PySem PySem.Spec PyProof.Rows L2 GG DD PT
section
variable {de df : DE} {s : DSt} {P : PyData → DSt → Prop} {di : DA} {g : DG} {t : DT} {vs : List Nat} {PA : List PyData → DSt → Prop} {PX : List DV → DSt → Prop} {E : DEnds} {i j m : Nat} {x : DX} {d : PyData}
theorem w_enumT (h : de s fun d s1 => match d with
  | .tuple ds => PA (enumD ds) s1
  | _ => False) : dEnumT de s PA := h
theorem w_par0E (h : i < s.sl.length ∧ j < s.sl.length ∧ i ≠ j ∧ de ⟨s.sl, s.n⟩ fun d s2 => s2.sl = s.sl ∧ E.nx ⟨(s2.sl.set i (.owd [])).set j (.dat d), s2.n⟩) : dPar0E i j de E s := h
end
end DL

set_option Elab.async false
set_option linter.all false
set_option maxRecDepth 100000
set_option maxHeartbeats 4000000
namespace DL
open PySem PySem.Spec PyProof.Rows L2 GG DD PT
section
variable {da db dc de : DE} {dl : DA} {s : DSt} {P : PyData → DSt → Prop} {E : DEnds} {i j l : Nat} {k : Int}
end
end DL

set_option Elab.async false
set_option linter.all false
set_option maxRecDepth 100000
set_option maxHeartbeats 4000000
namespace DL
open PySem PySem.Spec PyProof.Rows L2 GG DD PT
section
variable {de : DE} {s : DSt} {P : PyData → DSt → Prop} {PA : List PyData → DSt → Prop}
end
end DL

set_option Elab.async false
set_option linter.all false
set_option maxRecDepth 100000
set_option maxHeartbeats 4000000
namespace DL
open PySem PySem.Spec PyProof.Rows L2 GG DD PT
section
variable {de df : DE} {s : DSt} {P : PyData → DSt → Prop} {PA : List PyData → DSt → Prop} {PO : PyData → Prop} {di di2 dl : DA} {g1 g2 : DG} {vs : List Nat} {PX : Kxs → DSt → Prop}
end
end DL

set_option Elab.async false
set_option linter.all false
set_option maxRecDepth 100000
set_option maxHeartbeats 4000000
namespace DL
open PySem PySem.Spec PyProof.Rows L2 GG DD PT
section
variable {α : Type} {gd : DG} {t : DT} {de : DE} {base : List DV} {n : GS} {items : List α}
/-- some items, given by others, give something; no draw -/
theorem lc_fmM {P : List PyData → GS → Prop} (g : α → PyData) (f : α → Option PyData)
    (step : ∀ d, d ∈ items → ∀ (Y : PyData → GS → Prop) (Z : GS → Prop), (∀ y, f d = some y → Y y n) → (f d = none → Z n) →
      gd (g d) (fun s1 => t s1 fun b s2 => if b = true then de s2 fun y s3 => s3.sl = s1.sl ∧ Y y s3.n else s2.sl = s1.sl ∧ Z s2.n) ⟨base, n⟩)
    (fin : P (items.filterMap f) n) : dLc gd t de base (items.map g) [] n P := by
  refine lc_rem (fun ds acc m => ∃ ls : List α, ds = ls.map g ∧ (∀ d, d ∈ ls → d ∈ items) ∧ acc ++ ls.filterMap f = items.filterMap f ∧ m = n) (fun d ds acc m h Y Z hY hZ => ?_) (fun acc m h => ?_) _ [] n ⟨items, rfl, fun _ h => h, rfl, rfl⟩
  · obtain ⟨ls, e, h1, h2, rfl⟩ := h
    cases ls with
    | nil => cases e
    | cons a ls =>
      cases e
      refine step a (h1 a List.mem_cons_self) Y Z (fun y hp => hY _ _ ⟨ls, rfl, fun x hx => h1 x (List.mem_cons_of_mem _ hx), ?_, rfl⟩) (fun hp => hZ _ ⟨ls, rfl, fun x hx => h1 x (List.mem_cons_of_mem _ hx), ?_, rfl⟩)
      · rw [← h2, List.filterMap_cons_some hp, List.append_assoc]
        rfl
      · rw [← h2, List.filterMap_cons_none hp]
  · obtain ⟨ls, e, _, h2, rfl⟩ := h
    cases ls with
    | nil =>
      rw [List.filterMap_nil, List.append_nil] at h2
      rw [h2]
      exact fin
    | cons a ls => cases e
/-- each item, given by others, gives its image; no draw -/
theorem lc_mapM {P : List PyData → GS → Prop} (g : α → PyData) (f : α → PyData)
    (step : ∀ d, d ∈ items → ∀ (Y : PyData → GS → Prop) (Z : GS → Prop), Y (f d) n →
      gd (g d) (fun s1 => t s1 fun b s2 => if b = true then de s2 fun y s3 => s3.sl = s1.sl ∧ Y y s3.n else s2.sl = s1.sl ∧ Z s2.n) ⟨base, n⟩)
    (fin : P (items.map f) n) : dLc gd t de base (items.map g) [] n P := by
  refine lc_fmM g (fun a => some (f a)) (fun d hd Y Z hY _ => step d hd Y Z (hY _ rfl)) ?_
  rw [List.filterMap_eq_map']
  exact fin
end
theorem enum_map {α : Type} (f : α → PyData) (l : List α) : enumD (l.map f) = l.zipIdx.map fun p => PyData.tuple [.int (p.2 : Nat), f p.1] := by
  unfold enumD
  rw [List.zipIdx_map, List.map_map]
  rfl
end DL

set_option Elab.async false
set_option linter.all false
set_option maxRecDepth 100000
set_option maxHeartbeats 4000000
namespace DL
open PySem PySem.Spec PyProof.Rows L2 GG DD PT StX
theorem DaAll.size {K : PySem.W.Frag} {H : Hp} : ∀ {vs : List V} {ds : List PyData}, DaAll K H vs ds → vs.length = ds.length
  | _, _, .nil => rfl
  | _, _, .cons _ h => by rw [List.length_cons, List.length_cons, DaAll.size h]
section
variable {P : Program} {w : World} {K : PySem.W.Frag} {mg : Str → Option Value} {base : Heap} {k : Nat} {f : Addr} {fd : FuncData} {ps : List Str} {pv : Str}
end
section
variable {X : Cx} {k m : Nat} {nm : Str} {preD : List PyData} {sp : Sp} {p pos : Pos} {e : Expr} {es : List Expr} {t : TA}
end
variable {K : KX}
end DL

set_option Elab.async false
set_option linter.all false
set_option maxRecDepth 100000
set_option maxHeartbeats 4000000
namespace DL
open PySem PySem.Spec PyProof.Rows L2 GG DD PT StX PySem.W
section
variable {prog : Program} {w : World} {A : Around} {E : Value → Shared → Prop}
end
section
variable {P : Program} {w : World} {K : PySem.W.Frag} {mg : Str → Option Value} {base : Heap} {k : Nat} {f : Addr} {fd : FuncData} {ps : List Str} {dn : Str}
end
end DL

set_option Elab.async false
set_option linter.all false
set_option maxRecDepth 100000
set_option maxHeartbeats 4000000
namespace DL
open PySem PySem.Spec PyProof.Rows L2 GG DD PT StX
section
variable {P : Program} {w : World} {K : PySem.W.Frag} {mg : Str → Option Value} {base : Heap} {k : Nat} {f : Addr} {fd : FuncData} {p0 dn nm : Str} {sp : List Str → Sp} {ks : List Str} {a : Arg}
end
section
variable {X : Cx} {k mp : Nat} {nm : Str} {kns ks : List Str} {sp : List Str → Sp} {p pos : Pos} {e : Expr} {es : List Expr} {kws : List Keyword} {t tk : TA}
end
variable {K : KX}
end DL

set_option Elab.async false
set_option linter.all false
set_option maxRecDepth 100000
set_option maxHeartbeats 4000000
namespace DL
open PySem PySem.Spec PyProof.Rows L2 GG DD PT
section
variable {P : PyData → DSt → Prop} {s : DSt} {m mp nk : Nat} {ks : List Str} {F : FD} {da : DX} {de dk dx : DE}
end
end DL

set_option Elab.async false
set_option linter.all false
set_option maxRecDepth 100000
set_option maxHeartbeats 4000000
namespace DL
open PySem PySem.Spec PyProof.Rows L2 GG DD PT
section
variable {P : PyData → DSt → Prop} {PV : OV → DSt → Prop} {PA : List PyData → DSt → Prop} {PX' : List DV → DSt → Prop} {PP : List (L2.Key × OV) → DSt → Prop} {s : DSt} {E : DEnds} {de dk : DE} {dl : DA} {da : DX} {dv d1 d2 : DO'} {dp : DPs} {i j m : Nat} {F : FO}
theorem w_ofV (h : dv s fun x s1 => match x with
  | .d d => P d s1
  | _ => False) : dOfV dv s P := h
theorem w_vD (h : de s fun d s1 => PV (.d d) s1) : vD de s PV := h
theorem w_vVarO {a : Addr} (e : s.sl[i]? = some (.obj a)) (h : PV (.o a) s) : vVar i s PV := by
  unfold vVar
  rw [e]
  exact h
theorem w_vVarK (e : s.sl[i]? = some .deck) (h : PV .dk s) : vVar i s PV := by
  unfold vVar
  rw [e]
  exact h
theorem w_vVarD {d : PyData} (e : s.sl[i]? = some (.dat d)) (h : PV (.d d) s) : vVar i s PV := by
  unfold vVar
  rw [e]
  exact h
theorem w_setV (h : dv s fun x s1 => i < s1.sl.length ∧ E.nx ⟨s1.sl.set i x.dv, s1.n⟩) : dSetV dv i E s := h
theorem w_parV (h : d1 s fun x s1 => d2 s1 fun y s2 => i ≠ j ∧ i < s2.sl.length ∧ j < s2.sl.length ∧ E.nx ⟨(s2.sl.set i x.dv).set j y.dv, s2.n⟩) : dParV i j d1 d2 E s := h
theorem w_xV (h : dv s fun x s1 => da s1 fun as s2 => PX' (x.dv :: as) s2) : xV dv da s PX' := h
theorem w_ixE (h : de s fun d s1 => isFlatD d ∧ dk s1 fun kd s2 => match d, kOf kd with
  | .dict kvs, some k => ∃ x, dgetD kvs k = some x ∧ P x s2
  | _, _ => False) : dDIxE de dk s P := h
end
end DL

set_option Elab.async false
set_option linter.all false
set_option maxRecDepth 100000
set_option maxHeartbeats 4000000
namespace DL
open PySem PySem.Spec PyProof.Rows L2 GG DD PT
section
variable {P : PyData → DSt → Prop} {PV : OV → DSt → Prop} {PA : List PyData → DSt → Prop} {PX' : List DV → DSt → Prop} {PX : PXt} {s : DSt} {E : DEnds} {de dk : DE} {da : DX} {dv dx : DO'} {i j m : Nat} {F : FO} {C a : Addr} {f nm : Str} {fs : List (Str × OV)} {y : OV}
theorem w_fldS (e : s.sl[i]? = some (.obj a)) (ho : s.n.ob a = some (.ins C fs)) (hy : fs.lookup f = some y) (h : PV y s) : vFld C f (vVar i) s PV := by
  refine w_vVarO e ?_
  show match s.n.ob a with
    | some (.ins C' fs) => C' = C ∧ ∃ y, fs.lookup f = some y ∧ PV y s
    | _ => False
  rw [ho]
  exact ⟨rfl, y, hy, h⟩
theorem w_methS (e : s.sl[i]? = some (.obj a)) (ho : s.n.ob a = some (.ins C fs)) (hn : fs.lookup nm = none) (h : da s fun as s2 => as.length + 1 = m ∧ F (.obj a :: as) s2.n (fun x g => PV x ⟨s2.sl, g⟩) fun Cx fs g => PX Cx fs ⟨s2.sl, g⟩) : vMethX PX C nm m F (vVar i) da s PV := by
  refine w_vVarO e ?_
  refine ⟨?_, h⟩
  rw [ho]
  exact ⟨rfl, hn⟩
theorem w_makeX (h : da s fun as s1 => as.length + 1 = m ∧ ∀ a, s1.n.ob a = none → F (.obj a :: as) (s1.n.put a (.ins C [])) (fun x g => x = .d .none ∧ PV (.o a) ⟨s1.sl, g⟩) fun Cx fs g => PX Cx fs ⟨s1.sl, g⟩) : vMakeX PX C m F da s PV := h
theorem w_fPut (h : dx s fun y s1 => dv s1 fun x s2 => match x with
  | .o a => match s2.n.ob a with
    | some (.ins C' fs) => C' = C ∧ fs.length < 1000 ∧ E.nx ⟨s2.sl, s2.n.put a (.ins C (fputO f y fs))⟩
    | _ => False
  | _ => False) : dFPut C f dv dx E s := h
theorem w_new0 (h : ∀ a, s.n.ob a = none → PV (.o a) ⟨s.sl, s.n.put a (.dic [])⟩) : vNew0 s PV := h
theorem w_oIn {neg : Bool} (h : dk s fun kd s1 => dv s1 fun x s2 => match x with
  | .o a => match s2.n.ob a, kOf kd with
    | some (.dic kvs), some k => P (.bool (if neg then !(ogetK kvs k).isSome else (ogetK kvs k).isSome)) s2
    | _, _ => False
  | _ => False) : dOIn neg dk dv s P := h
theorem w_dInE {neg : Bool} (h : dk s fun kd s1 => de s1 fun d s2 => isFlatD d ∧ match d, kOf kd with
  | .dict kvs, some k => P (.bool (if neg then !(dgetD kvs k).isSome else (dgetD kvs k).isSome)) s2
  | _, _ => False) : dDInE neg dk de s P := h
theorem w_oUpd (h : dv s fun x s1 => match x with
  | .o a => (match s1.n.ob a with
    | some (.dic _) => True
    | _ => False) ∧ de s1 fun d s2 => isFlatD d ∧ match s2.n.ob a, d with
    | some (.dic kvs), .dict more => kvs.length + more.length ≤ 1000000 ∧ P .none ⟨s2.sl, s2.n.put a (.dic (omergeK kvs (entO more)))⟩
    | _, _ => False
  | _ => False) : dOUpd dv de s P := h
theorem w_vGet (h : dv s fun x s1 => match x with
  | .o a => dk s1 fun kd s2 => match s2.n.ob a, kOf kd with
    | some (.dic kvs), some k => ∃ y, ogetK kvs k = some y ∧ PV y s2
    | _, _ => False
  | _ => False) : vDGet dv dk s PV := h
end
end DL

set_option Elab.async false
set_option linter.all false
set_option maxRecDepth 100000
set_option maxHeartbeats 4000000
namespace LS
open PySem
abbrev Row := Str × List Nat
abbrev Sheet := List Row
def rowAt (r : Sheet) (k : Nat) : Row := r.getD k ("", [])
/-- pairs of a relation -/
inductive F2 {α β : Type} (R : α → β → Prop) : List α → List β → Prop
  | nil : F2 R [] []
  | cons {x : α} {y : β} {xs : List α} {ys : List β} : R x y → F2 R xs ys → F2 R (x :: xs) (y :: ys)
section
variable {α β γ : Type} {R R' : α → β → Prop}
theorem F2.len : ∀ {xs : List α} {ys : List β}, F2 R xs ys → xs.length = ys.length
  | _, _, .nil => rfl
  | _, _, .cons _ t => by rw [List.length_cons, List.length_cons, t.len]
theorem F2.mono (h : ∀ x y, R x y → R' x y) : ∀ {xs : List α} {ys : List β}, F2 R xs ys → F2 R' xs ys
  | _, _, .nil => .nil
  | _, _, .cons a t => .cons (h _ _ a) (t.mono h)
theorem F2.append : ∀ {xs us : List α} {ys vs : List β}, F2 R xs ys → F2 R us vs → F2 R (xs ++ us) (ys ++ vs)
  | _, _, _, _, .nil, h => h
  | _, _, _, _, .cons a t, h => .cons a (t.append h)
theorem F2.symm {S : β → α → Prop} (h : ∀ x y, R x y → S y x) : ∀ {xs : List α} {ys : List β}, F2 R xs ys → F2 S ys xs
  | _, _, .nil => .nil
  | _, _, .cons a t => .cons (h _ _ a) (t.symm h)
theorem F2.comp {S : β → γ → Prop} {T : α → γ → Prop} (h : ∀ x y z, R x y → S y z → T x z) : ∀ {xs : List α} {ys : List β} {zs : List γ}, F2 R xs ys → F2 S ys zs → F2 T xs zs
  | _, _, _, .nil, .nil => .nil
  | _, _, _, .cons a t, .cons b u => .cons (h _ _ _ a b) (t.comp h u)
theorem F2.at : ∀ {xs : List α} {ys : List β} {i : Nat} {x : α}, F2 R xs ys → xs[i]? = some x → ∃ y, ys[i]? = some y ∧ R x y
  | _, _, _, _, .nil, e => by simp at e
  | _, _, 0, _, .cons a _, e => by
    simp at e
    subst e
    exact ⟨_, rfl, a⟩
  | _, _, i + 1, x, .cons _ t, e => by
    obtain ⟨y, h1, h2⟩ := F2.at (i := i) (x := x) t (by simpa using e)
    exact ⟨y, by simpa using h1, h2⟩
theorem F2.refl {R : α → α → Prop} : ∀ {xs : List α}, (∀ x, x ∈ xs → R x x) → F2 R xs xs
  | [], _ => .nil
  | x :: xs, h => .cons (h x List.mem_cons_self) (F2.refl fun y hy => h y (List.mem_cons_of_mem _ hy))
end
structure G where
  tg : Nat → Str
  ch : Nat → List Nat
  nd : Nat → Prop
def Bis (g h : G) (x y : Nat) : Prop := ∃ R : Nat → Nat → Prop, R x y ∧ ∀ a b, R a b → g.nd a ∧ h.nd b ∧ g.tg a = h.tg b ∧ F2 R (g.ch a) (h.ch b)
theorem Bis.out {g h : G} {x y : Nat} (b : Bis g h x y) : g.nd x ∧ h.nd y ∧ g.tg x = h.tg y ∧ F2 (Bis g h) (g.ch x) (h.ch y) := by
  obtain ⟨R, h1, h2⟩ := b
  obtain ⟨a1, a2, a3, a4⟩ := h2 _ _ h1
  exact ⟨a1, a2, a3, a4.mono fun u v q => ⟨R, q, h2⟩⟩
theorem Bis.refl {g : G} (cl : ∀ k, g.nd k → ∀ f, f ∈ g.ch k → g.nd f) {x : Nat} (hx : g.nd x) : Bis g g x x :=
  ⟨fun a b => a = b ∧ g.nd a, ⟨rfl, hx⟩, fun a b ⟨e, h⟩ => by
    subst e
    exact ⟨h, h, rfl, F2.refl fun f hf => ⟨rfl, cl a h f hf⟩⟩⟩
theorem Bis.symm {g h : G} {x y : Nat} (b : Bis g h x y) : Bis h g y x :=
  ⟨fun a b => Bis g h b a, b, fun a b q => by
    obtain ⟨a1, a2, a3, a4⟩ := q.out
    exact ⟨a2, a1, a3.symm, a4.symm fun _ _ z => z⟩⟩
theorem Bis.trans {f g h : G} {x y z : Nat} (b : Bis f g x y) (c : Bis g h y z) : Bis f h x z :=
  ⟨fun a e => ∃ d, Bis f g a d ∧ Bis g h d e, ⟨y, b, c⟩, fun a e ⟨d, q1, q2⟩ => by
    obtain ⟨a1, a2, a3, a4⟩ := q1.out
    obtain ⟨b1, b2, b3, b4⟩ := q2.out
    exact ⟨a1, b2, a3.trans b3, a4.comp (fun _ _ _ u v => ⟨_, u, v⟩) b4⟩⟩
section
variable {rep : Nat → Nat} {ch : Nat → List Nat} {U : List Nat}
end
section
variable {rep1 rep2 : Nat → Nat} {ch1 ch2 : Nat → List Nat} {R : Nat → Nat → Prop}
end
def gr (r : Sheet) : G := ⟨fun k => (rowAt r k).1, fun k => (rowAt r k).2, fun k => k < r.length⟩
end LS

set_option Elab.async false
set_option linter.all false
set_option maxRecDepth 100000
set_option maxHeartbeats 4000000
namespace K58
open PySem PySem.Spec PyProof.Rows L2 GG DD PT DL LS
set_option simprocs false
local macro_rules | `(tactic| walk_at "w1") => `(tactic| with_reducible first
  | refine DL.w_seq ?_ | refine DL.w_next ?_ | refine DL.w_set ?_ | refine DL.w_setO ?_ | refine DL.w_if ?_ | refine DL.w_ret ?_ | refine DL.w_drop ?_
  | refine DL.w_par ?_ | refine DL.w_parLL ?_ | refine DL.w_asg ?_ | refine DL.w_for ?_ | refine DL.w_dPut ?_
  | refine DL.w_makeX ?_ | refine DL.w_fPut ?_ | refine DL.w_new0 ?_ | refine DL.w_oIn ?_ | refine DL.w_dInE ?_ | refine DL.w_oUpd ?_ | refine DL.w_vGet ?_
  | refine DL.w_ofV ?_ | refine DL.w_vD ?_ | refine DL.w_setV ?_ | refine DL.w_parV ?_ | refine DL.w_xV ?_ | refine DL.w_ixE ?_ 
  | refine DL.w_callSK ?_ | refine DL.w_sortSetI ?_ | refine DL.w_lenSetI ?_ | refine DL.w_sortZ ?_ | refine DL.w_callS ?_ | refine DL.w_callL ?_ | refine DL.w_xComp ?_ | refine DL.w_xNew ?_ | refine DL.w_listX ?_ | refine DL.w_parX ?_ | refine DL.w_par3LX ?_ | refine DL.w_xTup ?_ | refine DL.w_lenSetT ?_ | refine DL.w_listRng2 ?_ | refine DL.w_parG3 ?_
  | refine DL.w_gdN ?_ | refine DL.w_gdNil ?_ | refine DL.w_gdCons ?_
  | refine DL.w_c ?_ | refine DL.w_asL ?_ | refine DL.w_asU ?_ | refine DL.w_newL ?_ | refine DL.w_nil ?_ | refine DL.w_cons ?_ | refine DL.w_tup ?_ | refine DL.w_lst ?_ | refine DL.w_op ?_
  | refine DL.w_lenL ?_ | refine DL.w_lenD ?_ | refine DL.w_tupOf ?_ | refine DL.w_ifE ?_ | refine DL.w_rep ?_ | refine DL.w_call ?_ | refine DL.w_callP ?_
  | refine DL.w_xNil ?_ | refine DL.w_xCons ?_ | refine DL.w_all ?_ | refine DL.w_reprA ?_ | refine DL.w_andV ?_ | refine DL.w_newD ?_ 
  | refine DL.w_slU ?_ | refine DL.w_noP ?_ | refine DL.w_part ?_ | refine DL.w_dictU ?_ 
  | refine DL.w_rng1 ?_ | refine DL.w_comp ?_ | refine DL.w_B ?_ | refine DL.w_or ?_ | refine DL.w_not ?_ | refine DL.w_yes ?_
  | refine DL.w_dcomp ?_
  | refine DL.w_notV ?_ | refine DL.w_splat ?_ | refine DL.w_enumT ?_ | refine DL.w_par0E ?_ | refine DL.w_raise ?_ | refine DL.w_callX ?_ | refine DL.w_tryAs ?_ | refine DL.w_tryAs0 ?_ )
local macro_rules | `(tactic| walk_at "w2") => `(tactic| first
  | walk_at "w1"
  | ((with_reducible apply DL.w_var); (· rfl))
  | ((with_reducible apply DL.w_xDeck); (· rfl))
  | ((with_reducible apply DL.w_vVarO); (· rfl))
  | ((with_reducible apply DL.w_vVarK); (· rfl))
  | ((with_reducible apply DL.w_vVarD); (· rfl))
  | ((with_reducible apply DL.w_eqK0); (· rfl))
  | ((with_reducible apply DL.w_listO); (· rfl))
  | ((with_reducible apply DL.w_listD); (· rfl))
  | ((with_reducible apply DL.w_app); (· exact trivial))
  | ((with_reducible apply DL.w_dGet); (· exact trivial))
  | ((with_reducible apply DL.w_listA); (· rfl))
  | ((with_reducible apply DL.w_augI); (· rfl))
  | ((with_reducible apply DL.w_slVarO); (· rfl))
  | ((with_reducible apply DL.w_fzO); (· rfl))
  | ((with_reducible apply DL.w_fzD); (· rfl))
  | ((with_reducible apply DL.w_fz); (· rfl))
  | ((with_reducible apply DL.w_gdTup); (· rfl))
  | ((with_reducible apply DL.w_ins); (· exact trivial))
  | ((with_reducible apply DL.w_xLend); (· exact trivial))
  | ((with_reducible apply DL.w_lendK); (· rfl))
  | ((with_reducible apply DL.w_gdLst); (· rfl))
  | ((with_reducible apply DL.w_keysK); (· rfl))
  | ((with_reducible refine And.intro ?_ ?_); (· first | rfl | exact True.intro | decide | (dsimp only [List.length_cons, List.length_nil]; decide)))
  | with_reducible refine DL.w_eqS ?_ | with_reducible refine DL.w_neS ?_ | with_reducible refine DL.w_I0 ?_ | with_reducible refine DL.w_eqI ?_ | with_reducible refine DL.w_neI ?_ | with_reducible refine DL.w_isN ?_ | with_reducible refine DL.w_notN ?_)
local macro_rules | `(tactic| walk_at "w") => `(tactic| (repeat walk_at "w2"; try dsimp only [List.set_cons_zero, List.set_cons_succ, List.cons_append, List.nil_append, List.replicate_succ, List.replicate_zero]))
set_option pp.maxSteps 1500
abbrev Pth := List Int
def pthD (p : Pth) : PyData := .tuple (p.map .int)
/-- kinds of faults: names, tags, numbers, sorts, places -/
inductive Fk where
  | nm | tg | ct | so | pl
deriving DecidableEq
abbrev Flt := Option (Fk × Pth)
def req (k : Fk) (b : Bool) (p : Pth) : Flt := if b = true then none else some (k, p)
abbrev PXn := Addr → Option (List (Str × PyData)) → Nat → Prop
abbrev PXg := Addr → Option (List (Str × PyData)) → DL.GS → Prop
def F_req (xc : Fk → Addr) : Fk → FDX
  | .nm => bodyX (dB_require_name (xc .nm)) 0
  | .tg => bodyX (dB_require_tag (xc .tg)) 0
  | .ct => bodyX (dB_require_count (xc .ct)) 0
  | .so => bodyX (dB_require_sort (xc .so)) 0
  | .pl => bodyX (dB_require_place (xc .pl)) 0
/-- how a check ends -/
def out (f : Flt) (X : Prop) (Y : Fk → Pth → Prop) : Prop := match f with
  | none => X
  | some (k, p) => Y k p
theorem out_or {f g : Flt} {X : Prop} {Y : Fk → Pth → Prop} : out (f.or g) X Y = out f (out g X Y) Y := by
  cases f <;> rfl
theorem out_t {k : Fk} {p : Pth} {X : Prop} {Y : Fk → Pth → Prop} : out (req k true p) X Y = X := rfl
def Yn (xc : Fk → Addr) (PX : PXn) (n : Nat) (k : Fk) (p : Pth) : Prop := PX (xc k) (some [("path", pthD p)]) n
def Yg (xc : Fk → Addr) (PX : PXg) (g : DL.GS) (k : Fk) (p : Pth) : Prop := PX (xc k) (some [("path", pthD p)]) g
theorem req_spec {xc : Fk → Addr} {k : Fk} {b : Bool} {p : Pth} {n : Nat} {P : PyData → Nat → Prop} {PX : PXn} (h : out (req k b p) (P .none n) (Yn xc PX n)) : F_req xc k [.dat (.bool b), .dat (pthD p)] n P PX := by
  cases k with
  | nm =>
    unfold F_req bodyX dB_require_name
    walk_at "w"
    cases b with
    | true => exact w_F rfl h
    | false =>
      refine w_T rfl ?_
      walk_at "w"
      exact h
  
  | tg =>
    unfold F_req bodyX dB_require_tag
    walk_at "w"
    cases b with
    | true => exact w_F rfl h
    | false =>
      refine w_T rfl ?_
      walk_at "w"
      exact h
  
  | ct =>
    unfold F_req bodyX dB_require_count
    walk_at "w"
    cases b with
    | true => exact w_F rfl h
    | false =>
      refine w_T rfl ?_
      walk_at "w"
      exact h
  
  | so =>
    unfold F_req bodyX dB_require_sort
    walk_at "w"
    cases b with
    | true => exact w_F rfl h
    | false =>
      refine w_T rfl ?_
      walk_at "w"
      exact h
  
  | pl =>
    unfold F_req bodyX dB_require_place
    walk_at "w"
    cases b with
    | true => exact w_F rfl h
    | false =>
      refine w_T rfl ?_
      walk_at "w"
      exact h
/-- what a checker knows -/
structure Kn where
  cn : Str → Option Nat
  fn : Str → Option (Nat × Str × Nat)
  gr : Nat
  so : Str
def fnD (x : Nat × Str × Nat) : PyData := .tuple [.int (x.1 : Nat), .str x.2.1, .int (x.2.2 : Nat)]
def fldsO (ck : List (PyData × PyData)) (B : Addr) (K : Kn) : List (Str × OV) := [("counts_by_tag", .d (.dict ck)), ("known_functions", .o B), ("own_group", .d (.int (K.gr : Nat))), ("own_sort", .d (.str K.so))]
structure At (Cf : Addr) (g : DL.GS) (A : Addr) (K : Kn) : Prop where
  ex : ∃ (B : Addr) (ck : List (PyData × PyData)) (kn : List (L2.Key × OV)), g.ob A = some (.ins Cf (fldsO ck B K)) ∧ flatK ck = true ∧ (∀ t, dgetD ck (.inr t) = (K.cn t).map fun n => .int (n : Nat)) ∧
    g.ob B = some (.dic kn) ∧ ∀ f, ogetK kn (.inr f) = (K.fn f).map fun x => .d (fnD x)
def fnF (K : Kn) (p : Pth) (f : Str) (n : Nat) (s : Str) : Flt := match K.fn f with
  | none => some (.nm, p)
  | some x => (req .ct (decide (n = x.2.2)) p).or (req .so (decide (x.2.1 = s)) p)
def fnOwn (K : Kn) (f : Str) : Bool := match K.fn f with
  | none => false
  | some x => decide (x.1 = K.gr)
def F_function (Cf : Addr) (xc : Fk → Addr) : FO := bodyO (dB_FunctionChecker_check_function Cf (F_req xc .nm) (F_req xc .ct) (F_req xc .so)) 6
theorem decN {a b : Nat} : decide ((a : Int) = (b : Int)) = decide (a = b) := by
  by_cases h : a = b
  · simp [h]
  · have h' : ¬ (a : Int) = (b : Int) := by omega
    simp [h, h']
theorem function_spec {Cf : Addr} {xc : Fk → Addr} {g : DL.GS} {A : Addr} {K : Kn} (hA : At Cf g A K) {w f s : Str} {as : List PyData} {p : Pth} {P : OV → DL.GS → Prop} {PX : PXg}
    (h : out (fnF K p f as.length s) (P (.d (.bool (fnOwn K f))) g) (Yg xc PX g)) : F_function Cf xc [.obj A, .dat (.tuple [.str w, .str f, .tuple as]), .dat (pthD p), .dat (.str s)] g P PX := by
  obtain ⟨B, ck, kn, h1, h2, h3, h4, h5⟩ := hA.ex
  unfold F_function bodyO dB_FunctionChecker_check_function
  walk_at "w"
  refine w_fldS rfl h1 rfl ?_
  dsimp only
  rw [h4]
  dsimp only [kOf]
  walk_at "w"
  have hf := h5 f
  unfold fnF fnOwn at h
  cases hk : K.fn f with
  | none =>
    rw [hk] at h hf
    rw [hf]
    exact req_spec (b := false) h
  | some x =>
    rw [hk] at h hf
    dsimp only at h
    simp only [Option.map] at hf
    rw [hf]
    refine req_spec (b := true) ?_
    rw [out_t]
    rw [show g.on g.n = g from rfl]
    walk_at "w"
    refine w_fldS rfl h1 rfl ?_
    walk_at "w"
    rw [h4]
    dsimp only [kOf]
    refine ⟨_, hf, ?_⟩
    dsimp only [fnD]
    walk_at "w"
    rw [out_or] at h
    rw [decN]
    refine req_spec ?_
    cases hd : decide (as.length = x.2.2) with
    | false => rw [hd] at h; exact h
    | true =>
      rw [hd] at h
      rw [out_t]
      rw [show g.on g.n = g from rfl]
      walk_at "w"
      refine req_spec ?_
      cases he : decide (x.2.1 = s) with
      | false => rw [he] at h; exact h
      | true =>
        rw [he] at h
        rw [out_t]
        rw [show g.on g.n = g from rfl]
        walk_at "w"
        refine w_fldS rfl h1 rfl ?_
        walk_at "w"
        rw [decN]
        exact h
end K58

set_option Elab.async false
set_option linter.all false
set_option maxRecDepth 100000
set_option maxHeartbeats 4000000
namespace K58
open PySem PySem.Spec PyProof.Rows L2 GG DD PT DL LS
set_option simprocs false
local macro_rules | `(tactic| walk_at "w1") => `(tactic| with_reducible first
  | refine DL.w_seq ?_ | refine DL.w_next ?_ | refine DL.w_set ?_ | refine DL.w_setO ?_ | refine DL.w_if ?_ | refine DL.w_ret ?_ | refine DL.w_drop ?_
  | refine DL.w_par ?_ | refine DL.w_parLL ?_ | refine DL.w_asg ?_ | refine DL.w_for ?_ | refine DL.w_dPut ?_
  | refine DL.w_makeX ?_ | refine DL.w_fPut ?_ | refine DL.w_new0 ?_ | refine DL.w_oIn ?_ | refine DL.w_dInE ?_ | refine DL.w_oUpd ?_ | refine DL.w_vGet ?_
  | refine DL.w_ofV ?_ | refine DL.w_vD ?_ | refine DL.w_setV ?_ | refine DL.w_parV ?_ | refine DL.w_xV ?_ | refine DL.w_ixE ?_ 
  | refine DL.w_callSK ?_ | refine DL.w_sortSetI ?_ | refine DL.w_lenSetI ?_ | refine DL.w_sortZ ?_ | refine DL.w_callS ?_ | refine DL.w_callL ?_ | refine DL.w_xComp ?_ | refine DL.w_xNew ?_ | refine DL.w_listX ?_ | refine DL.w_parX ?_ | refine DL.w_par3LX ?_ | refine DL.w_xTup ?_ | refine DL.w_lenSetT ?_ | refine DL.w_listRng2 ?_ | refine DL.w_parG3 ?_
  | refine DL.w_gdN ?_ | refine DL.w_gdNil ?_ | refine DL.w_gdCons ?_
  | refine DL.w_c ?_ | refine DL.w_asL ?_ | refine DL.w_asU ?_ | refine DL.w_newL ?_ | refine DL.w_nil ?_ | refine DL.w_cons ?_ | refine DL.w_tup ?_ | refine DL.w_lst ?_ | refine DL.w_op ?_
  | refine DL.w_lenL ?_ | refine DL.w_lenD ?_ | refine DL.w_tupOf ?_ | refine DL.w_ifE ?_ | refine DL.w_rep ?_ | refine DL.w_call ?_ | refine DL.w_callP ?_
  | refine DL.w_xNil ?_ | refine DL.w_xCons ?_ | refine DL.w_all ?_ | refine DL.w_reprA ?_ | refine DL.w_andV ?_ | refine DL.w_newD ?_ 
  | refine DL.w_slU ?_ | refine DL.w_noP ?_ | refine DL.w_part ?_ | refine DL.w_dictU ?_ 
  | refine DL.w_rng1 ?_ | refine DL.w_comp ?_ | refine DL.w_B ?_ | refine DL.w_or ?_ | refine DL.w_not ?_ | refine DL.w_yes ?_
  | refine DL.w_dcomp ?_
  | refine DL.w_notV ?_ | refine DL.w_splat ?_ | refine DL.w_enumT ?_ | refine DL.w_par0E ?_ | refine DL.w_raise ?_ | refine DL.w_callX ?_ | refine DL.w_tryAs ?_ | refine DL.w_tryAs0 ?_ )
local macro_rules | `(tactic| walk_at "w2") => `(tactic| first
  | walk_at "w1"
  | ((with_reducible apply DL.w_var); (· rfl))
  | ((with_reducible apply DL.w_xDeck); (· rfl))
  | ((with_reducible apply DL.w_vVarO); (· rfl))
  | ((with_reducible apply DL.w_vVarK); (· rfl))
  | ((with_reducible apply DL.w_vVarD); (· rfl))
  | ((with_reducible apply DL.w_eqK0); (· rfl))
  | ((with_reducible apply DL.w_listO); (· rfl))
  | ((with_reducible apply DL.w_listD); (· rfl))
  | ((with_reducible apply DL.w_app); (· exact trivial))
  | ((with_reducible apply DL.w_dGet); (· exact trivial))
  | ((with_reducible apply DL.w_listA); (· rfl))
  | ((with_reducible apply DL.w_augI); (· rfl))
  | ((with_reducible apply DL.w_slVarO); (· rfl))
  | ((with_reducible apply DL.w_fzO); (· rfl))
  | ((with_reducible apply DL.w_fzD); (· rfl))
  | ((with_reducible apply DL.w_fz); (· rfl))
  | ((with_reducible apply DL.w_gdTup); (· rfl))
  | ((with_reducible apply DL.w_ins); (· exact trivial))
  | ((with_reducible apply DL.w_xLend); (· exact trivial))
  | ((with_reducible apply DL.w_lendK); (· rfl))
  | ((with_reducible apply DL.w_gdLst); (· rfl))
  | ((with_reducible apply DL.w_keysK); (· rfl))
  | ((with_reducible refine And.intro ?_ ?_); (· first | rfl | exact True.intro | decide | (dsimp only [List.length_cons, List.length_nil]; decide)))
  | with_reducible refine DL.w_eqS ?_ | with_reducible refine DL.w_neS ?_ | with_reducible refine DL.w_I0 ?_ | with_reducible refine DL.w_eqI ?_ | with_reducible refine DL.w_neI ?_ | with_reducible refine DL.w_isN ?_ | with_reducible refine DL.w_notN ?_)
local macro_rules | `(tactic| walk_at "w") => `(tactic| (repeat walk_at "w2"; try dsimp only [List.set_cons_zero, List.set_cons_succ, List.cons_append, List.nil_append, List.replicate_succ, List.replicate_zero]))
set_option pp.maxSteps 1500
inductive Tm where
  | part (x : Str)
  | tag (t : Str) (as : List Tm)
  | call (f : Str) (as : List Tm)
mutual
def tmD : Tm → PyData
  | .part x => .tuple [.str "part", .str x]
  | .tag t as => .tuple [.str "tag", .str t, .tuple (tmsD as)]
  | .call f as => .tuple [.str "call", .str f, .tuple (tmsD as)]
def tmsD : List Tm → List PyData
  | [] => []
  | a :: as => tmD a :: tmsD as
end
theorem tmsD_map : ∀ as : List Tm, tmsD as = as.map tmD
  | [] => rfl
  | a :: as => by rw [tmsD, tmsD_map as]; rfl
def isPart : Tm → Bool
  | .part _ => true
  | _ => false
mutual
def tmF (K : Kn) (ns : List Str) (op : Bool) (p : Pth) : Tm → Flt
  | .part x => req .nm (decide (x ∈ ns)) p
  | .tag t as => (tmsF K ns op (p ++ [2]) 0 as).or ((req .tg (K.cn t).isSome p).or (req .ct (decide (K.cn t = some as.length)) p))
  | .call f as => (tmsF K ns false (p ++ [2]) 0 as).or ((fnF K p f as.length "make").or (if fnOwn K f = true then (req .pl op p).or (req .pl (as.all isPart) p) else none))
def tmsF (K : Kn) (ns : List Str) (op : Bool) (p : Pth) (i : Nat) : List Tm → Flt
  | [] => none
  | a :: as => (tmF K ns op (p ++ [(i : Int)]) a).or (tmsF K ns op p (i + 1) as)
end
mutual
def tmH : Tm → Nat
  | .part _ => 0
  | .tag _ as => tmsH as + 1
  | .call _ as => tmsH as + 1
def tmsH : List Tm → Nat
  | [] => 0
  | a :: as => max (tmH a) (tmsH as)
end
mutual
/-- no list is long -/
def tmOk : Tm → Bool
  | .part _ => true
  | .tag _ as => decide (as.length ≤ 1000) && tmsOk as
  | .call _ as => decide (as.length ≤ 1000) && tmsOk as
def tmsOk : List Tm → Bool
  | [] => true
  | a :: as => tmOk a && tmsOk as
end
theorem tmsOk_mem : ∀ {as : List Tm}, tmsOk as = true → ∀ {a : Tm}, a ∈ as → tmOk a = true
  | b :: as, h0, a, h => by
    rw [tmsOk, Bool.and_eq_true] at h0
    cases h with
    | head => exact h0.1
    | tail _ h => exact tmsOk_mem h0.2 h
theorem tmsH_mem : ∀ {as : List Tm} {a : Tm}, a ∈ as → tmH a ≤ tmsH as
  | b :: as, a, h => by
    rw [tmsH]
    cases h with
    | head => omega
    | tail _ h => have := tmsH_mem h; omega
def nmsD (ns : List Str) : PyData := .tuple (ns.map .str)
def F_own (xc : Fk → Addr) : FO := bodyO (dB_FunctionChecker_check_own_arguments (F_req xc .pl)) 1
def partB : PyData → Bool
  | .tuple (.str w :: _) => decide (w = "part")
  | _ => false
theorem partB_tm : ∀ t : Tm, partB (tmD t) = isPart t
  | .part x => rfl
  | .tag t as => rfl
  | .call f as => rfl
theorem bools_map (f : Tm → Bool) : ∀ as : List Tm, boolsD (as.map fun t => .bool (f t)) = some (as.map f)
  | [] => rfl
  | a :: as => by
    rw [List.map_cons, List.map_cons, boolsD, bools_map f as]
    rfl
theorem own_spec {xc : Fk → Addr} {g : DL.GS} {A : Addr} {f w : Str} {as : List Tm} {p : Pth} {P : OV → DL.GS → Prop} {PX : PXg} (hl : as.length ≤ 1000)
    (h : out (req .pl (as.all isPart) p) (P (.d .none) g) (Yg xc PX g)) : F_own xc [.obj A, .dat (.tuple [.str w, .str f, .tuple (tmsD as)]), .dat (pthD p)] g P PX := by
  unfold F_own bodyO dB_FunctionChecker_check_own_arguments
  walk_at "w"
  refine w_ixU (k := 2) rfl ?_
  walk_at "w"
  refine ⟨by rw [tmsD_map, List.length_map]; exact hl, rfl, ?_⟩
  rw [tmsD_map]
  refine lc_map (fun d => .bool (partB d)) (fun d hd Y Z hY => ?_) ?_
  · obtain ⟨t, ht, rfl⟩ := List.mem_map.mp hd
    walk_at "w"
    rw [if_pos rfl]
    have key : ∀ w' xs, tmD t = .tuple (.str w' :: xs) → Y (PyData.bool (decide (w' = "part"))) g := fun w' xs e => by
      rw [e] at hY
      exact hY
    cases t with
    | part x =>
      unfold tmD at *
      walk_at "w"
      refine w_ixU (k := 0) rfl ?_
      walk_at "w"
      exact key _ _ rfl
    | tag t' as' =>
      unfold tmD at *
      walk_at "w"
      refine w_ixU (k := 0) rfl ?_
      walk_at "w"
      exact key _ _ rfl
    | call t' as' =>
      unfold tmD at *
      walk_at "w"
      refine w_ixU (k := 0) rfl ?_
      walk_at "w"
      exact key _ _ rfl
  · rw [List.map_map]
    refine ⟨as.map isPart, ?_, ?_⟩
    · rw [List.map_congr_left (g := fun t => .bool (isPart t)) (fun t _ => by show PyData.bool (partB (tmD t)) = _; rw [partB_tm])]
      exact bools_map isPart as
    · walk_at "w"
      have e : (as.map isPart).all id = as.all isPart := by rw [List.all_map]; rfl
      rw [e]
      exact req_spec h
section
variable (Cf : Addr) (xc : Fk → Addr)
def mkTerms (Ft : FO) : FO := bodyO (dB_FunctionChecker_check_terms Cf Ft) 2
def F_term : Nat → FO
  | 0 => fun _ _ _ _ => False
  | j + 1 => bodyO (dB_FunctionChecker_check_term Cf (F_req xc .nm) (F_req xc .tg) (F_req xc .ct) (F_req xc .pl) (mkTerms Cf (F_term j)) (F_function Cf xc) (F_own xc)) 1
def TmSp (g : DL.GS) (A : Addr) (K : Kn) (ns : List Str) (F : FO) (t : Tm) : Prop := ∀ (op : Bool) (p : Pth) (P : OV → DL.GS → Prop) (PX : PXg),
  p.length + 2 * tmH t + 2 ≤ 100000 → out (tmF K ns op p t) (P (.d .none) g) (Yg xc PX g) → F [.obj A, .dat (tmD t), .dat (pthD p), .dat (nmsD ns), .dat (.bool op)] g P PX
end
theorem cat_pth {p : Pth} {i : Int} {P : PyData → Prop} (hp : p.length < 1000000) (h : P (pthD (p ++ [i]))) : oCatU (pthD p) (.tuple [.int i]) P := by
  refine w_catU ?_ ?_
  · rw [List.length_map]; simp only [List.length_cons, List.length_nil]; omega
  · unfold pthD at h
    rw [List.map_append] at h
    exact h
theorem out_mono {f : Flt} {X X' : Prop} {Y : Fk → Pth → Prop} (hx : X → X') (h : out f X Y) : out f X' Y := by
  cases f with
  | none => exact hx h
  | some q => exact h
theorem terms_spec {Cf : Addr} {xc : Fk → Addr} {g : DL.GS} {A : Addr} {K : Kn} (hA : At Cf g A K) {ns : List Str} {F : FO} {as : List Tm} (hF : ∀ t, t ∈ as → TmSp xc g A K ns F t) {op : Bool} {p : Pth} {P : OV → DL.GS → Prop} {PX : PXg} (hp : p.length + 2 * tmsH as + 3 ≤ 100000)
    (h : out (tmsF K ns op p 0 as) (P (.d .none) g) (Yg xc PX g)) : mkTerms Cf F [.obj A, .dat (.tuple (tmsD as)), .dat (pthD p), .dat (nmsD ns), .dat (.bool op)] g P PX := by
  unfold mkTerms bodyO dB_FunctionChecker_check_terms
  walk_at "w"
  rw [tmsD_map, enum_map]
  refine loop_rem (fun rest st => ∃ (i : Nat) (bs : List Tm) (x5 x6 : DV), (∀ t, t ∈ bs → t ∈ as) ∧ rest = (bs.zipIdx i).map (fun q => PyData.tuple [.int (q.2 : Nat), tmD q.1]) ∧
    st = ⟨[.obj A, .dat (.tuple (as.map tmD)), .dat (pthD p), .dat (nmsD ns), .dat (.bool op), x5, x6], g⟩ ∧ out (tmsF K ns op p i bs) (P (.d .none) g) (Yg xc PX g)) (fun d rest st hJ N hN => ?_) (fun st hJ => ?_) _ _ ⟨0, as, .un, .un, fun _ h => h, rfl, rfl, h⟩
  · obtain ⟨i, bs, x5, x6, hm, hr, rfl, ho⟩ := hJ
    cases bs with
    | nil => cases hr
    | cons b bs =>
      rw [List.zipIdx_cons, List.map_cons] at hr
      injection hr with hr1 hr2
      subst hr1
      walk_at "w"
      obtain ⟨B, ck, kn, h1, h2, h3, h4, h5⟩ := hA.ex
      refine w_methS rfl h1 rfl ?_
      walk_at "w"
      refine cat_pth (by omega) ?_
      walk_at "w"
      rw [tmsF, out_or] at ho
      have hb := tmsH_mem (hm b List.mem_cons_self)
      refine hF b (hm b List.mem_cons_self) op _ _ _ (by rw [List.length_append]; simp only [List.length_cons, List.length_nil]; omega) ?_
      exact out_mono (fun ho2 => hN _ ⟨i + 1, bs, _, _, fun t ht => hm t (List.mem_cons_of_mem _ ht), hr2, rfl, ho2⟩) ho
  · obtain ⟨i, bs, x5, x6, hm, hr, rfl, ho⟩ := hJ
    cases bs with
    | nil => exact ho
    | cons b bs => cases hr
theorem flats_str : ∀ l : List Str, flatsD (l.map PyData.str) = some (l.map V.str)
  | [] => rfl
  | k :: l => by
    rw [List.map_cons, flatsD, flats_str l]
    rfl
theorem flat_str : ∀ l : List Str, (l.map V.str).all flatV = true
  | [] => rfl
  | k :: l => by
    rw [List.map_cons, List.all_cons, flat_str l]
    rfl
theorem inV_str (a : Str) : ∀ l : List Str, inV (V.str a) (l.map V.str) = decide (a ∈ l)
  | [] => rfl
  | k :: l => by
    have ih := inV_str a l
    unfold inV at ih ⊢
    rw [List.map_cons, List.any_cons, ih]
    show ((k == a) || decide (a ∈ l)) = _
    by_cases e : a = k
    · subst e
      rw [beq_self_eq_true, Bool.true_or, decide_eq_true List.mem_cons_self]
    · have e2 : (k == a) = false := by
        rw [beq_eq_false_iff_ne]
        exact fun h => e h.symm
      rw [e2, Bool.false_or]
      exact decide_eq_decide.mpr ⟨fun h => List.mem_cons_of_mem _ h, fun h => (List.mem_cons.mp h).resolve_left e⟩
theorem w_inT {x : Str} {ns : List Str} {P : PyData → Prop} (h : P (.bool (decide (x ∈ ns)))) : oIn false (.str x) (nmsD ns) P := by
  refine ⟨_, flats_str ns, rfl, flat_str ns, ?_⟩
  rw [inV_str]
  exact h
theorem term_spec {Cf : Addr} {xc : Fk → Addr} {g : DL.GS} {A : Addr} {K : Kn} (hA : At Cf g A K) {ns : List Str} : ∀ (j : Nat) (t : Tm), tmH t < j → tmOk t = true → TmSp xc g A K ns (F_term Cf xc j) t
  | 0, t, h, _ => absurd h (Nat.not_lt_zero _)
  | j + 1, t, hj, hok => by
    intro op p P PX hp h
    obtain ⟨B, ck, kn, h1, h2, h3, h4, h5⟩ := hA.ex
    unfold F_term bodyO dB_FunctionChecker_check_term
    cases t with
    | part x =>
      unfold tmD
      walk_at "w"
      refine w_ixU (k := 0) rfl ?_
      walk_at "w"
      refine w_T rfl ?_
      walk_at "w"
      refine w_ixU (k := 1) rfl ?_
      walk_at "w"
      refine w_inT ?_
      walk_at "w"
      exact req_spec h
    | tag t as =>
      unfold tmD
      walk_at "w"
      refine w_ixU (k := 0) rfl ?_
      walk_at "w"
      refine w_F rfl ?_
      walk_at "w"
      refine w_T rfl ?_
      walk_at "w"
      refine w_methS rfl h1 rfl ?_
      walk_at "w"
      refine w_ixU (k := 2) rfl ?_
      walk_at "w"
      refine cat_pth (by omega) ?_
      walk_at "w"
      rw [tmOk, Bool.and_eq_true] at hok
      rw [tmH] at hj hp
      refine terms_spec hA (fun a ha => term_spec hA j a (Nat.lt_of_le_of_lt (tmsH_mem ha) (by omega)) (tmsOk_mem hok.2 ha)) (by rw [List.length_append]; simp only [List.length_cons, List.length_nil]; omega) ?_
      rw [tmF, out_or] at h
      refine out_mono (fun h => ?_) h
      dsimp only
      walk_at "w"
      refine w_ixU (k := 1) rfl ?_
      walk_at "w"
      refine w_fldS rfl h1 rfl ?_
      dsimp only
      refine ⟨h2, ?_⟩
      dsimp only [kOf]
      rw [h3]
      rw [out_or] at h
      cases hc : K.cn t with
      | none =>
        rw [hc] at h
        walk_at "w"
        exact req_spec (b := false) h
      | some c =>
        rw [hc] at h
        walk_at "w"
        refine req_spec (b := true) ?_
        rw [out_t]
        rw [show g.on g.n = g from rfl]
        walk_at "w"
        refine w_ixU (k := 2) rfl ?_
        walk_at "w"
        refine w_fldS rfl h1 rfl ?_
        walk_at "w"
        refine ⟨h2, ?_⟩
        walk_at "w"
        refine w_ixU (k := 1) rfl ?_
        dsimp only [kOf]
        refine ⟨_, by rw [h3, hc]; rfl, ?_⟩
        walk_at "w"
        rw [show (tmsD as).length = as.length by rw [tmsD_map, List.length_map], decN]
        refine req_spec ?_
        have e : decide (some c = some as.length) = decide (as.length = c) := decide_eq_decide.mpr ⟨fun e => (Option.some.inj e).symm, fun e => by rw [e]⟩
        rw [show (some c).isSome = true from rfl, out_t, e] at h
        exact h
    | call f as =>
      unfold tmD
      walk_at "w"
      refine w_ixU (k := 0) rfl ?_
      walk_at "w"
      refine w_F rfl ?_
      walk_at "w"
      refine w_F rfl ?_
      walk_at "w"
      refine w_methS rfl h1 rfl ?_
      walk_at "w"
      refine w_ixU (k := 2) rfl ?_
      walk_at "w"
      refine cat_pth (by omega) ?_
      walk_at "w"
      rw [tmOk, Bool.and_eq_true] at hok
      rw [tmH] at hj hp
      refine terms_spec hA (fun a ha => term_spec hA j a (Nat.lt_of_le_of_lt (tmsH_mem ha) (by omega)) (tmsOk_mem hok.2 ha)) (by rw [List.length_append]; simp only [List.length_cons, List.length_nil]; omega) ?_
      rw [tmF, out_or] at h
      refine out_mono (fun h => ?_) h
      dsimp only
      walk_at "w"
      refine w_methS rfl h1 rfl ?_
      walk_at "w"
      rw [out_or] at h
      refine function_spec hA ?_
      rw [show (tmsD as).length = as.length by rw [tmsD_map, List.length_map]]
      refine out_mono (fun h => ?_) h
      dsimp only
      cases ho : fnOwn K f with
      | false =>
        rw [ho] at h
        exact h
      | true =>
        rw [ho, if_pos rfl, out_or] at h
        rw [if_pos rfl]
        walk_at "w"
        refine req_spec ?_
        refine out_mono (fun h => ?_) h
        rw [show g.on g.n = g from rfl]
        walk_at "w"
        refine w_methS rfl h1 rfl ?_
        walk_at "w"
        exact own_spec (of_decide_eq_true hok.1) h
end K58

set_option Elab.async false
set_option linter.all false
set_option maxRecDepth 100000
set_option maxHeartbeats 4000000
namespace K58
open PySem PySem.Spec PyProof.Rows L2 GG DD PT DL LS
set_option simprocs false
local macro_rules | `(tactic| walk_at "w1") => `(tactic| with_reducible first
  | refine DL.w_seq ?_ | refine DL.w_next ?_ | refine DL.w_set ?_ | refine DL.w_setO ?_ | refine DL.w_if ?_ | refine DL.w_ret ?_ | refine DL.w_drop ?_
  | refine DL.w_par ?_ | refine DL.w_parLL ?_ | refine DL.w_asg ?_ | refine DL.w_for ?_ | refine DL.w_dPut ?_
  | refine DL.w_makeX ?_ | refine DL.w_fPut ?_ | refine DL.w_new0 ?_ | refine DL.w_oIn ?_ | refine DL.w_dInE ?_ | refine DL.w_oUpd ?_ | refine DL.w_vGet ?_
  | refine DL.w_ofV ?_ | refine DL.w_vD ?_ | refine DL.w_setV ?_ | refine DL.w_parV ?_ | refine DL.w_xV ?_ | refine DL.w_ixE ?_ 
  | refine DL.w_callSK ?_ | refine DL.w_sortSetI ?_ | refine DL.w_lenSetI ?_ | refine DL.w_sortZ ?_ | refine DL.w_callS ?_ | refine DL.w_callL ?_ | refine DL.w_xComp ?_ | refine DL.w_xNew ?_ | refine DL.w_listX ?_ | refine DL.w_parX ?_ | refine DL.w_par3LX ?_ | refine DL.w_xTup ?_ | refine DL.w_lenSetT ?_ | refine DL.w_listRng2 ?_ | refine DL.w_parG3 ?_
  | refine DL.w_gdN ?_ | refine DL.w_gdNil ?_ | refine DL.w_gdCons ?_
  | refine DL.w_c ?_ | refine DL.w_asL ?_ | refine DL.w_asU ?_ | refine DL.w_newL ?_ | refine DL.w_nil ?_ | refine DL.w_cons ?_ | refine DL.w_tup ?_ | refine DL.w_lst ?_ | refine DL.w_op ?_
  | refine DL.w_lenL ?_ | refine DL.w_lenD ?_ | refine DL.w_tupOf ?_ | refine DL.w_ifE ?_ | refine DL.w_rep ?_ | refine DL.w_call ?_ | refine DL.w_callP ?_
  | refine DL.w_xNil ?_ | refine DL.w_xCons ?_ | refine DL.w_all ?_ | refine DL.w_reprA ?_ | refine DL.w_andV ?_ | refine DL.w_newD ?_ 
  | refine DL.w_slU ?_ | refine DL.w_noP ?_ | refine DL.w_part ?_ | refine DL.w_dictU ?_ 
  | refine DL.w_rng1 ?_ | refine DL.w_comp ?_ | refine DL.w_B ?_ | refine DL.w_or ?_ | refine DL.w_not ?_ | refine DL.w_yes ?_
  | refine DL.w_dcomp ?_
  | refine DL.w_notV ?_ | refine DL.w_splat ?_ | refine DL.w_enumT ?_ | refine DL.w_par0E ?_ | refine DL.w_raise ?_ | refine DL.w_callX ?_ | refine DL.w_tryAs ?_ | refine DL.w_tryAs0 ?_ )
local macro_rules | `(tactic| walk_at "w2") => `(tactic| first
  | walk_at "w1"
  | ((with_reducible apply DL.w_var); (· rfl))
  | ((with_reducible apply DL.w_xDeck); (· rfl))
  | ((with_reducible apply DL.w_vVarO); (· rfl))
  | ((with_reducible apply DL.w_vVarK); (· rfl))
  | ((with_reducible apply DL.w_vVarD); (· rfl))
  | ((with_reducible apply DL.w_eqK0); (· rfl))
  | ((with_reducible apply DL.w_listO); (· rfl))
  | ((with_reducible apply DL.w_listD); (· rfl))
  | ((with_reducible apply DL.w_app); (· exact trivial))
  | ((with_reducible apply DL.w_dGet); (· exact trivial))
  | ((with_reducible apply DL.w_listA); (· rfl))
  | ((with_reducible apply DL.w_augI); (· rfl))
  | ((with_reducible apply DL.w_slVarO); (· rfl))
  | ((with_reducible apply DL.w_fzO); (· rfl))
  | ((with_reducible apply DL.w_fzD); (· rfl))
  | ((with_reducible apply DL.w_fz); (· rfl))
  | ((with_reducible apply DL.w_gdTup); (· rfl))
  | ((with_reducible apply DL.w_ins); (· exact trivial))
  | ((with_reducible apply DL.w_xLend); (· exact trivial))
  | ((with_reducible apply DL.w_lendK); (· rfl))
  | ((with_reducible apply DL.w_gdLst); (· rfl))
  | ((with_reducible apply DL.w_keysK); (· rfl))
  | ((with_reducible refine And.intro ?_ ?_); (· first | rfl | exact True.intro | decide | (dsimp only [List.length_cons, List.length_nil]; decide)))
  | with_reducible refine DL.w_eqS ?_ | with_reducible refine DL.w_neS ?_ | with_reducible refine DL.w_I0 ?_ | with_reducible refine DL.w_eqI ?_ | with_reducible refine DL.w_neI ?_ | with_reducible refine DL.w_isN ?_ | with_reducible refine DL.w_notN ?_)
local macro_rules | `(tactic| walk_at "w") => `(tactic| (repeat walk_at "w2"; try dsimp only [List.set_cons_zero, List.set_cons_succ, List.cons_append, List.nil_append, List.replicate_succ, List.replicate_zero]))
set_option pp.maxSteps 1500
inductive Cd where
  | ask (f : Str) (as : List Tm)
  | same (a b : Tm)
  | is (a : Tm) (t : Str)
  | not (c : Cd)
  | bin (e : Bool) (a b : Cd)
def cdD : Cd → PyData
  | .ask f as => .tuple [.str "ask", .str f, .tuple (tmsD as)]
  | .same a b => .tuple [.str "same", tmD a, tmD b]
  | .is a t => .tuple [.str "is", tmD a, .str t]
  | .not c => .tuple [.str "not", cdD c]
  | .bin e a b => .tuple [.str (if e = true then "either" else "both"), cdD a, cdD b]
def useF (K : Kn) (ns : List Str) (p : Pth) (f : Str) (as : List Tm) (s : Str) : Flt := (tmsF K ns false (p ++ [2]) 0 as).or ((fnF K p f as.length s).or (req .pl (!fnOwn K f) p))
def callF (K : Kn) (ns : List Str) (p : Pth) (f : Str) (as : List Tm) : Flt := (tmsF K ns false (p ++ [2]) 0 as).or ((fnF K p f as.length K.so).or ((req .pl (fnOwn K f) p).or (req .pl (as.all isPart) p)))
def cdF (K : Kn) (ns : List Str) (p : Pth) : Cd → Flt
  | .ask f as => useF K ns p f as "test"
  | .same a b => (tmF K ns false (p ++ [1]) a).or (tmF K ns false (p ++ [2]) b)
  | .is a t => (tmF K ns false (p ++ [1]) a).or (req .tg (K.cn t).isSome p)
  | .not c => cdF K ns (p ++ [1]) c
  | .bin _ a b => (cdF K ns (p ++ [1]) a).or (cdF K ns (p ++ [2]) b)
def cdH : Cd → Nat
  | .ask _ as => tmsH as + 1
  | .same a b => max (tmH a) (tmH b) + 1
  | .is a _ => tmH a + 1
  | .not c => cdH c + 1
  | .bin _ a b => max (cdH a) (cdH b) + 1
def cdOk : Cd → Bool
  | .ask _ as => decide (as.length ≤ 1000) && tmsOk as
  | .same a b => tmOk a && tmOk b
  | .is a _ => tmOk a
  | .not c => cdOk c
  | .bin _ a b => cdOk a && cdOk b
section
variable (Cf : Addr) (xc : Fk → Addr) (J : Nat)
def F_terms : FO := mkTerms Cf (F_term Cf xc J)
def F_use : FO := bodyO (dB_FunctionChecker_check_use Cf (F_req xc .pl) (F_terms Cf xc J) (F_function Cf xc)) 0
def F_call : FO := bodyO (dB_FunctionChecker_check_call Cf (F_req xc .pl) (F_terms Cf xc J) (F_own xc) (F_function Cf xc)) 0
end
variable {Cf : Addr} {xc : Fk → Addr} {g : DL.GS} {A : Addr} {K : Kn} {ns : List Str}
theorem termsJ {J : Nat} (hA : At Cf g A K) {as : List Tm} (hj : tmsH as < J) (hk : tmsOk as = true) {op : Bool} {p : Pth} {P : OV → DL.GS → Prop} {PX : PXg} (hp : p.length + 2 * tmsH as + 3 ≤ 100000)
    (h : out (tmsF K ns op p 0 as) (P (.d .none) g) (Yg xc PX g)) : F_terms Cf xc J [.obj A, .dat (.tuple (tmsD as)), .dat (pthD p), .dat (nmsD ns), .dat (.bool op)] g P PX :=
  terms_spec hA (fun a ha => term_spec hA J a (Nat.lt_of_le_of_lt (tmsH_mem ha) hj) (tmsOk_mem hk ha)) hp h
theorem use_spec {J : Nat} (hA : At Cf g A K) {as : List Tm} (hj : tmsH as < J) (hk : tmsOk as = true) {w f s : Str} {p : Pth} {P : OV → DL.GS → Prop} {PX : PXg} (hp : p.length + 2 * tmsH as + 4 ≤ 100000)
    (h : out (useF K ns p f as s) (P (.d .none) g) (Yg xc PX g)) : F_use Cf xc J [.obj A, .dat (.tuple [.str w, .str f, .tuple (tmsD as)]), .dat (pthD p), .dat (nmsD ns), .dat (.str s)] g P PX := by
  obtain ⟨B, ck, kn, h1, h2, h3, h4, h5⟩ := hA.ex
  unfold F_use bodyO dB_FunctionChecker_check_use
  walk_at "w"
  refine w_methS rfl h1 rfl ?_
  walk_at "w"
  refine w_ixU (k := 2) rfl ?_
  walk_at "w"
  refine cat_pth (by omega) ?_
  walk_at "w"
  unfold useF at h
  rw [out_or] at h
  refine termsJ hA hj hk (by rw [List.length_append]; simp only [List.length_cons, List.length_nil]; omega) ?_
  refine out_mono (fun h => ?_) h
  dsimp only
  walk_at "w"
  refine w_methS rfl h1 rfl ?_
  walk_at "w"
  rw [out_or] at h
  refine function_spec hA ?_
  rw [show (tmsD as).length = as.length by rw [tmsD_map, List.length_map]]
  refine out_mono (fun h => ?_) h
  dsimp only
  walk_at "w"
  exact req_spec h
theorem call_spec {J : Nat} (hA : At Cf g A K) {as : List Tm} (hj : tmsH as < J) (hk : tmsOk as = true) (hl : as.length ≤ 1000) {w f : Str} {p : Pth} {P : OV → DL.GS → Prop} {PX : PXg} (hp : p.length + 2 * tmsH as + 4 ≤ 100000)
    (h : out (callF K ns p f as) (P (.d .none) g) (Yg xc PX g)) : F_call Cf xc J [.obj A, .dat (.tuple [.str w, .str f, .tuple (tmsD as)]), .dat (pthD p), .dat (nmsD ns)] g P PX := by
  obtain ⟨B, ck, kn, h1, h2, h3, h4, h5⟩ := hA.ex
  unfold F_call bodyO dB_FunctionChecker_check_call
  walk_at "w"
  refine w_methS rfl h1 rfl ?_
  walk_at "w"
  refine w_ixU (k := 2) rfl ?_
  walk_at "w"
  refine cat_pth (by omega) ?_
  walk_at "w"
  unfold callF at h
  rw [out_or] at h
  refine termsJ hA hj hk (by rw [List.length_append]; simp only [List.length_cons, List.length_nil]; omega) ?_
  refine out_mono (fun h => ?_) h
  dsimp only
  walk_at "w"
  refine w_methS rfl h1 rfl ?_
  walk_at "w"
  refine w_fldS rfl h1 rfl ?_
  walk_at "w"
  rw [out_or] at h
  refine function_spec hA ?_
  rw [show (tmsD as).length = as.length by rw [tmsD_map, List.length_map]]
  refine out_mono (fun h => ?_) h
  dsimp only
  walk_at "w"
  rw [out_or] at h
  refine req_spec ?_
  refine out_mono (fun h => ?_) h
  rw [show g.on g.n = g from rfl]
  walk_at "w"
  refine w_methS rfl h1 rfl ?_
  walk_at "w"
  exact own_spec hl h
section
variable (Cf : Addr) (xc : Fk → Addr) (J : Nat)
def F_condition : Nat → FO
  | 0 => fun _ _ _ _ => False
  | j + 1 => bodyO (dB_FunctionChecker_check_condition Cf (F_req xc .tg) (F_use Cf xc J) (F_term Cf xc J) (F_condition j)) 1
end
theorem known_if {o : Option Nat} : (if false = true then !(Option.map (fun n : Nat => PyData.int (n : Nat)) o).isSome else (Option.map (fun n : Nat => PyData.int (n : Nat)) o).isSome) = o.isSome := by
  cases o <;> rfl
theorem condition_spec {J : Nat} (hA : At Cf g A K) : ∀ (j : Nat) (c : Cd), cdH c < j → cdH c ≤ J → cdOk c = true → ∀ (p : Pth) (P : OV → DL.GS → Prop) (PX : PXg), p.length + 2 * cdH c + 4 ≤ 100000 →
    out (cdF K ns p c) (P (.d .none) g) (Yg xc PX g) → F_condition Cf xc J j [.obj A, .dat (cdD c), .dat (pthD p), .dat (nmsD ns)] g P PX
  | 0, c, h, _, _, _, _, _, _, _ => absurd h (Nat.not_lt_zero _)
  | j + 1, c, hj, hJ, hok, p, P, PX, hp, h => by
    obtain ⟨B, ck, kn, h1, h2, h3, h4, h5⟩ := hA.ex
    unfold F_condition bodyO dB_FunctionChecker_check_condition
    cases c with
    | ask f as =>
      unfold cdD
      rw [cdOk, Bool.and_eq_true] at hok
      rw [cdH] at hj hJ hp
      walk_at "w"
      refine w_ixU (k := 0) rfl ?_
      walk_at "w"
      refine w_T rfl ?_
      walk_at "w"
      refine w_methS rfl h1 rfl ?_
      walk_at "w"
      exact use_spec hA (by omega) hok.2 (by omega) h
    | same a b =>
      unfold cdD
      rw [cdOk, Bool.and_eq_true] at hok
      rw [cdH] at hj hJ hp
      walk_at "w"
      refine w_ixU (k := 0) rfl ?_
      walk_at "w"
      refine w_F rfl ?_
      walk_at "w"
      refine w_T rfl ?_
      walk_at "w"
      refine w_methS rfl h1 rfl ?_
      walk_at "w"
      refine w_ixU (k := 1) rfl ?_
      walk_at "w"
      refine cat_pth (by omega) ?_
      walk_at "w"
      rw [cdF, out_or] at h
      refine term_spec hA J a (by omega) hok.1 _ _ _ _ (by rw [List.length_append]; simp only [List.length_cons, List.length_nil]; omega) ?_
      refine out_mono (fun h => ?_) h
      dsimp only
      walk_at "w"
      refine w_methS rfl h1 rfl ?_
      walk_at "w"
      refine w_ixU (k := 2) rfl ?_
      walk_at "w"
      refine cat_pth (by omega) ?_
      walk_at "w"
      exact term_spec hA J b (by omega) hok.2 _ _ _ _ (by rw [List.length_append]; simp only [List.length_cons, List.length_nil]; omega) h
    | is a t =>
      unfold cdD
      rw [cdOk] at hok
      rw [cdH] at hj hJ hp
      walk_at "w"
      refine w_ixU (k := 0) rfl ?_
      walk_at "w"
      refine w_F rfl ?_
      walk_at "w"
      refine w_F rfl ?_
      walk_at "w"
      refine w_T rfl ?_
      walk_at "w"
      refine w_methS rfl h1 rfl ?_
      walk_at "w"
      refine w_ixU (k := 1) rfl ?_
      walk_at "w"
      refine cat_pth (by omega) ?_
      walk_at "w"
      rw [cdF, out_or] at h
      refine term_spec hA J a (by omega) hok _ _ _ _ (by rw [List.length_append]; simp only [List.length_cons, List.length_nil]; omega) ?_
      refine out_mono (fun h => ?_) h
      dsimp only
      walk_at "w"
      refine w_ixU (k := 2) rfl ?_
      walk_at "w"
      refine w_fldS rfl h1 rfl ?_
      dsimp only
      refine ⟨h2, ?_⟩
      dsimp only [kOf]
      rw [h3]
      walk_at "w"
      rw [known_if]
      exact req_spec h
    | not c =>
      unfold cdD
      rw [cdOk] at hok
      rw [cdH] at hj hJ hp
      walk_at "w"
      refine w_ixU (k := 0) rfl ?_
      walk_at "w"
      refine w_F rfl ?_
      walk_at "w"
      refine w_F rfl ?_
      walk_at "w"
      refine w_F rfl ?_
      walk_at "w"
      refine w_methS rfl h1 rfl ?_
      walk_at "w"
      refine w_ixU (k := 1) rfl ?_
      walk_at "w"
      refine cat_pth (by omega) ?_
      walk_at "w"
      rw [cdF] at h
      refine condition_spec hA j c (by omega) (by omega) hok _ _ _ (by rw [List.length_append]; simp only [List.length_cons, List.length_nil]; omega) ?_
      refine out_mono (fun h => ?_) h
      dsimp only
      walk_at "w"
      refine w_inT (ns := ["both", "either"]) ?_
      walk_at "w"
      exact w_F (by decide) h
    | bin e a b =>
      rw [cdOk, Bool.and_eq_true] at hok
      rw [cdH] at hj hJ hp
      rw [cdF, out_or] at h
      cases e with
      | true =>
        unfold cdD
        walk_at "w"
        refine w_ixU (k := 0) rfl ?_
        walk_at "w"
        refine w_F rfl ?_
        walk_at "w"
        refine w_F rfl ?_
        walk_at "w"
        refine w_F rfl ?_
        walk_at "w"
        refine w_methS rfl h1 rfl ?_
        walk_at "w"
        refine w_ixU (k := 1) rfl ?_
        walk_at "w"
        refine cat_pth (by omega) ?_
        walk_at "w"
        refine condition_spec hA j a (by omega) (by omega) hok.1 _ _ _ (by rw [List.length_append]; simp only [List.length_cons, List.length_nil]; omega) ?_
        refine out_mono (fun h => ?_) h
        dsimp only
        walk_at "w"
        refine w_inT (ns := ["both", "either"]) ?_
        walk_at "w"
        refine w_T (by decide) ?_
        walk_at "w"
        refine w_methS rfl h1 rfl ?_
        walk_at "w"
        refine w_ixU (k := 2) rfl ?_
        walk_at "w"
        refine cat_pth (by omega) ?_
        walk_at "w"
        exact condition_spec hA j b (by omega) (by omega) hok.2 _ _ _ (by rw [List.length_append]; simp only [List.length_cons, List.length_nil]; omega) h
      | false =>
        unfold cdD
        walk_at "w"
        refine w_ixU (k := 0) rfl ?_
        walk_at "w"
        refine w_F rfl ?_
        walk_at "w"
        refine w_F rfl ?_
        walk_at "w"
        refine w_F rfl ?_
        walk_at "w"
        refine w_methS rfl h1 rfl ?_
        walk_at "w"
        refine w_ixU (k := 1) rfl ?_
        walk_at "w"
        refine cat_pth (by omega) ?_
        walk_at "w"
        refine condition_spec hA j a (by omega) (by omega) hok.1 _ _ _ (by rw [List.length_append]; simp only [List.length_cons, List.length_nil]; omega) ?_
        refine out_mono (fun h => ?_) h
        dsimp only
        walk_at "w"
        refine w_inT (ns := ["both", "either"]) ?_
        walk_at "w"
        refine w_T (by decide) ?_
        walk_at "w"
        refine w_methS rfl h1 rfl ?_
        walk_at "w"
        refine w_ixU (k := 2) rfl ?_
        walk_at "w"
        refine cat_pth (by omega) ?_
        walk_at "w"
        exact condition_spec hA j b (by omega) (by omega) hok.2 _ _ _ (by rw [List.length_append]; simp only [List.length_cons, List.length_nil]; omega) h
end K58

set_option Elab.async false
set_option linter.all false
set_option maxRecDepth 100000
set_option maxHeartbeats 4000000
namespace K58
open PySem PySem.Spec PyProof.Rows L2 GG DD PT DL LS
set_option simprocs false
local macro_rules | `(tactic| walk_at "w1") => `(tactic| with_reducible first
  | refine DL.w_seq ?_ | refine DL.w_next ?_ | refine DL.w_set ?_ | refine DL.w_setO ?_ | refine DL.w_if ?_ | refine DL.w_ret ?_ | refine DL.w_drop ?_
  | refine DL.w_par ?_ | refine DL.w_parLL ?_ | refine DL.w_asg ?_ | refine DL.w_for ?_ | refine DL.w_dPut ?_
  | refine DL.w_makeX ?_ | refine DL.w_fPut ?_ | refine DL.w_new0 ?_ | refine DL.w_oIn ?_ | refine DL.w_dInE ?_ | refine DL.w_oUpd ?_ | refine DL.w_vGet ?_
  | refine DL.w_ofV ?_ | refine DL.w_vD ?_ | refine DL.w_setV ?_ | refine DL.w_parV ?_ | refine DL.w_xV ?_ | refine DL.w_ixE ?_ 
  | refine DL.w_callSK ?_ | refine DL.w_sortSetI ?_ | refine DL.w_lenSetI ?_ | refine DL.w_sortZ ?_ | refine DL.w_callS ?_ | refine DL.w_callL ?_ | refine DL.w_xComp ?_ | refine DL.w_xNew ?_ | refine DL.w_listX ?_ | refine DL.w_parX ?_ | refine DL.w_par3LX ?_ | refine DL.w_xTup ?_ | refine DL.w_lenSetT ?_ | refine DL.w_listRng2 ?_ | refine DL.w_parG3 ?_
  | refine DL.w_gdN ?_ | refine DL.w_gdNil ?_ | refine DL.w_gdCons ?_
  | refine DL.w_c ?_ | refine DL.w_asL ?_ | refine DL.w_asU ?_ | refine DL.w_newL ?_ | refine DL.w_nil ?_ | refine DL.w_cons ?_ | refine DL.w_tup ?_ | refine DL.w_lst ?_ | refine DL.w_op ?_
  | refine DL.w_lenL ?_ | refine DL.w_lenD ?_ | refine DL.w_tupOf ?_ | refine DL.w_ifE ?_ | refine DL.w_rep ?_ | refine DL.w_call ?_ | refine DL.w_callP ?_
  | refine DL.w_xNil ?_ | refine DL.w_xCons ?_ | refine DL.w_all ?_ | refine DL.w_reprA ?_ | refine DL.w_andV ?_ | refine DL.w_newD ?_ 
  | refine DL.w_slU ?_ | refine DL.w_noP ?_ | refine DL.w_part ?_ | refine DL.w_dictU ?_ 
  | refine DL.w_rng1 ?_ | refine DL.w_comp ?_ | refine DL.w_B ?_ | refine DL.w_or ?_ | refine DL.w_not ?_ | refine DL.w_yes ?_
  | refine DL.w_dcomp ?_
  | refine DL.w_notV ?_ | refine DL.w_splat ?_ | refine DL.w_enumT ?_ | refine DL.w_par0E ?_ | refine DL.w_raise ?_ | refine DL.w_callX ?_ | refine DL.w_tryAs ?_ | refine DL.w_tryAs0 ?_ )
local macro_rules | `(tactic| walk_at "w2") => `(tactic| first
  | walk_at "w1"
  | ((with_reducible apply DL.w_var); (· rfl))
  | ((with_reducible apply DL.w_xDeck); (· rfl))
  | ((with_reducible apply DL.w_vVarO); (· rfl))
  | ((with_reducible apply DL.w_vVarK); (· rfl))
  | ((with_reducible apply DL.w_vVarD); (· rfl))
  | ((with_reducible apply DL.w_eqK0); (· rfl))
  | ((with_reducible apply DL.w_listO); (· rfl))
  | ((with_reducible apply DL.w_listD); (· rfl))
  | ((with_reducible apply DL.w_app); (· exact trivial))
  | ((with_reducible apply DL.w_dGet); (· exact trivial))
  | ((with_reducible apply DL.w_listA); (· rfl))
  | ((with_reducible apply DL.w_augI); (· rfl))
  | ((with_reducible apply DL.w_slVarO); (· rfl))
  | ((with_reducible apply DL.w_fzO); (· rfl))
  | ((with_reducible apply DL.w_fzD); (· rfl))
  | ((with_reducible apply DL.w_fz); (· rfl))
  | ((with_reducible apply DL.w_gdTup); (· rfl))
  | ((with_reducible apply DL.w_ins); (· exact trivial))
  | ((with_reducible apply DL.w_xLend); (· exact trivial))
  | ((with_reducible apply DL.w_lendK); (· rfl))
  | ((with_reducible apply DL.w_gdLst); (· rfl))
  | ((with_reducible apply DL.w_keysK); (· rfl))
  | ((with_reducible refine And.intro ?_ ?_); (· first | rfl | exact True.intro | decide | (dsimp only [List.length_cons, List.length_nil]; decide)))
  | with_reducible refine DL.w_eqS ?_ | with_reducible refine DL.w_neS ?_ | with_reducible refine DL.w_I0 ?_ | with_reducible refine DL.w_eqI ?_ | with_reducible refine DL.w_neI ?_ | with_reducible refine DL.w_isN ?_ | with_reducible refine DL.w_notN ?_)
local macro_rules | `(tactic| walk_at "w") => `(tactic| (repeat walk_at "w2"; try dsimp only [List.set_cons_zero, List.set_cons_succ, List.cons_append, List.nil_append, List.replicate_succ, List.replicate_zero]))
set_option pp.maxSteps 1500
inductive Dw where
  | and_ | or_ | union | least | most
def Dw.w : Dw → Str
  | .and_ => "and"
  | .or_ => "or"
  | .union => "union"
  | .least => "least"
  | .most => "most"
mutual
inductive By where
  | case (x : Str) (bs : List Br) (o : By)
  | ife (c : Cd) (a b : By)
  | tm (t : Tm)
  | use (w : Bool) (f : Str) (as : List Tm)
  | root (x : Str)
  | one (t : Str)
  | plus (n : Int) (b : By)
  | dbl (w : Dw) (a b : By)
  | leaf (w : Str) (xs : List PyData)
inductive Br where
  | mk (t : Str) (fs : List Str) (b : By)
end
mutual
def byD : By → PyData
  | .case x bs o => .tuple [.str "case", .str x, .tuple (brsD bs), byD o]
  | .ife c a b => .tuple [.str "if", cdD c, byD a, byD b]
  | .tm t => tmD t
  | .use w f as => .tuple [.str (if w = true then "take" else "ask"), .str f, .tuple (tmsD as)]
  | .root x => .tuple [.str "root", .str x]
  | .one t => .tuple [.str "one", .str t]
  | .plus n b => .tuple [.str "plus", .int n, byD b]
  | .dbl w a b => .tuple [.str w.w, byD a, byD b]
  | .leaf w xs => .tuple (.str w :: xs)
def brD : Br → PyData
  | .mk t fs b => .tuple [.str t, nmsD fs, byD b]
def brsD : List Br → List PyData
  | [] => []
  | b :: bs => brD b :: brsD bs
end
theorem brsD_map : ∀ as : List Br, brsD as = as.map brD
  | [] => rfl
  | a :: as => by rw [brsD, brsD_map as]; rfl
def lfW : List Str := ["case", "if", "call", "ask", "take", "root", "one", "plus", "and", "or", "union", "least", "most"]
/-- a term as a body of no maker -/
def tmO (K : Kn) (ns : List Str) (p : Pth) : Tm → Flt
  | .part _ => none
  | .tag _ _ => none
  | .call f as => callF K ns p f as
mutual
def byF (K : Kn) (ns : List Str) (p : Pth) : By → Flt
  | .case x bs o => (req .nm (decide (x ∈ ns)) p).or ((brsF K ns p 0 bs).or (byF K ns (p ++ [3]) o))
  | .ife c a b => (cdF K ns (p ++ [1]) c).or ((byF K ns (p ++ [2]) a).or (byF K ns (p ++ [3]) b))
  | .tm t => if K.so = "make" then tmF K ns true p t else tmO K ns p t
  | .use _ f as => useF K ns p f as K.so
  | .root x => req .nm (decide (x ∈ ns)) p
  | .one t => req .tg (K.cn t).isSome p
  | .plus _ b => byF K ns (p ++ [2]) b
  | .dbl _ a b => (byF K ns (p ++ [1]) a).or (byF K ns (p ++ [2]) b)
  | .leaf _ _ => none
def brF (K : Kn) (ns : List Str) (p : Pth) : Br → Flt
  | .mk t fs b => (req .tg ((K.cn t).isSome && !decide (t = "void")) p).or ((req .ct (decide (K.cn t = some fs.length)) p).or (byF K (ns ++ fs) (p ++ [2]) b))
def brsF (K : Kn) (ns : List Str) (p : Pth) (i : Nat) : List Br → Flt
  | [] => none
  | b :: bs => (brF K ns (p ++ [2, (i : Int)]) b).or (brsF K ns p (i + 1) bs)
end
mutual
/-- the height -/
def byH : By → Nat
  | .case _ bs o => max (brsH bs) (byH o) + 1
  | .ife _ a b => max (byH a) (byH b) + 1
  | .plus _ b => byH b + 1
  | .dbl _ a b => max (byH a) (byH b) + 1
  | _ => 0
def brH : Br → Nat
  | .mk _ _ b => byH b
def brsH : List Br → Nat
  | [] => 0
  | b :: bs => max (brH b) (brsH bs)
end
mutual
/-- the height of the terms and conditions -/
def byT : By → Nat
  | .case _ bs o => max (brsT bs) (byT o)
  | .ife c a b => max (cdH c) (max (byT a) (byT b))
  | .tm t => tmH t + 1
  | .use _ _ as => tmsH as + 1
  | .plus _ b => byT b
  | .dbl _ a b => max (byT a) (byT b)
  | _ => 0
def brT : Br → Nat
  | .mk _ _ b => byT b
def brsT : List Br → Nat
  | [] => 0
  | b :: bs => max (brT b) (brsT bs)
end
mutual
/-- no list is long; a maker's bodies are terms -/
def byOk (mk : Bool) : By → Bool
  | .case _ bs o => brsOk mk bs && byOk mk o
  | .ife c a b => cdOk c && (byOk mk a && byOk mk b)
  | .tm t => tmOk t
  | .use _ _ as => !mk && tmsOk as
  | .root _ => !mk
  | .one _ => !mk
  | .plus _ b => !mk && byOk mk b
  | .dbl _ a b => !mk && (byOk mk a && byOk mk b)
  | .leaf w _ => !mk && !decide (w ∈ lfW)
def brOk (mk : Bool) : Br → Bool
  | .mk _ fs b => decide (fs.length ≤ 1000) && byOk mk b
def brsOk (mk : Bool) : List Br → Bool
  | [] => true
  | b :: bs => brOk mk b && brsOk mk bs
end
theorem brsOk_mem {mk : Bool} : ∀ {as : List Br}, brsOk mk as = true → ∀ {a : Br}, a ∈ as → brOk mk a = true
  | b :: as, h0, a, h => by
    rw [brsOk, Bool.and_eq_true] at h0
    cases h with
    | head => exact h0.1
    | tail _ h => exact brsOk_mem h0.2 h
theorem brsH_mem : ∀ {as : List Br} {a : Br}, a ∈ as → brH a ≤ brsH as
  | b :: as, a, h => by
    rw [brsH]
    cases h with
    | head => omega
    | tail _ h => have := brsH_mem h; omega
theorem brsT_mem : ∀ {as : List Br} {a : Br}, a ∈ as → brT a ≤ brsT as
  | b :: as, a, h => by
    rw [brsT]
    cases h with
    | head => omega
    | tail _ h => have := brsT_mem h; omega
section
variable (Cf : Addr) (xc : Fk → Addr) (J : Nat)
def mkBranch (Fb : FO) : FO := bodyO (dB_FunctionChecker_check_branch Cf (F_req xc .tg) (F_req xc .ct) Fb) 3
def mkCase (Fb : FO) : FO := bodyO (dB_FunctionChecker_check_case Cf (F_req xc .nm) Fb (mkBranch Cf xc Fb)) 6
def mkOther (Fb : FO) : FO := bodyO (dB_FunctionChecker_check_other_body Cf (F_req xc .nm) (F_req xc .tg) (F_call Cf xc J) (F_use Cf xc J) Fb) 1
def F_body : Nat → FO
  | 0 => fun _ _ _ _ => False
  | j + 1 => bodyO (dB_FunctionChecker_check_body Cf (mkCase Cf xc (F_body j)) (F_condition Cf xc J (J + 1)) (F_body j) (F_term Cf xc J) (mkOther Cf xc J (F_body j))) 1
def BySp (g : DL.GS) (A : Addr) (K : Kn) (F : FO) (b : By) : Prop := ∀ (ns : List Str) (p : Pth) (P : OV → DL.GS → Prop) (PX : PXg), p.length + 3 * byH b + 2 * byT b + 10 ≤ 100000 → ns.length + 1000 * byH b ≤ 900000 →
  out (byF K ns p b) (P (.d .none) g) (Yg xc PX g) → F [.obj A, .dat (byD b), .dat (pthD p), .dat (nmsD ns)] g P PX
end
variable {Cf : Addr} {xc : Fk → Addr} {g : DL.GS} {A : Addr} {K : Kn} {ns : List Str}
theorem cat_pth2 {p : Pth} {i j : Int} {P : PyData → Prop} (hp : p.length < 900000) (h : P (pthD (p ++ [i, j]))) : oCatU (pthD p) (.tuple [.int i, .int j]) P := by
  refine w_catU ?_ ?_
  · rw [List.length_map]; simp only [List.length_cons, List.length_nil]; omega
  · unfold pthD at h
    rw [List.map_append] at h
    exact h
theorem cat_nms {ns fs : List Str} {P : PyData → Prop} (hp : ns.length + fs.length ≤ 1000000) (h : P (nmsD (ns ++ fs))) : oCatU (nmsD ns) (nmsD fs) P := by
  refine w_catU ?_ ?_
  · rw [List.length_map, List.length_map]; exact hp
  · unfold nmsD at h
    rw [List.map_append] at h
    exact h
theorem branch_spec (hA : At Cf g A K) {F : FO} {t : Str} {fs : List Str} {b : By} (hF : BySp xc g A K F b) (hl : fs.length ≤ 1000) {p : Pth} {P : OV → DL.GS → Prop} {PX : PXg} (hp : p.length + 3 * byH b + 2 * byT b + 11 ≤ 100000) (hn : ns.length + 1000 * byH b + 1000 ≤ 900000)
    (h : out (brF K ns p (.mk t fs b)) (P (.d .none) g) (Yg xc PX g)) : mkBranch Cf xc F [.obj A, .dat (brD (.mk t fs b)), .dat (pthD p), .dat (nmsD ns)] g P PX := by
  obtain ⟨B, ck, kn, h1, h2, h3, h4, h5⟩ := hA.ex
  unfold mkBranch bodyO dB_FunctionChecker_check_branch
  unfold brD
  walk_at "w"
  refine w_fldS rfl h1 rfl ?_
  dsimp only
  refine ⟨h2, ?_⟩
  dsimp only [kOf]
  rw [h3]
  rw [brF, out_or] at h
  cases hc : K.cn t with
  | none =>
    rw [hc] at h
    walk_at "w"
    rw [if_neg (by intro e; cases e)]
    walk_at "w"
    exact req_spec (b := false) h
  | some c =>
    rw [hc] at h
    walk_at "w"
    rw [known_if, if_pos (show (some c).isSome = true from rfl)]
    walk_at "w"
    refine req_spec ?_
    refine out_mono (fun h => ?_) h
    rw [show g.on g.n = g from rfl]
    walk_at "w"
    dsimp only [nmsD]
    walk_at "w"
    refine w_fldS rfl h1 rfl ?_
    dsimp only
    refine ⟨h2, ?_⟩
    walk_at "w"
    dsimp only [kOf]
    refine ⟨_, by rw [h3, hc]; rfl, ?_⟩
    walk_at "w"
    rw [List.length_map, decN]
    refine req_spec ?_
    have e : decide (some c = some fs.length) = decide (fs.length = c) := decide_eq_decide.mpr ⟨fun e => (Option.some.inj e).symm, fun e => by rw [e]⟩
    rw [out_or, e] at h
    refine out_mono (fun h => ?_) h
    rw [show g.on g.n = g from rfl]
    walk_at "w"
    refine w_methS rfl h1 rfl ?_
    walk_at "w"
    refine cat_pth (by omega) ?_
    walk_at "w"
    refine cat_nms (by omega) ?_
    walk_at "w"
    exact hF _ _ _ _ (by rw [List.length_append]; simp only [List.length_cons, List.length_nil]; omega) (by rw [List.length_append]; omega) h
theorem case_spec (hA : At Cf g A K) {F : FO} {x : Str} {bs : List Br} {o : By} (hF : ∀ t fs b, Br.mk t fs b ∈ bs → fs.length ≤ 1000 ∧ BySp xc g A K F b) (hO : BySp xc g A K F o) {p : Pth} {P : OV → DL.GS → Prop} {PX : PXg} (hp : p.length + 3 * max (brsH bs) (byH o) + 2 * max (brsT bs) (byT o) + 13 ≤ 100000) (hn : ns.length + 1000 * max (brsH bs) (byH o) + 1000 ≤ 900000)
    (h : out (byF K ns p (.case x bs o)) (P (.d .none) g) (Yg xc PX g)) : mkCase Cf xc F [.obj A, .dat (byD (.case x bs o)), .dat (pthD p), .dat (nmsD ns)] g P PX := by
  obtain ⟨B, ck, kn, h1, h2, h3, h4, h5⟩ := hA.ex
  unfold mkCase bodyO dB_FunctionChecker_check_case
  unfold byD
  walk_at "w"
  refine w_inT ?_
  walk_at "w"
  rw [byF, out_or] at h
  refine req_spec ?_
  refine out_mono (fun h => ?_) h
  rw [show g.on g.n = g from rfl]
  walk_at "w"
  rw [brsD_map, enum_map]
  rw [out_or] at h
  refine loop_rem (fun rest st => ∃ (i : Nat) (cs : List Br) (x8 x9 : DV), (∀ t, t ∈ cs → t ∈ bs) ∧ rest = (cs.zipIdx i).map (fun q => PyData.tuple [.int (q.2 : Nat), brD q.1]) ∧
    st = ⟨[.obj A, .dat (.tuple [.str "case", .str x, .tuple (bs.map brD), byD o]), .dat (pthD p), .dat (nmsD ns), .dat (.str "case"), .dat (.str x), .dat (.tuple (bs.map brD)), .dat (byD o), x8, x9], g⟩ ∧ out (brsF K ns p i cs) (out (byF K ns (p ++ [3]) o) (P (.d .none) g) (Yg xc PX g)) (Yg xc PX g)) (fun d rest st hJ N hN => ?_) (fun st hJ => ?_) _ _ ⟨0, bs, .un, .un, fun _ h => h, rfl, rfl, h⟩
  · obtain ⟨i, cs, x8, x9, hm, hr, rfl, ho⟩ := hJ
    cases cs with
    | nil => cases hr
    | cons b cs =>
      rw [List.zipIdx_cons, List.map_cons] at hr
      injection hr with hr1 hr2
      subst hr1
      walk_at "w"
      refine w_methS rfl h1 rfl ?_
      walk_at "w"
      refine cat_pth2 (by omega) ?_
      walk_at "w"
      rw [brsF, out_or] at ho
      have hm0 := hm b List.mem_cons_self
      have hb := brsH_mem hm0
      have ht := brsT_mem hm0
      obtain ⟨t, fs, b⟩ := b
      rw [brH] at hb
      rw [brT] at ht
      refine branch_spec hA (hF t fs b hm0).2 (hF t fs b hm0).1 (by rw [List.length_append]; simp only [List.length_cons, List.length_nil]; omega) (by omega) ?_
      exact out_mono (fun ho2 => hN _ ⟨i + 1, cs, _, _, fun t ht => hm t (List.mem_cons_of_mem _ ht), hr2, rfl, ho2⟩) ho
  · obtain ⟨i, cs, x8, x9, hm, hr, rfl, ho⟩ := hJ
    cases cs with
    | nil =>
      walk_at "w"
      refine w_methS rfl h1 rfl ?_
      walk_at "w"
      refine cat_pth (by omega) ?_
      walk_at "w"
      exact hO _ _ _ _ (by rw [List.length_append]; simp only [List.length_cons, List.length_nil]; omega) (by omega) ho
    | cons b cs => cases hr
/-- what check_other_body looks at -/
def isOther : By → Bool
  | .case _ _ _ => false
  | .ife _ _ _ => false
  | _ => true
theorem other_spec {J : Nat} (hA : At Cf g A K) {F : FO} (c : By) (hc : isOther c = true) (hJ : byT c ≤ J) (hs : ¬ K.so = "make") (hok : byOk false c = true) (hF : ∀ b, byH b < byH c → byT b ≤ byT c → byOk false b = true → BySp xc g A K F b) {p : Pth} {P : OV → DL.GS → Prop} {PX : PXg} (hp : p.length + 3 * byH c + 2 * byT c + 10 ≤ 100000) (hn : ns.length + 1000 * byH c ≤ 900000)
    (h : out (byF K ns p c) (P (.d .none) g) (Yg xc PX g)) : mkOther Cf xc J F [.obj A, .dat (byD c), .dat (pthD p), .dat (nmsD ns)] g P PX := by
  obtain ⟨B, ck, kn, h1, h2, h3, h4, h5⟩ := hA.ex
  unfold mkOther bodyO dB_FunctionChecker_check_other_body
  cases c with
  | case x bs o => cases hc
  | ife c a b => cases hc
  | tm t =>
    rw [byF, if_neg hs] at h
    unfold byD
    rw [byOk] at hok
    rw [byT] at hJ hp
    cases t with
    | part x =>
      unfold tmD
      walk_at "w"
      refine w_ixU (k := 0) rfl ?_
      walk_at "w"
      refine w_F rfl ?_
      walk_at "w"
      refine w_inT (ns := ["ask", "take"]) ?_
      walk_at "w"
      refine w_F (by decide) ?_
      walk_at "w"
      refine w_F rfl ?_
      walk_at "w"
      refine w_F rfl ?_
      walk_at "w"
      refine w_F rfl ?_
      walk_at "w"
      refine w_inT (ns := ["and", "or", "union", "least", "most"]) ?_
      walk_at "w"
      exact w_F (by decide) h
    | tag t as =>
      unfold tmD
      walk_at "w"
      refine w_ixU (k := 0) rfl ?_
      walk_at "w"
      refine w_F rfl ?_
      walk_at "w"
      refine w_inT (ns := ["ask", "take"]) ?_
      walk_at "w"
      refine w_F (by decide) ?_
      walk_at "w"
      refine w_F rfl ?_
      walk_at "w"
      refine w_F rfl ?_
      walk_at "w"
      refine w_F rfl ?_
      walk_at "w"
      refine w_inT (ns := ["and", "or", "union", "least", "most"]) ?_
      walk_at "w"
      exact w_F (by decide) h
    | call f as =>
      rw [tmOk, Bool.and_eq_true] at hok
      rw [tmH] at hJ hp
      unfold tmD
      walk_at "w"
      refine w_ixU (k := 0) rfl ?_
      walk_at "w"
      refine w_T rfl ?_
      walk_at "w"
      refine w_methS rfl h1 rfl ?_
      walk_at "w"
      exact call_spec hA (by omega) hok.2 (of_decide_eq_true hok.1) (by omega) h
  | use w f as =>
    rw [byF] at h
    rw [byOk, Bool.and_eq_true] at hok
    rw [byT] at hJ hp
    unfold byD
    cases w with
    | true =>
      walk_at "w"
      refine w_ixU (k := 0) rfl ?_
      walk_at "w"
      refine w_F rfl ?_
      walk_at "w"
      refine w_inT (ns := ["ask", "take"]) ?_
      walk_at "w"
      refine w_T (by decide) ?_
      walk_at "w"
      refine w_methS rfl h1 rfl ?_
      walk_at "w"
      refine w_fldS rfl h1 rfl ?_
      walk_at "w"
      exact use_spec hA (by omega) hok.2 (by omega) h
    | false =>
      walk_at "w"
      refine w_ixU (k := 0) rfl ?_
      walk_at "w"
      refine w_F rfl ?_
      walk_at "w"
      refine w_inT (ns := ["ask", "take"]) ?_
      walk_at "w"
      refine w_T (by decide) ?_
      walk_at "w"
      refine w_methS rfl h1 rfl ?_
      walk_at "w"
      refine w_fldS rfl h1 rfl ?_
      walk_at "w"
      exact use_spec hA (by omega) hok.2 (by omega) h
  | root x =>
    rw [byF] at h
    unfold byD
    walk_at "w"
    refine w_ixU (k := 0) rfl ?_
    walk_at "w"
    refine w_F rfl ?_
    walk_at "w"
    refine w_inT (ns := ["ask", "take"]) ?_
    walk_at "w"
    refine w_F (by decide) ?_
    walk_at "w"
    refine w_T rfl ?_
    walk_at "w"
    refine w_ixU (k := 1) rfl ?_
    walk_at "w"
    refine w_inT ?_
    walk_at "w"
    exact req_spec h
  | one t =>
    rw [byF] at h
    unfold byD
    walk_at "w"
    refine w_ixU (k := 0) rfl ?_
    walk_at "w"
    refine w_F rfl ?_
    walk_at "w"
    refine w_inT (ns := ["ask", "take"]) ?_
    walk_at "w"
    refine w_F (by decide) ?_
    walk_at "w"
    refine w_F rfl ?_
    walk_at "w"
    refine w_T rfl ?_
    walk_at "w"
    refine w_ixU (k := 1) rfl ?_
    walk_at "w"
    refine w_fldS rfl h1 rfl ?_
    dsimp only
    refine ⟨h2, ?_⟩
    dsimp only [kOf]
    rw [h3]
    walk_at "w"
    rw [known_if]
    exact req_spec h
  | plus n b =>
    rw [byF] at h
    rw [byOk, Bool.and_eq_true] at hok
    have hF' := hF b (by rw [byH]; omega) (by rw [byT]; omega) hok.2
    rw [byT] at hJ hp
    rw [byH] at hp hn
    unfold byD
    walk_at "w"
    refine w_ixU (k := 0) rfl ?_
    walk_at "w"
    refine w_F rfl ?_
    walk_at "w"
    refine w_inT (ns := ["ask", "take"]) ?_
    walk_at "w"
    refine w_F (by decide) ?_
    walk_at "w"
    refine w_F rfl ?_
    walk_at "w"
    refine w_F rfl ?_
    walk_at "w"
    refine w_T rfl ?_
    walk_at "w"
    refine w_methS rfl h1 rfl ?_
    walk_at "w"
    refine w_ixU (k := 2) rfl ?_
    walk_at "w"
    refine cat_pth (by omega) ?_
    walk_at "w"
    exact hF' _ _ _ _ (by rw [List.length_append]; simp only [List.length_cons, List.length_nil]; omega) (by omega) h
  | dbl w a b =>
    rw [byF, out_or] at h
    rw [byOk, Bool.and_eq_true, Bool.and_eq_true] at hok
    rw [byT] at hJ hp
    rw [byH] at hp hn
    unfold byD
    cases w with
      | and_ =>
        walk_at "w"
        refine w_ixU (k := 0) rfl ?_
        walk_at "w"
        refine w_F rfl ?_
        walk_at "w"
        refine w_inT (ns := ["ask", "take"]) ?_
        walk_at "w"
        refine w_F (by decide) ?_
        walk_at "w"
        refine w_F rfl ?_
        walk_at "w"
        refine w_F rfl ?_
        walk_at "w"
        refine w_F rfl ?_
        walk_at "w"
        refine w_inT (ns := ["and", "or", "union", "least", "most"]) ?_
        walk_at "w"
        refine w_T (by decide) ?_
        walk_at "w"
        refine w_methS rfl h1 rfl ?_
        walk_at "w"
        refine w_ixU (k := 1) rfl ?_
        walk_at "w"
        refine cat_pth (by omega) ?_
        walk_at "w"
        refine hF a (by rw [byH]; omega) (by rw [byT]; omega) hok.2.1 _ _ _ _ (by rw [List.length_append]; simp only [List.length_cons, List.length_nil]; omega) (by omega) ?_
        refine out_mono (fun h => ?_) h
        dsimp only
        walk_at "w"
        refine w_methS rfl h1 rfl ?_
        walk_at "w"
        refine w_ixU (k := 2) rfl ?_
        walk_at "w"
        refine cat_pth (by omega) ?_
        walk_at "w"
        exact hF b (by rw [byH]; omega) (by rw [byT]; omega) hok.2.2 _ _ _ _ (by rw [List.length_append]; simp only [List.length_cons, List.length_nil]; omega) (by omega) h
      | or_ =>
        walk_at "w"
        refine w_ixU (k := 0) rfl ?_
        walk_at "w"
        refine w_F rfl ?_
        walk_at "w"
        refine w_inT (ns := ["ask", "take"]) ?_
        walk_at "w"
        refine w_F (by decide) ?_
        walk_at "w"
        refine w_F rfl ?_
        walk_at "w"
        refine w_F rfl ?_
        walk_at "w"
        refine w_F rfl ?_
        walk_at "w"
        refine w_inT (ns := ["and", "or", "union", "least", "most"]) ?_
        walk_at "w"
        refine w_T (by decide) ?_
        walk_at "w"
        refine w_methS rfl h1 rfl ?_
        walk_at "w"
        refine w_ixU (k := 1) rfl ?_
        walk_at "w"
        refine cat_pth (by omega) ?_
        walk_at "w"
        refine hF a (by rw [byH]; omega) (by rw [byT]; omega) hok.2.1 _ _ _ _ (by rw [List.length_append]; simp only [List.length_cons, List.length_nil]; omega) (by omega) ?_
        refine out_mono (fun h => ?_) h
        dsimp only
        walk_at "w"
        refine w_methS rfl h1 rfl ?_
        walk_at "w"
        refine w_ixU (k := 2) rfl ?_
        walk_at "w"
        refine cat_pth (by omega) ?_
        walk_at "w"
        exact hF b (by rw [byH]; omega) (by rw [byT]; omega) hok.2.2 _ _ _ _ (by rw [List.length_append]; simp only [List.length_cons, List.length_nil]; omega) (by omega) h
      | union =>
        walk_at "w"
        refine w_ixU (k := 0) rfl ?_
        walk_at "w"
        refine w_F rfl ?_
        walk_at "w"
        refine w_inT (ns := ["ask", "take"]) ?_
        walk_at "w"
        refine w_F (by decide) ?_
        walk_at "w"
        refine w_F rfl ?_
        walk_at "w"
        refine w_F rfl ?_
        walk_at "w"
        refine w_F rfl ?_
        walk_at "w"
        refine w_inT (ns := ["and", "or", "union", "least", "most"]) ?_
        walk_at "w"
        refine w_T (by decide) ?_
        walk_at "w"
        refine w_methS rfl h1 rfl ?_
        walk_at "w"
        refine w_ixU (k := 1) rfl ?_
        walk_at "w"
        refine cat_pth (by omega) ?_
        walk_at "w"
        refine hF a (by rw [byH]; omega) (by rw [byT]; omega) hok.2.1 _ _ _ _ (by rw [List.length_append]; simp only [List.length_cons, List.length_nil]; omega) (by omega) ?_
        refine out_mono (fun h => ?_) h
        dsimp only
        walk_at "w"
        refine w_methS rfl h1 rfl ?_
        walk_at "w"
        refine w_ixU (k := 2) rfl ?_
        walk_at "w"
        refine cat_pth (by omega) ?_
        walk_at "w"
        exact hF b (by rw [byH]; omega) (by rw [byT]; omega) hok.2.2 _ _ _ _ (by rw [List.length_append]; simp only [List.length_cons, List.length_nil]; omega) (by omega) h
      | least =>
        walk_at "w"
        refine w_ixU (k := 0) rfl ?_
        walk_at "w"
        refine w_F rfl ?_
        walk_at "w"
        refine w_inT (ns := ["ask", "take"]) ?_
        walk_at "w"
        refine w_F (by decide) ?_
        walk_at "w"
        refine w_F rfl ?_
        walk_at "w"
        refine w_F rfl ?_
        walk_at "w"
        refine w_F rfl ?_
        walk_at "w"
        refine w_inT (ns := ["and", "or", "union", "least", "most"]) ?_
        walk_at "w"
        refine w_T (by decide) ?_
        walk_at "w"
        refine w_methS rfl h1 rfl ?_
        walk_at "w"
        refine w_ixU (k := 1) rfl ?_
        walk_at "w"
        refine cat_pth (by omega) ?_
        walk_at "w"
        refine hF a (by rw [byH]; omega) (by rw [byT]; omega) hok.2.1 _ _ _ _ (by rw [List.length_append]; simp only [List.length_cons, List.length_nil]; omega) (by omega) ?_
        refine out_mono (fun h => ?_) h
        dsimp only
        walk_at "w"
        refine w_methS rfl h1 rfl ?_
        walk_at "w"
        refine w_ixU (k := 2) rfl ?_
        walk_at "w"
        refine cat_pth (by omega) ?_
        walk_at "w"
        exact hF b (by rw [byH]; omega) (by rw [byT]; omega) hok.2.2 _ _ _ _ (by rw [List.length_append]; simp only [List.length_cons, List.length_nil]; omega) (by omega) h
      | most =>
        walk_at "w"
        refine w_ixU (k := 0) rfl ?_
        walk_at "w"
        refine w_F rfl ?_
        walk_at "w"
        refine w_inT (ns := ["ask", "take"]) ?_
        walk_at "w"
        refine w_F (by decide) ?_
        walk_at "w"
        refine w_F rfl ?_
        walk_at "w"
        refine w_F rfl ?_
        walk_at "w"
        refine w_F rfl ?_
        walk_at "w"
        refine w_inT (ns := ["and", "or", "union", "least", "most"]) ?_
        walk_at "w"
        refine w_T (by decide) ?_
        walk_at "w"
        refine w_methS rfl h1 rfl ?_
        walk_at "w"
        refine w_ixU (k := 1) rfl ?_
        walk_at "w"
        refine cat_pth (by omega) ?_
        walk_at "w"
        refine hF a (by rw [byH]; omega) (by rw [byT]; omega) hok.2.1 _ _ _ _ (by rw [List.length_append]; simp only [List.length_cons, List.length_nil]; omega) (by omega) ?_
        refine out_mono (fun h => ?_) h
        dsimp only
        walk_at "w"
        refine w_methS rfl h1 rfl ?_
        walk_at "w"
        refine w_ixU (k := 2) rfl ?_
        walk_at "w"
        refine cat_pth (by omega) ?_
        walk_at "w"
        exact hF b (by rw [byH]; omega) (by rw [byT]; omega) hok.2.2 _ _ _ _ (by rw [List.length_append]; simp only [List.length_cons, List.length_nil]; omega) (by omega) h
  | leaf w xs =>
    rw [byOk, Bool.and_eq_true] at hok
    unfold byD
    have hwn : ¬ w ∈ lfW := fun e => by
      rw [decide_eq_true e] at hok
      cases hok.2
    have hw : ∀ z, z ∈ lfW → decide (w = z) = false := fun z hz => decide_eq_false fun e => by
      rw [e] at hok
      rw [decide_eq_true hz] at hok
      cases hok.2
    walk_at "w"
    refine w_ixU (k := ((0 : Nat) : Int)) (d := .str w) (atI_nat rfl) ?_
    walk_at "w"
    refine w_F (hw _ (by decide)) ?_
    walk_at "w"
    refine w_inT (ns := ["ask", "take"]) ?_
    walk_at "w"
    refine w_F (decide_eq_false fun e => hwn ((by decide : ∀ z, z ∈ ([("ask" : Str), "take"] : List Str) → z ∈ lfW) w e)) ?_
    walk_at "w"
    refine w_F (hw _ (by decide)) ?_
    walk_at "w"
    refine w_F (hw _ (by decide)) ?_
    walk_at "w"
    refine w_F (hw _ (by decide)) ?_
    walk_at "w"
    refine w_inT (ns := ["and", "or", "union", "least", "most"]) ?_
    walk_at "w"
    exact w_F (decide_eq_false fun e => hwn ((by decide : ∀ z, z ∈ ([("and" : Str), "or", "union", "least", "most"] : List Str) → z ∈ lfW) w e)) h
theorem body_spec {J : Nat} (hA : At Cf g A K) : ∀ (j : Nat) (b : By), byH b < j → byT b ≤ J → byOk (decide (K.so = "make")) b = true → BySp xc g A K (F_body Cf xc J j) b
  | 0, b, h, _, _ => absurd h (Nat.not_lt_zero _)
  | j + 1, b, hj, hJ, hok => by
    intro ns p P PX hp hn h
    obtain ⟨B, ck, kn, h1, h2, h3, h4, h5⟩ := hA.ex
    unfold F_body bodyO dB_FunctionChecker_check_body
    have tl : ∀ (w : Str) (xs : List PyData), byD b = .tuple (.str w :: xs) → decide (w = "case") = false → decide (w = "if") = false → (K.so = "make" → ∃ t, b = .tm t) → isOther b = true →
        dSeq (dSet (dOp oIxU (dVar 1) (dC (.int 0))) 4) (dIf (dB (dOp (oEq false) (dVar 4) (dC (.str "case")))) (dDrop (dOfV (vMethX (fun Cx fs s => PX Cx fs s.n) Cf "check_case" 4 (mkCase Cf xc (F_body Cf xc J j)) (vVar 0) (xCons (dVar 1) (xCons (dVar 2) (xCons (dVar 3) xNil)))))) (dIf (dB (dOp (oEq false) (dVar 4) (dC (.str "if")))) (dSeq (dDrop (dOfV (vMethX (fun Cx fs s => PX Cx fs s.n) Cf "check_condition" 4 (F_condition Cf xc J (J + 1)) (vVar 0) (xCons (dOp oIxU (dVar 1) (dC (.int 1))) (xCons (dOp oCatU (dVar 2) (dTup (dCons (dC (.int 1)) dNil))) (xCons (dVar 3) xNil)))))) (dSeq (dDrop (dOfV (vMethX (fun Cx fs s => PX Cx fs s.n) Cf "check_body" 4 (F_body Cf xc J j) (vVar 0) (xCons (dOp oIxU (dVar 1) (dC (.int 2))) (xCons (dOp oCatU (dVar 2) (dTup (dCons (dC (.int 2)) dNil))) (xCons (dVar 3) xNil)))))) (dDrop (dOfV (vMethX (fun Cx fs s => PX Cx fs s.n) Cf "check_body" 4 (F_body Cf xc J j) (vVar 0) (xCons (dOp oIxU (dVar 1) (dC (.int 3))) (xCons (dOp oCatU (dVar 2) (dTup (dCons (dC (.int 3)) dNil))) (xCons (dVar 3) xNil)))))))) (dIf (dB (dOp (oEq false) (dOfV (vFld Cf "own_sort" (vVar 0))) (dC (.str "make")))) (dDrop (dOfV (vMethX (fun Cx fs s => PX Cx fs s.n) Cf "check_term" 5 (F_term Cf xc J) (vVar 0) (xCons (dVar 1) (xCons (dVar 2) (xCons (dVar 3) (xCons (dC (.bool true)) xNil))))))) (dDrop (dOfV (vMethX (fun Cx fs s => PX Cx fs s.n) Cf "check_other_body" 4 (mkOther Cf xc J (F_body Cf xc J j)) (vVar 0) (xCons (dVar 1) (xCons (dVar 2) (xCons (dVar 3) xNil))))))))) { nx := fun s => P (.d .none) s.n, rt := fun v s => P (.d v) s.n, ro := fun a s => P (.o a) s.n } ⟨[.obj A, .dat (byD b), .dat (pthD p), .dat (nmsD ns), .un], g⟩ := fun w xs e e1 e2 e3 e4 => by
      rw [e]
      walk_at "w"
      refine w_ixU (k := ((0 : Nat) : Int)) (d := .str w) (atI_nat rfl) ?_
      walk_at "w"
      refine w_F e1 ?_
      walk_at "w"
      refine w_F e2 ?_
      walk_at "w"
      refine w_fldS rfl h1 rfl ?_
      walk_at "w"
      by_cases hs : K.so = "make"
      · refine w_T (decide_eq_true hs) ?_
        walk_at "w"
        obtain ⟨t, rfl⟩ := e3 hs
        refine w_methS rfl h1 rfl ?_
        walk_at "w"
        rw [← e]
        rw [byF, if_pos hs] at h
        rw [byOk] at hok
        rw [byT] at hJ hp
        exact term_spec hA J t (by omega) hok _ _ _ _ (by omega) h
      · refine w_F (decide_eq_false hs) ?_
        walk_at "w"
        refine w_methS rfl h1 rfl ?_
        walk_at "w"
        rw [← e]
        rw [decide_eq_false hs] at hok
        exact other_spec hA b e4 hJ hs hok (fun c hc ht hk => body_spec hA j c (by omega) (by omega) (by rw [decide_eq_false hs]; exact hk)) hp hn h
    have mk0 : ∀ {q : Bool}, (!decide (K.so = "make") && q) = true → K.so = "make" → False := fun hq hs => by
      rw [decide_eq_true hs] at hq
      cases hq
    have mk1 : ∀ {q : Bool}, (!decide (K.so = "make")) = true → K.so = "make" → False := fun hq hs => by
      rw [decide_eq_true hs] at hq
      cases hq
    cases b with
    | case x bs o =>
      rw [byOk, Bool.and_eq_true] at hok
      rw [byH] at hj
      have hh := h
      unfold byD
      walk_at "w"
      refine w_ixU (k := 0) rfl ?_
      walk_at "w"
      refine w_T rfl ?_
      walk_at "w"
      refine w_methS rfl h1 rfl ?_
      walk_at "w"
      rw [byH, byT] at hp
      rw [byH] at hn
      rw [byT] at hJ
      refine case_spec hA (fun t fs b hm => ?_) (body_spec hA j o (by omega) (by omega) hok.2) (by omega) (by omega) h
      have q1 := brsOk_mem hok.1 hm
      have q2 := brsH_mem hm
      have q3 := brsT_mem hm
      rw [brOk, Bool.and_eq_true] at q1
      rw [brH] at q2
      rw [brT] at q3
      exact ⟨of_decide_eq_true q1.1, body_spec hA j b (by omega) (by omega) q1.2⟩
    | ife c a b =>
      rw [byOk, Bool.and_eq_true, Bool.and_eq_true] at hok
      rw [byH] at hj hn
      rw [byH, byT] at hp
      rw [byT] at hJ
      rw [byF, out_or] at h
      unfold byD
      walk_at "w"
      refine w_ixU (k := 0) rfl ?_
      walk_at "w"
      refine w_F rfl ?_
      walk_at "w"
      refine w_T rfl ?_
      walk_at "w"
      refine w_methS rfl h1 rfl ?_
      walk_at "w"
      refine w_ixU (k := 1) rfl ?_
      walk_at "w"
      refine cat_pth (by omega) ?_
      walk_at "w"
      refine condition_spec hA (J + 1) c (by omega) (by omega) hok.1 _ _ _ (by rw [List.length_append]; simp only [List.length_cons, List.length_nil]; omega) ?_
      refine out_mono (fun h => ?_) h
      dsimp only
      walk_at "w"
      refine w_methS rfl h1 rfl ?_
      walk_at "w"
      refine w_ixU (k := 2) rfl ?_
      walk_at "w"
      refine cat_pth (by omega) ?_
      walk_at "w"
      rw [out_or] at h
      refine body_spec hA j a (by omega) (by omega) hok.2.1 _ _ _ _ (by rw [List.length_append]; simp only [List.length_cons, List.length_nil]; omega) (by omega) ?_
      refine out_mono (fun h => ?_) h
      dsimp only
      walk_at "w"
      refine w_methS rfl h1 rfl ?_
      walk_at "w"
      refine w_ixU (k := 3) rfl ?_
      walk_at "w"
      refine cat_pth (by omega) ?_
      walk_at "w"
      exact body_spec hA j b (by omega) (by omega) hok.2.2 _ _ _ _ (by rw [List.length_append]; simp only [List.length_cons, List.length_nil]; omega) (by omega) h
    | tm t =>
      cases t with
      | part x => exact tl "part" [.str x] rfl rfl rfl (fun _ => ⟨_, rfl⟩) rfl
      | tag t as => exact tl "tag" [.str t, .tuple (tmsD as)] rfl rfl rfl (fun _ => ⟨_, rfl⟩) rfl
      | call t as => exact tl "call" [.str t, .tuple (tmsD as)] rfl rfl rfl (fun _ => ⟨_, rfl⟩) rfl
    | use w f as =>
      rw [byOk] at hok
      have hk := hok
      cases w with
      | true => exact tl "take" [.str f, .tuple (tmsD as)] rfl rfl rfl (fun hs => (mk0 hk hs).elim) rfl
      | false => exact tl "ask" [.str f, .tuple (tmsD as)] rfl rfl rfl (fun hs => (mk0 hk hs).elim) rfl
    | root x =>
      rw [byOk] at hok
      exact tl "root" [.str x] rfl rfl rfl (fun hs => (mk1 (q := true) hok hs).elim) rfl
    | one t =>
      rw [byOk] at hok
      exact tl "one" [.str t] rfl rfl rfl (fun hs => (mk1 (q := true) hok hs).elim) rfl
    | plus n b =>
      rw [byOk] at hok
      exact tl "plus" [.int n, byD b] rfl rfl rfl (fun hs => (mk0 hok hs).elim) rfl
    | dbl w a b =>
      rw [byOk] at hok
      cases w with
      | and_ => exact tl "and" [byD a, byD b] rfl rfl rfl (fun hs => (mk0 hok hs).elim) rfl
      | or_ => exact tl "or" [byD a, byD b] rfl rfl rfl (fun hs => (mk0 hok hs).elim) rfl
      | union => exact tl "union" [byD a, byD b] rfl rfl rfl (fun hs => (mk0 hok hs).elim) rfl
      | least => exact tl "least" [byD a, byD b] rfl rfl rfl (fun hs => (mk0 hok hs).elim) rfl
      | most => exact tl "most" [byD a, byD b] rfl rfl rfl (fun hs => (mk0 hok hs).elim) rfl
    | leaf w xs =>
      rw [byOk] at hok
      have hk := hok
      rw [Bool.and_eq_true] at hk
      have hwn : ¬ w ∈ lfW := fun e => by
        rw [decide_eq_true e] at hk
        cases hk.2
      exact tl w xs rfl (decide_eq_false fun e => hwn (by rw [e]; decide)) (decide_eq_false fun e => hwn (by rw [e]; decide)) (fun hs => (mk0 hok hs).elim) rfl
end K58

set_option Elab.async false
set_option linter.all false
set_option maxRecDepth 100000
set_option maxHeartbeats 4000000
namespace K58
open PySem PySem.Spec PyProof.Rows L2 GG DD PT DL LS
set_option simprocs false
local macro_rules | `(tactic| walk_at "w1") => `(tactic| with_reducible first
  | refine DL.w_seq ?_ | refine DL.w_next ?_ | refine DL.w_set ?_ | refine DL.w_setO ?_ | refine DL.w_if ?_ | refine DL.w_ret ?_ | refine DL.w_drop ?_
  | refine DL.w_par ?_ | refine DL.w_parLL ?_ | refine DL.w_asg ?_ | refine DL.w_for ?_ | refine DL.w_dPut ?_
  | refine DL.w_makeX ?_ | refine DL.w_fPut ?_ | refine DL.w_new0 ?_ | refine DL.w_oIn ?_ | refine DL.w_dInE ?_ | refine DL.w_oUpd ?_ | refine DL.w_vGet ?_
  | refine DL.w_ofV ?_ | refine DL.w_vD ?_ | refine DL.w_setV ?_ | refine DL.w_parV ?_ | refine DL.w_xV ?_ | refine DL.w_ixE ?_ 
  | refine DL.w_callSK ?_ | refine DL.w_sortSetI ?_ | refine DL.w_lenSetI ?_ | refine DL.w_sortZ ?_ | refine DL.w_callS ?_ | refine DL.w_callL ?_ | refine DL.w_xComp ?_ | refine DL.w_xNew ?_ | refine DL.w_listX ?_ | refine DL.w_parX ?_ | refine DL.w_par3LX ?_ | refine DL.w_xTup ?_ | refine DL.w_lenSetT ?_ | refine DL.w_listRng2 ?_ | refine DL.w_parG3 ?_
  | refine DL.w_gdN ?_ | refine DL.w_gdNil ?_ | refine DL.w_gdCons ?_
  | refine DL.w_c ?_ | refine DL.w_asL ?_ | refine DL.w_asU ?_ | refine DL.w_newL ?_ | refine DL.w_nil ?_ | refine DL.w_cons ?_ | refine DL.w_tup ?_ | refine DL.w_lst ?_ | refine DL.w_op ?_
  | refine DL.w_lenL ?_ | refine DL.w_lenD ?_ | refine DL.w_tupOf ?_ | refine DL.w_ifE ?_ | refine DL.w_rep ?_ | refine DL.w_call ?_ | refine DL.w_callP ?_
  | refine DL.w_xNil ?_ | refine DL.w_xCons ?_ | refine DL.w_all ?_ | refine DL.w_reprA ?_ | refine DL.w_andV ?_ | refine DL.w_newD ?_ 
  | refine DL.w_slU ?_ | refine DL.w_noP ?_ | refine DL.w_part ?_ | refine DL.w_dictU ?_ 
  | refine DL.w_rng1 ?_ | refine DL.w_comp ?_ | refine DL.w_B ?_ | refine DL.w_or ?_ | refine DL.w_not ?_ | refine DL.w_yes ?_
  | refine DL.w_dcomp ?_
  | refine DL.w_notV ?_ | refine DL.w_splat ?_ | refine DL.w_enumT ?_ | refine DL.w_par0E ?_ | refine DL.w_raise ?_ | refine DL.w_callX ?_ | refine DL.w_tryAs ?_ | refine DL.w_tryAs0 ?_ )
local macro_rules | `(tactic| walk_at "w2") => `(tactic| first
  | walk_at "w1"
  | ((with_reducible apply DL.w_var); (· rfl))
  | ((with_reducible apply DL.w_xDeck); (· rfl))
  | ((with_reducible apply DL.w_vVarO); (· rfl))
  | ((with_reducible apply DL.w_vVarK); (· rfl))
  | ((with_reducible apply DL.w_vVarD); (· rfl))
  | ((with_reducible apply DL.w_eqK0); (· rfl))
  | ((with_reducible apply DL.w_listO); (· rfl))
  | ((with_reducible apply DL.w_listD); (· rfl))
  | ((with_reducible apply DL.w_app); (· exact trivial))
  | ((with_reducible apply DL.w_dGet); (· exact trivial))
  | ((with_reducible apply DL.w_listA); (· rfl))
  | ((with_reducible apply DL.w_augI); (· rfl))
  | ((with_reducible apply DL.w_slVarO); (· rfl))
  | ((with_reducible apply DL.w_fzO); (· rfl))
  | ((with_reducible apply DL.w_fzD); (· rfl))
  | ((with_reducible apply DL.w_fz); (· rfl))
  | ((with_reducible apply DL.w_gdTup); (· rfl))
  | ((with_reducible apply DL.w_ins); (· exact trivial))
  | ((with_reducible apply DL.w_xLend); (· exact trivial))
  | ((with_reducible apply DL.w_lendK); (· rfl))
  | ((with_reducible apply DL.w_gdLst); (· rfl))
  | ((with_reducible apply DL.w_keysK); (· rfl))
  | ((with_reducible refine And.intro ?_ ?_); (· first | rfl | exact True.intro | decide | (dsimp only [List.length_cons, List.length_nil]; decide)))
  | with_reducible refine DL.w_eqS ?_ | with_reducible refine DL.w_neS ?_ | with_reducible refine DL.w_I0 ?_ | with_reducible refine DL.w_eqI ?_ | with_reducible refine DL.w_neI ?_ | with_reducible refine DL.w_isN ?_ | with_reducible refine DL.w_notN ?_)
local macro_rules | `(tactic| walk_at "w") => `(tactic| (repeat walk_at "w2"; try dsimp only [List.set_cons_zero, List.set_cons_succ, List.cons_append, List.nil_append, List.replicate_succ, List.replicate_zero]))
set_option pp.maxSteps 1500
theorem merge_new : ∀ (l : List (L2.Key × PyData)) (acc : List (PyData × PyData)), (l.map (·.1)).Nodup → (∀ k, k ∈ l.map (·.1) → dgetD acc k = none) → mergeD acc l = acc ++ l.map fun p => (keyD p.1, p.2)
  | [], acc, _, _ => by rw [List.map_nil, List.append_nil]; rfl
  | p :: r, acc, hn, hk => by
    rw [List.map_cons, List.nodup_cons] at hn
    have h0 : dgetD acc p.1 = none := hk p.1 (by rw [List.map_cons]; exact List.mem_cons_self)
    have e : dputD acc p.1 p.2 = acc ++ [(keyD p.1, p.2)] := by
      unfold dputD
      rw [h0, if_neg (by decide)]
    show mergeD (dputD acc p.1 p.2) r = _
    rw [merge_new r _ hn.2 fun k hk2 => ?_, e, List.append_assoc, List.map_cons]
    · rfl
    · have hne : p.1 ≠ k := fun z => hn.1 (by rw [z]; exact hk2)
      rw [get_put, if_neg hne]
      exact hk k (by rw [List.map_cons]; exact List.mem_cons_of_mem _ hk2)
theorem inr_nodup {l : List Str} (h : l.Nodup) : (l.map fun u => (Sum.inr u : L2.Key)).Nodup := by
  unfold List.Nodup
  rw [List.pairwise_map]
  exact h.imp fun hne z => hne (Sum.inr.inj z)
section
variable {α : Type}
/-- a dict with text keys -/
def sdD (f : α → PyData) (l : List (Str × α)) : List (PyData × PyData) := l.map fun p => (.str p.1, f p.2)
theorem sd_merge (f : α → PyData) {l : List (Str × α)} (h : (l.map (·.1)).Nodup) : mergeD [] (l.map fun p => (Sum.inr p.1, f p.2)) = sdD f l := by
  rw [merge_new _ _ (by rw [List.map_map]; have := inr_nodup h; rw [List.map_map] at this; exact this) fun _ _ => rfl, List.map_map]
  rfl
theorem sd_keys (f : α → PyData) : ∀ l : List (Str × α), keysD (sdD f l) = some (l.map fun p => (Sum.inr p.1, f p.2))
  | [] => rfl
  | p :: l => by
    show (match kOf (.str p.1), keysD (sdD f l) with
      | some k', some r' => some ((k', f p.2) :: r')
      | _, _ => none) = _
    rw [sd_keys f l]
    rfl
theorem sd_pairs (f : α → PyData) : ∀ l : List (Str × α), pairsD (l.map fun p => .tuple [.str p.1, f p.2]) = some (l.map fun p => (Sum.inr p.1, f p.2))
  | [] => rfl
  | p :: l => by
    rw [List.map_cons, pairsD, sd_pairs f l]
    rfl
theorem sd_get (f : α → PyData) (t : Str) : ∀ l : List (Str × α), dgetD (sdD f l) (.inr t) = (l.lookup t).map f
  | [] => rfl
  | p :: l => by
    show (if kOf (.str p.1) = some (Sum.inr t) then some (f p.2) else dgetD (sdD f l) (.inr t)) = _
    rw [List.lookup_cons]
    by_cases e : p.1 = t
    · subst e
      rw [if_pos (show kOf (.str p.1) = some (Sum.inr p.1) from rfl), beq_self_eq_true]
      rfl
    · rw [if_neg (show ¬ kOf (.str p.1) = some (Sum.inr t) from fun z => e (Sum.inr.inj (Option.some.inj (show some (Sum.inr p.1) = some (Sum.inr t) from z)))), sd_get f t l, show (t == p.1) = false from beq_eq_false_iff_ne.mpr fun z => e z.symm]
theorem sd_flat (f : α → PyData) : ∀ l : List (Str × α), flatK (sdD f l) = true
  | [] => rfl
  | p :: l => by
    show (true && flatK (sdD f l)) = true
    rw [sd_flat f l]
    rfl
theorem lookup_none {t : Str} {l : List (Str × α)} (h : ¬ t ∈ l.map (·.1)) : l.lookup t = none := by
  induction l with
  | nil => rfl
  | cons p l ih =>
    rw [List.map_cons, List.mem_cons] at h
    rw [List.lookup_cons, show (t == p.1) = false from beq_eq_false_iff_ne.mpr fun z => h (.inl z)]
    exact ih fun z => h (.inr z)
end
abbrev Sg := List (Str × Nat)
def sgD (sg : Sg) : PyData := .tuple (sg.map fun p => .tuple [.str p.1, .int (p.2 : Nat)])
def cnOf (sg : Sg) : Sg := sg ++ [(("void" : Str), 0)]
def SgOk (sg : Sg) : Prop := (sg.map (·.1)).Nodup ∧ ¬ ("void" : Str) ∈ sg.map (·.1) ∧ sg.length ≤ 1000
def F_field_counts : FD := bodyD dB_field_counts 0
theorem counts_spec {sg : Sg} (hk : SgOk sg) {n : Nat} {P : PyData → Nat → Prop} (h : P (.dict (sdD (fun c : Nat => .int (c : Nat)) (cnOf sg))) n) : F_field_counts [.dat (sgD sg)] n P := by
  unfold F_field_counts bodyD dB_field_counts sgD
  walk_at "w"
  refine ⟨_, sd_pairs (fun c : Nat => .int (c : Nat)) sg, ?_⟩
  rw [sd_merge (fun c : Nat => PyData.int (c : Nat)) hk.1]
  walk_at "w"
  refine ⟨by unfold sdD; rw [List.length_map]; have := hk.2.2; omega, _, sd_keys _ sg, ?_⟩
  rw [sd_merge (fun c : Nat => PyData.int (c : Nat)) hk.1]
  have e : dputD (sdD (fun c : Nat => PyData.int (c : Nat)) sg) (Sum.inr "void") (.int 0) = sdD (fun c : Nat => PyData.int (c : Nat)) (cnOf sg) := by
    unfold dputD
    rw [sd_get, lookup_none hk.2.1]
    unfold sdD cnOf
    rw [List.map_append]
    rfl
  rw [e]
  walk_at "w"
  exact h
structure Fn where
  nm : Str
  ps : List Str
  rk : Int
  bd : By
structure Gp where
  so : Str
  fs : List Fn
structure Pg where
  sg : Sg
  gs : List Gp
def fD (f : Fn) : PyData := .tuple [.str f.nm, nmsD f.ps, .int f.rk, byD f.bd]
def gD (g : Gp) : PyData := .tuple [.str g.so, .tuple (g.fs.map fD)]
def pD (p : Pg) : PyData := .tuple [sgD p.sg, .tuple (p.gs.map gD)]
abbrev Kf := Str → Option (Nat × Str × Nat)
/-- the functions of a group as they become known -/
def knG (i : Nat) (g : Gp) : List (Str × (Nat × Str × Nat)) := g.fs.map fun f => (f.nm, (i, g.so, f.ps.length))
def upK (k : Kf) (i : Nat) (g : Gp) : Kf := fun n => ((knG i g).lookup n).or (k n)
def kOfG (sg : Sg) (k : Kf) (i : Nat) (g : Gp) : Kn := ⟨fun t => (cnOf sg).lookup t, k, i, g.so⟩
def fnsF (K : Kn) (i : Nat) (j : Nat) : List Fn → Flt
  | [] => none
  | f :: fs => (byF K f.ps [1, (i : Int), 1, (j : Int), 3] f.bd).or (fnsF K i (j + 1) fs)
def gpsF (sg : Sg) (k : Kf) (i : Nat) : List Gp → Flt
  | [] => none
  | g :: gs => (fnsF (kOfG sg (upK k i g) i g) i 0 g.fs).or (gpsF sg (upK k i g) (i + 1) gs)
def pgF (p : Pg) : Flt := gpsF p.sg (fun _ => none) 0 p.gs
structure FnOk (J L : Nat) (so : Str) (f : Fn) : Prop where
  hh : byH f.bd < L
  ht : byT f.bd ≤ J
  ok : byOk (decide (so = "make")) f.bd = true
  ps : f.ps.length ≤ 1000
structure GpOk (J L : Nat) (g : Gp) : Prop where
  nd : (g.fs.map (·.nm)).Nodup
  ln : g.fs.length ≤ 1000
  fs : ∀ f, f ∈ g.fs → FnOk J L g.so f
def F_init (Cf : Addr) : FO := bodyO (dB_FunctionChecker___init__ Cf) 0
theorem oput_same {g : DL.GS} {a : Addr} {o o' : OB} : (g.put a o).put a o' = g.put a o' := by
  have e : (fun b => if b = a then some o' else (g.put a o).ob b) = fun b => if b = a then some o' else g.ob b := by
    funext b
    by_cases e : b = a
    · rw [if_pos e, if_pos e]
    · rw [if_neg e, if_neg e]
      exact if_neg e
  show (⟨g.n, fun b => if b = a then some o' else (g.put a o).ob b⟩ : DL.GS) = ⟨g.n, fun b => if b = a then some o' else g.ob b⟩
  rw [e]
theorem init_spec {Cf A B : Addr} {g : DL.GS} {ck : List (PyData × PyData)} {i : Nat} {so : Str} {P : OV → DL.GS → Prop} {PX : PXg}
    (h : P (.d .none) (g.put A (.ins Cf [("counts_by_tag", .d (.dict ck)), ("known_functions", .o B), ("own_group", .d (.int (i : Nat))), ("own_sort", .d (.str so))]))) :
    F_init Cf [.obj A, .dat (.dict ck), .obj B, .dat (.int (i : Nat)), .dat (.str so)] (g.put A (.ins Cf [])) P PX := by
  unfold F_init bodyO dB_FunctionChecker___init__
  walk_at "w"
  rw [if_pos rfl]
  refine ⟨rfl, (by decide : (0 : Nat) < 1000), ?_⟩
  rw [oput_same]
  walk_at "w"
  rw [if_pos rfl]
  refine ⟨rfl, (by decide : (1 : Nat) < 1000), ?_⟩
  rw [oput_same]
  walk_at "w"
  rw [if_pos rfl]
  refine ⟨rfl, (by decide : (2 : Nat) < 1000), ?_⟩
  rw [oput_same]
  walk_at "w"
  rw [if_pos rfl]
  refine ⟨rfl, (by decide : (3 : Nat) < 1000), ?_⟩
  rw [oput_same]
  exact h
theorem oget_put (kn : List (L2.Key × OV)) (k k' : L2.Key) (v : OV) : ogetK (oputK kn k v) k' = if k = k' then some v else ogetK kn k' := by
  unfold oputK
  by_cases h : (ogetK kn k).isSome = true
  · rw [if_pos h]
    have key : ∀ l : List (L2.Key × OV), (ogetK l k).isSome = true ∨ k ≠ k' → ogetK (l.map fun kv => if kv.1 = k then (kv.1, v) else kv) k' = if k = k' then some v else ogetK l k' := by
      intro l
      induction l with
      | nil =>
        intro h
        rcases h with h | h
        · cases h
        · rw [if_neg h]
          rfl
      | cons p r ih =>
        intro hh
        rw [List.map_cons]
        by_cases e : p.1 = k
        · rw [if_pos e]
          by_cases e2 : k = k'
          · rw [if_pos e2, ogetK_pos (by exact e.trans e2)]
          · rw [if_neg e2, ogetK_neg (by exact fun z => e2 (e.symm.trans z)), ogetK_neg (fun z => e2 (e.symm.trans z)), ih (.inr e2), if_neg e2]
        · rw [if_neg e]
          by_cases e2 : p.1 = k'
          · rw [ogetK_pos e2, ogetK_pos e2, if_neg (fun z => e (e2.trans z.symm))]
          · rw [ogetK_neg e2, ogetK_neg e2]
            exact ih (hh.imp (fun z => by rw [ogetK_neg e] at z; exact z) id)
    exact key kn (.inl h)
  · rw [if_neg h]
    have h0 : ogetK kn k = none := by
      cases e : ogetK kn k with
      | none => rfl
      | some x => rw [e] at h; exact absurd rfl h
    have key : ∀ l : List (L2.Key × OV), ogetK (l ++ [(k, v)]) k' = (ogetK l k').or (if k = k' then some v else none) := by
      intro l
      induction l with
      | nil =>
        show ogetK [(k, v)] k' = _
        by_cases e : k = k'
        · rw [if_pos e, ogetK_pos e]
          rfl
        · rw [if_neg e, ogetK_neg e]
          rfl
      | cons p r ih =>
        rw [List.cons_append]
        by_cases e : p.1 = k'
        · rw [ogetK_pos e, ogetK_pos e]
          rfl
        · rw [ogetK_neg e, ogetK_neg e, ih]
    rw [key]
    by_cases e : k = k'
    · subst e
      rw [h0, if_pos rfl]
      rfl
    · rw [if_neg e, if_neg e]
      cases ogetK kn k' <;> rfl
theorem oget_merge (f : (Nat × Str × Nat) → PyData) (t : Str) : ∀ (l : List (Str × (Nat × Str × Nat))) (kn : List (L2.Key × OV)), (l.map (·.1)).Nodup → ogetK (omergeK kn (entO (sdD f l))) (.inr t) = ((l.lookup t).map fun x => OV.d (f x)).or (ogetK kn (.inr t))
  | [], kn, _ => rfl
  | p :: l, kn, hn => by
    rw [List.map_cons, List.nodup_cons] at hn
    show ogetK (omergeK (oputK kn (.inr p.1) (.d (f p.2))) (entO (sdD f l))) (.inr t) = _
    rw [oget_merge f t l _ hn.2, oget_put, List.lookup_cons]
    by_cases e : p.1 = t
    · subst e
      rw [lookup_none hn.1, if_pos rfl, beq_self_eq_true]
      rfl
    · rw [if_neg (fun z => e (Sum.inr.inj z)), show (t == p.1) = false from beq_eq_false_iff_ne.mpr fun z => e z.symm]
theorem oput_len (kn : List (L2.Key × OV)) (k : L2.Key) (v : OV) : (oputK kn k v).length ≤ kn.length + 1 := by
  unfold oputK
  split
  · rw [List.length_map]
    omega
  · rw [List.length_append]
    exact Nat.le_refl _
theorem omerge_len : ∀ (more kn : List (L2.Key × OV)), (omergeK kn more).length ≤ kn.length + more.length
  | [], kn => Nat.le_refl _
  | p :: r, kn => by
    show (omergeK (oputK kn p.1 p.2) r).length ≤ _
    have := omerge_len r (oputK kn p.1 p.2)
    have := oput_len kn p.1 p.2
    rw [List.length_cons]
    omega
def plX : DV → Bool
  | .un => true
  | .dat _ => true
  | _ => false
theorem no_cons {δ : List DV} {i : Nat} {vs : List Nat} {c : DV} (e : δ[i]? = some c) (h : plX c = true) (t : noOwnB δ vs = true) : noOwnB δ (i :: vs) = true := by
  unfold noOwnB at *
  rw [List.all_cons, Bool.and_eq_true]
  refine ⟨?_, t⟩
  rw [e]
  cases c <;> first | rfl | cases h
def nmOf : PyData → Str
  | .tuple (.str n :: _) => n
  | _ => ""
def psOf : PyData → Nat
  | .tuple [_, .tuple ps, _, _] => ps.length
  | _ => 0
def F_program0 (Cf : Addr) (xc : Fk → Addr) (J L : Nat) : FO := bodyO (dB_check_program Cf F_field_counts (F_init Cf) (F_body Cf xc J L)) 13
structure PgOk (J L : Nat) (p : Pg) : Prop where
  sg : SgOk p.sg
  ln : p.gs.length ≤ 1000
  gs : ∀ g, g ∈ p.gs → GpOk J L g
theorem program_spec {Cf : Addr} {xc : Fk → Addr} {J L : Nat} {p : Pg} (hp : PgOk J L p) (hJ : 3 * L + 2 * J ≤ 90000) (hL : L ≤ 800) {n : Nat} {P : OV → DL.GS → Prop} {PX : PXg}
    (h : ∀ g, g.n = n → out (pgF p) (P (.d .none) g) (Yg xc PX g)) : F_program0 Cf xc J L [.dat (pD p)] (g0 n) P PX := by
  unfold F_program0 bodyO dB_check_program pD
  walk_at "w"
  refine counts_spec hp.sg ?_
  walk_at "w"
  intro B hB
  refine ⟨by decide, (by decide : 3 < 14), (by decide : 4 < 14), ?_⟩
  walk_at "w"
  rw [enum_map]
  refine loop_rem (fun rest st => ∃ (i : Nat) (cs : List Gp) (kf : Kf) (kn : List (L2.Key × OV)) (g : DL.GS) (x5 x6 x7 x8 x9 x10 x11 x12 x13 : DV), (∀ c, c ∈ cs → c ∈ p.gs) ∧ rest = (cs.zipIdx i).map (fun q => PyData.tuple [.int (q.2 : Nat), gD q.1]) ∧
    st = ⟨[.dat (.tuple [sgD p.sg, .tuple (p.gs.map gD)]), .dat (sgD p.sg), .dat (.tuple (p.gs.map gD)), .dat (.dict (sdD (fun c : Nat => .int (c : Nat)) (cnOf p.sg))), .obj B, x5, x6, x7, x8, x9, x10, x11, x12, x13], g⟩ ∧
    g.n = n ∧ g.ob B = some (.dic kn) ∧ (∀ f, ogetK kn (.inr f) = (kf f).map fun x => .d (fnD x)) ∧ kn.length + 1000 * cs.length ≤ 1000000 ∧ (plX x10 = true ∧ plX x11 = true ∧ plX x12 = true ∧ plX x13 = true) ∧
    ∀ g' : DL.GS, g'.n = n → out (gpsF p.sg kf i cs) (P (.d .none) g') (Yg xc PX g')) (fun d rest st hJ N hN => ?_) (fun st hJ => ?_) _ _
    ⟨0, p.gs, fun _ => none, [], _, _, _, _, _, _, _, _, _, _, fun _ h => h, rfl, rfl, rfl, if_pos rfl, fun _ => rfl, ?_, ⟨rfl, rfl, rfl, rfl⟩, h⟩
  · obtain ⟨i, cs, kf, kn, g, x5, x6, x7, x8, x9, x10, x11, x12, x13, hm, hr, rfl, hg, hb, hk, hl, ⟨o0, o1, o2, o3⟩, ho⟩ := hJ
    cases cs with
    | nil => cases hr
    | cons c cs =>
      rw [List.zipIdx_cons, List.map_cons] at hr
      injection hr with hr1 hr2
      subst hr1
      have hc := hp.gs c (hm c List.mem_cons_self)
      walk_at "w"
      refine w_gdTup rfl ?_
      walk_at "w"
      rw [hb]
      refine ⟨trivial, ?_⟩
      walk_at "w"
      refine ⟨by rw [List.length_map]; exact hc.ln, ?_, ?_⟩
      · exact no_cons rfl o0 (no_cons rfl o1 (no_cons rfl o2 (no_cons rfl o3 rfl)))
      refine dc_map (fun d => (.inr (nmOf d), fnD (i, c.so, psOf d))) (fun d hd Y Z hY => ?_) ?_
      · obtain ⟨f, hf, rfl⟩ := List.mem_map.mp hd
        have hY' : Y (.str f.nm) (.tuple [.int (i : Nat), .str c.so, .int (f.ps.length : Nat)]) g := by
          have e : psOf (fD f) = f.ps.length := by
            show (f.ps.map PyData.str).length = _
            rw [List.length_map]
          rw [e] at hY
          exact hY
        unfold fD
        walk_at "w"
        rw [if_pos rfl]
        walk_at "w"
        dsimp only [nmsD]
        walk_at "w"
        rw [List.length_map]
        exact hY'
      have e0 : (c.fs.map fD).map (fun d => ((.inr (nmOf d), fnD (i, c.so, psOf d)) : L2.Key × PyData)) = (knG i c).map fun p => (Sum.inr p.1, fnD p.2) := by
        unfold knG
        rw [List.map_map, List.map_map]
        refine List.map_congr_left fun f _ => ?_
        show ((Sum.inr f.nm, fnD (i, c.so, (f.ps.map PyData.str).length)) : L2.Key × PyData) = _
        rw [List.length_map]
        rfl
      have hnd : ((knG i c).map (·.1)).Nodup := by
        unfold knG
        rw [List.map_map]
        exact hc.nd
      rw [e0, sd_merge _ hnd]
      refine ⟨sd_flat _ _, ?_⟩
      have hlen : (sdD fnD (knG i c)).length = c.fs.length := by
        unfold sdD knG
        rw [List.length_map, List.length_map]
      have hln := hc.ln
      rw [List.length_cons] at hl
      rw [hb]
      dsimp only
      refine ⟨by omega, ?_⟩
      walk_at "w"
      intro A hA
      have hAB : A ≠ B := fun e => by
        rw [if_pos e] at hA
        cases hA
      refine init_spec ?_
      refine ⟨rfl, (by decide : 8 < 14), ?_⟩
      obtain ⟨kn', hkn⟩ : ∃ kn', kn' = omergeK kn (entO (sdD fnD (knG i c))) := ⟨_, rfl⟩
      have hkl : kn'.length ≤ kn.length + c.fs.length := by
        have := omerge_len (entO (sdD fnD (knG i c))) kn
        have e : (entO (sdD fnD (knG i c))).length ≤ c.fs.length := by
          rw [← hlen]
          unfold entO
          exact List.length_filterMap_le _ _
        rw [hkn]
        omega
      have hkk : ∀ f, ogetK kn' (.inr f) = (upK kf i c f).map fun x => .d (fnD x) := fun f => by
        rw [hkn, oget_merge fnD f _ _ hnd, hk]
        unfold upK
        cases (knG i c).lookup f <;> rfl
      rw [← hkn]
      obtain ⟨g2, hg2⟩ : ∃ g2 : DL.GS, g2 = (g.put B (.dic kn')).put A (.ins Cf (fldsO (sdD (fun c : Nat => .int (c : Nat)) (cnOf p.sg)) B (kOfG p.sg (upK kf i c) i c))) := ⟨_, rfl⟩
      have hgn : g2.n = n := by rw [hg2]; exact hg
      have hgB : g2.ob B = some (.dic kn') := by
        rw [hg2, put_ne (fun e => hAB e.symm), put_at]
      have hAt : At Cf g2 A (kOfG p.sg (upK kf i c) i c) := ⟨B, _, kn', by rw [hg2]; exact put_at, sd_flat _ _, fun t => sd_get _ t _, hgB, hkk⟩
      show dFor _ _ _ _ ⟨[_, _, _, _, _, _, _, _, .obj A, x9, x10, x11, x12, x13], (g.put B (.dic kn')).put A (.ins Cf (fldsO (sdD (fun c : Nat => .int (c : Nat)) (cnOf p.sg)) B (kOfG p.sg (upK kf i c) i c)))⟩
      rw [← hg2]
      have hof : out (fnsF (kOfG p.sg (upK kf i c) i c) i 0 c.fs) (∀ g' : DL.GS, g'.n = n → out (gpsF p.sg (upK kf i c) (i + 1) cs) (P (.d .none) g') (Yg xc PX g')) (Yg xc PX g2) := by
        have q : ∀ g' : DL.GS, g'.n = n → out (fnsF (kOfG p.sg (upK kf i c) i c) i 0 c.fs) (out (gpsF p.sg (upK kf i c) (i + 1) cs) (P (.d .none) g') (Yg xc PX g')) (Yg xc PX g') := fun g' e => by
          have := ho g' e
          rw [gpsF, out_or] at this
          exact this
        cases hf : fnsF (kOfG p.sg (upK kf i c) i c) i 0 c.fs with
        | none =>
          rw [hf] at q
          exact q
        | some w =>
          rw [hf] at q
          exact q g2 hgn
      walk_at "w"
      rw [enum_map]
      refine loop_rem (fun rest st => ∃ (j : Nat) (fs : List Fn) (x9 x10 x11 x12 x13 : DV), (∀ f, f ∈ fs → f ∈ c.fs) ∧ rest = (fs.zipIdx j).map (fun q => PyData.tuple [.int (q.2 : Nat), fD q.1]) ∧
        st = ⟨[.dat (.tuple [sgD p.sg, .tuple (p.gs.map gD)]), .dat (sgD p.sg), .dat (.tuple (p.gs.map gD)), .dat (.dict (sdD (fun c : Nat => .int (c : Nat)) (cnOf p.sg))), .obj B, .dat (.int (i : Nat)), .dat (.str c.so), .dat (.tuple (c.fs.map fD)), .obj A, x9, x10, x11, x12, x13], g2⟩ ∧
        (plX x10 = true ∧ plX x11 = true ∧ plX x12 = true ∧ plX x13 = true) ∧
        out (fnsF (kOfG p.sg (upK kf i c) i c) i j fs) (∀ g' : DL.GS, g'.n = n → out (gpsF p.sg (upK kf i c) (i + 1) cs) (P (.d .none) g') (Yg xc PX g')) (Yg xc PX g2)) (fun d rest st hJ N2 hN2 => ?_) (fun st hJ => ?_) _ _
        ⟨0, c.fs, _, _, _, _, _, fun _ h => h, rfl, rfl, ⟨o0, o1, o2, o3⟩, hof⟩
      · obtain ⟨j, fs, y9, y10, y11, y12, y13, hm2, hr3, rfl, oo, ho2⟩ := hJ
        cases fs with
        | nil => cases hr3
        | cons f fs =>
          rw [List.zipIdx_cons, List.map_cons] at hr3
          injection hr3 with hr4 hr5
          subst hr4
          have hf := hc.fs f (hm2 f List.mem_cons_self)
          walk_at "w"
          refine w_gdTup rfl ?_
          walk_at "w"
          refine w_methS rfl (by rw [hg2]; exact put_at) rfl ?_
          walk_at "w"
          rw [fnsF, out_or] at ho2
          refine body_spec hAt L f.bd hf.hh hf.ht hf.ok f.ps [1, (i : Int), 1, (j : Int), 3] _ _ ?_ ?_ ?_
          · have := hf.hh
            have := hf.ht
            show 5 + _ + _ + _ ≤ _
            omega
          · have := hf.hh
            have := hf.ps
            omega
          · exact out_mono (fun ho3 => hN2 _ ⟨j + 1, fs, _, _, _, _, _, fun f h => hm2 f (List.mem_cons_of_mem _ h), hr5, rfl, ⟨rfl, rfl, rfl, rfl⟩, ho3⟩) ho2
      · obtain ⟨j, fs, y9, y10, y11, y12, y13, hm2, hr3, rfl, oo, ho2⟩ := hJ
        cases fs with
        | nil => exact hN _ ⟨i + 1, cs, upK kf i c, kn', g2, _, _, _, _, _, _, _, _, _, fun c h => hm c (List.mem_cons_of_mem _ h), hr2, rfl, hgn, hgB, hkk, by omega, oo, ho2⟩
        | cons b cs => cases hr3
  · obtain ⟨i, cs, kf, kn, g, x5, x6, x7, x8, x9, x10, x11, x12, x13, hm, hr, rfl, hg, hb, hk, hl, ho0, ho⟩ := hJ
    cases cs with
    | nil => exact ho g hg
    | cons b cs => cases hr
  · have := hp.ln
    show 0 + 1000 * p.gs.length ≤ _
    omega
end K58

set_option Elab.async false
set_option linter.all false
set_option maxRecDepth 100000
set_option maxHeartbeats 4000000
namespace K58
open PySem PySem.Spec PyProof.Rows L2 GG DD PT DL LS
set_option simprocs false
local macro_rules | `(tactic| walk_at "w1") => `(tactic| with_reducible first
  | refine DL.w_seq ?_ | refine DL.w_next ?_ | refine DL.w_set ?_ | refine DL.w_setO ?_ | refine DL.w_if ?_ | refine DL.w_ret ?_ | refine DL.w_drop ?_
  | refine DL.w_par ?_ | refine DL.w_parLL ?_ | refine DL.w_asg ?_ | refine DL.w_for ?_ | refine DL.w_dPut ?_
  | refine DL.w_makeX ?_ | refine DL.w_fPut ?_ | refine DL.w_new0 ?_ | refine DL.w_oIn ?_ | refine DL.w_dInE ?_ | refine DL.w_oUpd ?_ | refine DL.w_vGet ?_
  | refine DL.w_ofV ?_ | refine DL.w_vD ?_ | refine DL.w_setV ?_ | refine DL.w_parV ?_ | refine DL.w_xV ?_ | refine DL.w_ixE ?_ 
  | refine DL.w_callSK ?_ | refine DL.w_sortSetI ?_ | refine DL.w_lenSetI ?_ | refine DL.w_sortZ ?_ | refine DL.w_callS ?_ | refine DL.w_callL ?_ | refine DL.w_xComp ?_ | refine DL.w_xNew ?_ | refine DL.w_listX ?_ | refine DL.w_parX ?_ | refine DL.w_par3LX ?_ | refine DL.w_xTup ?_ | refine DL.w_lenSetT ?_ | refine DL.w_listRng2 ?_ | refine DL.w_parG3 ?_
  | refine DL.w_gdN ?_ | refine DL.w_gdNil ?_ | refine DL.w_gdCons ?_
  | refine DL.w_c ?_ | refine DL.w_asL ?_ | refine DL.w_asU ?_ | refine DL.w_newL ?_ | refine DL.w_nil ?_ | refine DL.w_cons ?_ | refine DL.w_tup ?_ | refine DL.w_lst ?_ | refine DL.w_op ?_
  | refine DL.w_lenL ?_ | refine DL.w_lenD ?_ | refine DL.w_tupOf ?_ | refine DL.w_ifE ?_ | refine DL.w_rep ?_ | refine DL.w_call ?_ | refine DL.w_callP ?_
  | refine DL.w_xNil ?_ | refine DL.w_xCons ?_ | refine DL.w_all ?_ | refine DL.w_reprA ?_ | refine DL.w_andV ?_ | refine DL.w_newD ?_ 
  | refine DL.w_slU ?_ | refine DL.w_noP ?_ | refine DL.w_part ?_ | refine DL.w_dictU ?_ 
  | refine DL.w_rng1 ?_ | refine DL.w_comp ?_ | refine DL.w_B ?_ | refine DL.w_or ?_ | refine DL.w_not ?_ | refine DL.w_yes ?_
  | refine DL.w_dcomp ?_
  | refine DL.w_notV ?_ | refine DL.w_splat ?_ | refine DL.w_enumT ?_ | refine DL.w_par0E ?_ | refine DL.w_raise ?_ | refine DL.w_callX ?_ | refine DL.w_tryAs ?_ | refine DL.w_tryAs0 ?_ )
local macro_rules | `(tactic| walk_at "w2") => `(tactic| first
  | walk_at "w1"
  | ((with_reducible apply DL.w_var); (· rfl))
  | ((with_reducible apply DL.w_xDeck); (· rfl))
  | ((with_reducible apply DL.w_vVarO); (· rfl))
  | ((with_reducible apply DL.w_vVarK); (· rfl))
  | ((with_reducible apply DL.w_vVarD); (· rfl))
  | ((with_reducible apply DL.w_eqK0); (· rfl))
  | ((with_reducible apply DL.w_listO); (· rfl))
  | ((with_reducible apply DL.w_listD); (· rfl))
  | ((with_reducible apply DL.w_app); (· exact trivial))
  | ((with_reducible apply DL.w_dGet); (· exact trivial))
  | ((with_reducible apply DL.w_listA); (· rfl))
  | ((with_reducible apply DL.w_augI); (· rfl))
  | ((with_reducible apply DL.w_slVarO); (· rfl))
  | ((with_reducible apply DL.w_fzO); (· rfl))
  | ((with_reducible apply DL.w_fzD); (· rfl))
  | ((with_reducible apply DL.w_fz); (· rfl))
  | ((with_reducible apply DL.w_gdTup); (· rfl))
  | ((with_reducible apply DL.w_ins); (· exact trivial))
  | ((with_reducible apply DL.w_xLend); (· exact trivial))
  | ((with_reducible apply DL.w_lendK); (· rfl))
  | ((with_reducible apply DL.w_gdLst); (· rfl))
  | ((with_reducible apply DL.w_keysK); (· rfl))
  | ((with_reducible refine And.intro ?_ ?_); (· first | rfl | exact True.intro | decide | (dsimp only [List.length_cons, List.length_nil]; decide)))
  | with_reducible refine DL.w_eqS ?_ | with_reducible refine DL.w_neS ?_ | with_reducible refine DL.w_I0 ?_ | with_reducible refine DL.w_eqI ?_ | with_reducible refine DL.w_neI ?_ | with_reducible refine DL.w_isN ?_ | with_reducible refine DL.w_notN ?_)
local macro_rules | `(tactic| walk_at "w") => `(tactic| (repeat walk_at "w2"; try dsimp only [List.set_cons_zero, List.set_cons_succ, List.cons_append, List.nil_append, List.replicate_succ, List.replicate_zero]))
set_option pp.maxSteps 1500
def nxt : Option Nat → Nat → Nat
  | none, r => r % 2
  | some l, r => if r % 2 = l % 2 then l else l + 1
def prL : Option Nat → List Nat → List (Nat × Nat)
  | _, [] => []
  | o, r :: rs => (r, nxt o r) :: prL (some (nxt o r)) rs
/-- the ranks there are, in order -/
def srt (R : List Nat) : List Nat := (List.range 10).filter fun r => decide (r ∈ R)
def num (R : List Nat) (r : Nat) : Nat := ((prL none (srt R)).lookup r).getD 0
theorem prL_keys : ∀ (o : Option Nat) (l : List Nat), (prL o l).map (·.1) = l
  | _, [] => rfl
  | o, r :: rs => by rw [prL, List.map_cons, prL_keys]
theorem srt_mem {R : List Nat} {r : Nat} : r ∈ srt R ↔ r < 10 ∧ r ∈ R := by
  unfold srt
  rw [List.mem_filter, List.mem_range, decide_eq_true_iff]
theorem srt_nodup {R : List Nat} : (srt R).Nodup := List.Nodup.sublist List.filter_sublist List.nodup_range
theorem srt_congr {R S : List Nat} (h : ∀ r, r < 10 → (r ∈ R ↔ r ∈ S)) : srt R = srt S := by
  unfold srt
  refine List.filter_congr fun r hr => ?_
  exact decide_eq_decide.mpr (h r (List.mem_range.mp hr))
theorem num_congr {R S : List Nat} (h : ∀ r, r < 10 → (r ∈ R ↔ r ∈ S)) (r : Nat) : num R r = num S r := by
  unfold num
  rw [srt_congr h]
/-- a set of ranks by its bits -/
def bits (m : Nat) : List Nat := (List.range 10).filter fun r => m.testBit r
theorem bits_all : (List.range 1024).all (fun m => (bits m).all fun r => decide (num (bits m) r < 10) && decide (num ((bits m).map (num (bits m))) (num (bits m) r) = num (bits m) r)) = true := by
  decide +kernel
theorem mask_ok (R : List Nat) (hR : ∀ r, r ∈ R → r < 10) : ∃ m, m < 1024 ∧ ∀ r, r ∈ R ↔ r ∈ bits m := by
  have key : ∀ b0 b1 b2 b3 b4 b5 b6 b7 b8 b9 : Bool, ∃ m, m < 1024 ∧ m.testBit 0 = b0 ∧ m.testBit 1 = b1 ∧ m.testBit 2 = b2 ∧ m.testBit 3 = b3 ∧ m.testBit 4 = b4 ∧ m.testBit 5 = b5 ∧ m.testBit 6 = b6 ∧ m.testBit 7 = b7 ∧ m.testBit 8 = b8 ∧ m.testBit 9 = b9 := by
    intro b0 b1 b2 b3 b4 b5 b6 b7 b8 b9
    refine ⟨b0.toNat + 2 * b1.toNat + 4 * b2.toNat + 8 * b3.toNat + 16 * b4.toNat + 32 * b5.toNat + 64 * b6.toNat + 128 * b7.toNat + 256 * b8.toNat + 512 * b9.toNat, ?_⟩
    revert b0 b1 b2 b3 b4 b5 b6 b7 b8 b9
    decide +kernel
  obtain ⟨m, hm, h0, h1, h2, h3, h4, h5, h6, h7, h8, h9⟩ := key (decide (0 ∈ R)) (decide (1 ∈ R)) (decide (2 ∈ R)) (decide (3 ∈ R)) (decide (4 ∈ R)) (decide (5 ∈ R)) (decide (6 ∈ R)) (decide (7 ∈ R)) (decide (8 ∈ R)) (decide (9 ∈ R))
  have all : ∀ r, r < 10 → m.testBit r = decide (r ∈ R) := fun r hr => by
    rcases r with _ | _ | _ | _ | _ | _ | _ | _ | _ | _ | r
    · exact h0
    · exact h1
    · exact h2
    · exact h3
    · exact h4
    · exact h5
    · exact h6
    · exact h7
    · exact h8
    · exact h9
    · omega
  refine ⟨m, hm, fun r => ?_⟩
  unfold bits
  rw [List.mem_filter, List.mem_range]
  constructor
  · intro h
    exact ⟨hR r h, by rw [all r (hR r h)]; exact decide_eq_true h⟩
  · rintro ⟨h1, h2⟩
    rw [all r h1] at h2
    exact of_decide_eq_true h2
/-- numbers are ranks -/
theorem num_lt {R : List Nat} (hR : ∀ r, r ∈ R → r < 10) {r : Nat} (h : r ∈ R) : num R r < 10 ∧ num (R.map (num R)) (num R r) = num R r := by
  obtain ⟨m, hm, hb⟩ := mask_ok R hR
  have q := List.all_eq_true.mp (List.all_eq_true.mp bits_all m (List.mem_range.mpr hm)) r ((hb r).mp h)
  rw [Bool.and_eq_true] at q
  have e : ∀ x, num R x = num (bits m) x := fun x => num_congr (fun z _ => hb z) x
  have e2 : num (R.map (num R)) (num R r) = num ((bits m).map (num (bits m))) (num (bits m) r) := by
    rw [e r]
    refine num_congr (fun z _ => ?_) _
    rw [List.mem_map, List.mem_map]
    constructor
    · rintro ⟨x, hx, rfl⟩
      exact ⟨x, (hb x).mp hx, (e x).symm⟩
    · rintro ⟨x, hx, rfl⟩
      exact ⟨x, (hb x).mpr hx, e x⟩
  rw [e2, e r]
  exact ⟨of_decide_eq_true q.1, of_decide_eq_true q.2⟩
end K58

set_option Elab.async false
set_option linter.all false
set_option maxRecDepth 100000
set_option maxHeartbeats 4000000
namespace K58
open PySem PySem.Spec PyProof.Rows L2 GG DD PT DL LS
set_option simprocs false
local macro_rules | `(tactic| walk_at "w1") => `(tactic| with_reducible first
  | refine DL.w_seq ?_ | refine DL.w_next ?_ | refine DL.w_set ?_ | refine DL.w_setO ?_ | refine DL.w_if ?_ | refine DL.w_ret ?_ | refine DL.w_drop ?_
  | refine DL.w_par ?_ | refine DL.w_parLL ?_ | refine DL.w_asg ?_ | refine DL.w_for ?_ | refine DL.w_dPut ?_
  | refine DL.w_makeX ?_ | refine DL.w_fPut ?_ | refine DL.w_new0 ?_ | refine DL.w_oIn ?_ | refine DL.w_dInE ?_ | refine DL.w_oUpd ?_ | refine DL.w_vGet ?_
  | refine DL.w_ofV ?_ | refine DL.w_vD ?_ | refine DL.w_setV ?_ | refine DL.w_parV ?_ | refine DL.w_xV ?_ | refine DL.w_ixE ?_ 
  | refine DL.w_callSK ?_ | refine DL.w_sortSetI ?_ | refine DL.w_lenSetI ?_ | refine DL.w_sortZ ?_ | refine DL.w_callS ?_ | refine DL.w_callL ?_ | refine DL.w_xComp ?_ | refine DL.w_xNew ?_ | refine DL.w_listX ?_ | refine DL.w_parX ?_ | refine DL.w_par3LX ?_ | refine DL.w_xTup ?_ | refine DL.w_lenSetT ?_ | refine DL.w_listRng2 ?_ | refine DL.w_parG3 ?_
  | refine DL.w_gdN ?_ | refine DL.w_gdNil ?_ | refine DL.w_gdCons ?_
  | refine DL.w_c ?_ | refine DL.w_asL ?_ | refine DL.w_asU ?_ | refine DL.w_newL ?_ | refine DL.w_nil ?_ | refine DL.w_cons ?_ | refine DL.w_tup ?_ | refine DL.w_lst ?_ | refine DL.w_op ?_
  | refine DL.w_lenL ?_ | refine DL.w_lenD ?_ | refine DL.w_tupOf ?_ | refine DL.w_ifE ?_ | refine DL.w_rep ?_ | refine DL.w_call ?_ | refine DL.w_callP ?_
  | refine DL.w_xNil ?_ | refine DL.w_xCons ?_ | refine DL.w_all ?_ | refine DL.w_reprA ?_ | refine DL.w_andV ?_ | refine DL.w_newD ?_ 
  | refine DL.w_slU ?_ | refine DL.w_noP ?_ | refine DL.w_part ?_ | refine DL.w_dictU ?_ 
  | refine DL.w_rng1 ?_ | refine DL.w_comp ?_ | refine DL.w_B ?_ | refine DL.w_or ?_ | refine DL.w_not ?_ | refine DL.w_yes ?_
  | refine DL.w_dcomp ?_
  | refine DL.w_notV ?_ | refine DL.w_splat ?_ | refine DL.w_enumT ?_ | refine DL.w_par0E ?_ | refine DL.w_raise ?_ | refine DL.w_callX ?_ | refine DL.w_tryAs ?_ | refine DL.w_tryAs0 ?_ )
local macro_rules | `(tactic| walk_at "w2") => `(tactic| first
  | walk_at "w1"
  | ((with_reducible apply DL.w_var); (· rfl))
  | ((with_reducible apply DL.w_xDeck); (· rfl))
  | ((with_reducible apply DL.w_vVarO); (· rfl))
  | ((with_reducible apply DL.w_vVarK); (· rfl))
  | ((with_reducible apply DL.w_vVarD); (· rfl))
  | ((with_reducible apply DL.w_eqK0); (· rfl))
  | ((with_reducible apply DL.w_listO); (· rfl))
  | ((with_reducible apply DL.w_listD); (· rfl))
  | ((with_reducible apply DL.w_app); (· exact trivial))
  | ((with_reducible apply DL.w_dGet); (· exact trivial))
  | ((with_reducible apply DL.w_listA); (· rfl))
  | ((with_reducible apply DL.w_augI); (· rfl))
  | ((with_reducible apply DL.w_slVarO); (· rfl))
  | ((with_reducible apply DL.w_fzO); (· rfl))
  | ((with_reducible apply DL.w_fzD); (· rfl))
  | ((with_reducible apply DL.w_fz); (· rfl))
  | ((with_reducible apply DL.w_gdTup); (· rfl))
  | ((with_reducible apply DL.w_ins); (· exact trivial))
  | ((with_reducible apply DL.w_xLend); (· exact trivial))
  | ((with_reducible apply DL.w_lendK); (· rfl))
  | ((with_reducible apply DL.w_gdLst); (· rfl))
  | ((with_reducible apply DL.w_keysK); (· rfl))
  | ((with_reducible refine And.intro ?_ ?_); (· first | rfl | exact True.intro | decide | (dsimp only [List.length_cons, List.length_nil]; decide)))
  | with_reducible refine DL.w_eqS ?_ | with_reducible refine DL.w_neS ?_ | with_reducible refine DL.w_I0 ?_ | with_reducible refine DL.w_eqI ?_ | with_reducible refine DL.w_neI ?_ | with_reducible refine DL.w_isN ?_ | with_reducible refine DL.w_notN ?_)
local macro_rules | `(tactic| walk_at "w") => `(tactic| (repeat walk_at "w2"; try dsimp only [List.set_cons_zero, List.set_cons_succ, List.cons_append, List.nil_append, List.replicate_succ, List.replicate_zero]))
set_option pp.maxSteps 1500
theorem asc_uniq {l m : List Nat} (h : l.Pairwise (· < ·)) (k : m.Pairwise (· < ·)) (e : ∀ z, z ∈ l ↔ z ∈ m) : l = m := by
  induction l generalizing m with
  | nil =>
    cases m with
    | nil => rfl
    | cons b m => exact absurd ((e b).mpr List.mem_cons_self) List.not_mem_nil
  | cons a l ih =>
    cases m with
    | nil => exact absurd ((e a).mp List.mem_cons_self) List.not_mem_nil
    | cons b m =>
      rw [List.pairwise_cons] at h k
      have ab : a = b := by
        rcases List.mem_cons.mp ((e a).mp List.mem_cons_self) with z | z
        · exact z
        · rcases List.mem_cons.mp ((e b).mpr List.mem_cons_self) with y | y
          · exact y.symm
          · have := k.1 a z
            have := h.1 b y
            omega
      subst ab
      refine congrArg (a :: ·) (ih h.2 k.2 fun z => ⟨fun hz => ?_, fun hz => ?_⟩)
      · rcases List.mem_cons.mp ((e z).mp (List.mem_cons_of_mem _ hz)) with y | y
        · have := h.1 z hz
          omega
        · exact y
      · rcases List.mem_cons.mp ((e z).mpr (List.mem_cons_of_mem _ hz)) with y | y
        · have := k.1 z hz
          omega
        · exact y
theorem asc_of {ys : List Int} {zs : List Nat} (nd : ys.Nodup) (me : ∀ z, z ∈ ys ↔ z ∈ zs.map fun k : Nat => (k : Int)) (pw : ys.Pairwise (fun x y => x ≤ y)) : ∃ ks : List Nat, ys.map PyData.int = natsD ks ∧ ks.length = ys.length ∧ ks.Pairwise (· < ·) ∧ ∀ k, k ∈ ks ↔ k ∈ zs := by
  have all : ∀ y, y ∈ ys → ∃ k : Nat, k ∈ zs ∧ (k : Int) = y := fun y hy => List.mem_map.mp ((me y).mp hy)
  refine ⟨ys.map Int.toNat, ?_, List.length_map _, ?_, fun k => ?_⟩
  · unfold natsD
    rw [List.map_map]
    refine List.map_congr_left fun y hy => ?_
    obtain ⟨k, _, rfl⟩ := all y hy
    rfl
  · refine List.pairwise_map.mpr ((List.pairwise_and_iff.mpr ⟨nd, pw⟩).imp_of_mem fun {a b} ha hb h => ?_)
    obtain ⟨k, _, rfl⟩ := all a ha
    obtain ⟨l, _, rfl⟩ := all b hb
    have h1 := h.1
    have h2 := h.2
    omega
  · rw [List.mem_map]
    constructor
    · rintro ⟨y, hy, rfl⟩
      obtain ⟨k, hk, rfl⟩ := all y hy
      exact hk
    · intro hk
      exact ⟨(k : Int), (me _).mpr (List.mem_map.mpr ⟨k, hk, rfl⟩), by omega⟩
theorem srt_asc {R : List Nat} : (srt R).Pairwise (· < ·) := List.Pairwise.sublist List.filter_sublist List.pairwise_lt_range
def rkD (R : List Nat) : PyData := .list (natsD R)
def fdD (l : List (Nat × Nat)) : List (PyData × PyData) := l.map fun p => (.int (p.1 : Nat), .int (p.2 : Nat))
theorem fd_get (r : Nat) : ∀ l : List (Nat × Nat), dgetD (fdD l) (.inl (r : Int)) = (l.lookup r).map fun v => .int (v : Nat)
  | [] => rfl
  | p :: l => by
    show (if kOf (.int (p.1 : Nat)) = some (Sum.inl (r : Int)) then some (.int (p.2 : Nat)) else dgetD (fdD l) (.inl (r : Int))) = _
    rw [List.lookup_cons]
    by_cases e : p.1 = r
    · subst e
      rw [if_pos (show kOf (.int (p.1 : Nat)) = some (Sum.inl (p.1 : Int)) from rfl), beq_self_eq_true]
      rfl
    · rw [if_neg (show ¬ kOf (.int (p.1 : Nat)) = some (Sum.inl (r : Int)) from fun z => e (by
        have := Sum.inl.inj (Option.some.inj (show some (Sum.inl (p.1 : Int)) = some (Sum.inl (r : Int)) from z))
        omega)), fd_get r l, show (r == p.1) = false from beq_eq_false_iff_ne.mpr fun z => e z.symm]
/-- a pair is added behind -/
theorem fd_put {l : List (Nat × Nat)} {r x : Nat} (h : ¬ r ∈ l.map (·.1)) : dputD (fdD l) (.inl (r : Int)) (.int (x : Nat)) = fdD (l ++ [(r, x)]) := by
  unfold dputD
  have e : l.lookup r = none := by
    induction l with
    | nil => rfl
    | cons p l ih =>
      rw [List.map_cons, List.mem_cons] at h
      rw [List.lookup_cons, show (r == p.1) = false from beq_eq_false_iff_ne.mpr fun z => h (.inl z)]
      exact ih fun z => h (.inr z)
  rw [fd_get, e]
  unfold fdD
  rw [List.map_append]
  rfl
def F_pressed : FD := bodyD dB_pressed 3
def oD : Option Nat → PyData
  | none => .none
  | some l => .int (l : Nat)
theorem pressed_spec {R : List Nat} (hR : ∀ r, r ∈ R → r < 10) (hl : R.length ≤ 1000) {n : Nat} {P : PyData → Nat → Prop} (h : P (.dict (fdD (prL none (srt R)))) n) : F_pressed [.dat (rkD R)] n P := by
  unfold F_pressed bodyD dB_pressed rkD
  walk_at "w"
  refine ⟨R.map fun k : Nat => (k : Int), ?_, by rw [List.length_map]; exact hl, fun ys nd me pw => ?_⟩
  · unfold natsD
    rw [List.map_map]
    rfl
  obtain ⟨ks, e1, _, e2, e3⟩ := asc_of nd me pw
  have e4 : ks = srt R := asc_uniq e2 srt_asc fun z => by
    rw [e3, srt_mem]
    exact ⟨fun hz => ⟨hR z hz, hz⟩, fun hz => hz.2⟩
  rw [e1, e4]
  walk_at "w"
  have hbig : (srt R).length ≤ 10 := by
    have : (srt R).length ≤ (List.range 10).length := List.length_filter_le _ _
    rw [List.length_range] at this
    exact this
  refine loop_rem (fun rest st => ∃ (acc : List (Nat × Nat)) (o : Option Nat) (rs : List Nat) (x3 : DV), rest = natsD rs ∧ prL none (srt R) = acc ++ prL o rs ∧ (acc.map (·.1) ++ rs).Nodup ∧ acc.length ≤ 10 ∧
    st = ⟨[.dat (.list (natsD R)), .owd (fdD acc), .dat (oD o), x3], g0 n⟩) (fun d rest st hJ N hN => ?_) (fun st hJ => ?_) _ _ ⟨[], none, srt R, _, rfl, rfl, srt_nodup, Nat.zero_le _, rfl⟩
  · obtain ⟨acc, o, rs, x3, hr, hp, hn, ha, rfl⟩ := hJ
    cases rs with
    | nil => cases hr
    | cons r rs =>
      unfold natsD at hr
      rw [List.map_cons] at hr
      injection hr with hr1 hr2
      subst hr1
      rw [prL] at hp
      have hlen : (acc ++ [(r, nxt o r)]).length ≤ 10 := by
        have e : (acc ++ (r, nxt o r) :: prL (some (nxt o r)) rs).length = (srt R).length := by
          rw [← hp, ← List.length_map (f := (·.1)), prL_keys]
        rw [List.length_append, List.length_cons] at e
        rw [List.length_append]
        simp only [List.length_cons, List.length_nil]
        omega
      have hna : ¬ r ∈ acc.map (·.1) := fun hm => (List.nodup_append.mp hn).2.2 r hm r List.mem_cons_self rfl
      have fin : N ⟨[.dat (.list (natsD R)), .owd (fdD (acc ++ [(r, nxt o r)])), .dat (.int (nxt o r : Nat)), .dat (.int (r : Nat))], g0 n⟩ := hN _ ⟨acc ++ [(r, nxt o r)], some (nxt o r), rs, _, hr2, by rw [List.append_assoc]; exact hp, by
        rw [List.map_append, List.append_assoc]
        exact hn, hlen, rfl⟩
      have hln : (fdD acc).length < 1000000 := by
        unfold fdD
        rw [List.length_map]
        omega
      walk_at "w"
      cases o with
      | none =>
        show if true = true then _ else _
        refine w_T rfl ?_
        walk_at "w"
        refine w_oI (by decide) ?_
        walk_at "w"
        refine w_putK rfl rfl hln ?_
        rw [show (r : Int) % 2 = ((nxt none r : Nat) : Int) from by show (r : Int) % 2 = ((r % 2 : Nat) : Int); omega, fd_put hna]
        exact fin
      | some l =>
        show if false = true then _ else _
        refine w_F rfl ?_
        walk_at "w"
        refine w_oI (by decide) ?_
        walk_at "w"
        dsimp only [oD]
        refine w_oI (by decide) ?_
        walk_at "w"
        refine w_ite (fun hb => ?_) (fun hb => ?_)
        · walk_at "w"
          have e0 : ¬ r % 2 = l % 2 := fun e => by
            have e1 : (r : Int) % 2 = (l : Int) % 2 := by omega
            rw [decide_eq_true e1] at hb
            cases hb
          refine ⟨1, rfl, ?_⟩
          walk_at "w"
          refine w_putK rfl rfl hln ?_
          have e1 : nxt (some l) r = l + 1 := by rw [nxt, if_neg e0]
          rw [e1] at fin
          rw [show (l : Int) + 1 = ((l + 1 : Nat) : Int) from rfl, fd_put hna]
          exact fin
        · have e0 : r % 2 = l % 2 := by
            have e1 : (r : Int) % 2 = (l : Int) % 2 := Decidable.byContradiction fun e => by
              rw [decide_eq_false e] at hb
              cases hb
            omega
          walk_at "w"
          refine w_putK rfl rfl hln ?_
          have e1 : nxt (some l) r = l := by rw [nxt, if_pos e0]
          rw [e1] at fin
          rw [fd_put hna]
          exact fin
  · obtain ⟨acc, o, rs, x3, hr, hp, hn, ha, rfl⟩ := hJ
    cases rs with
    | nil =>
      walk_at "w"
      rw [prL, List.append_nil] at hp
      rw [hp] at h
      exact h
    | cons r rs => cases hr
def F_press : FD := bodyD (dB_press_ranks F_pressed) 10
def rkN (f : Fn) : Nat := f.rk.toNat
def prF (R : List Nat) (f : Fn) : Fn := { f with rk := (num R (rkN f) : Nat) }
def prG (g : Gp) : Gp := if g.so = "test" then { g with fs := g.fs.map (prF (g.fs.map rkN)) } else g
def prP (p : Pg) : Pg := { p with gs := p.gs.map prG }
/-- a program whose ranks are numbers below ten -/
def RkOk (p : Pg) : Prop := p.gs.length ≤ 1000 ∧ ∀ g, g ∈ p.gs → g.fs.length ≤ 1000 ∧ ∀ f, f ∈ g.fs → ∃ r : Nat, f.rk = (r : Int) ∧ r < 10
theorem prG_so (g : Gp) : (prG g).so = g.so := by
  unfold prG
  split <;> rfl
theorem lookup_mem {l : List (Nat × Nat)} {r : Nat} (h : r ∈ l.map (·.1)) : ∃ v, l.lookup r = some v := by
  induction l with
  | nil => exact absurd h List.not_mem_nil
  | cons p l ih =>
    rw [List.lookup_cons]
    by_cases e : r = p.1
    · exact ⟨p.2, by rw [show (r == p.1) = true from beq_iff_eq.mpr e]⟩
    · rw [show (r == p.1) = false from beq_eq_false_iff_ne.mpr e]
      exact ih ((List.mem_cons.mp h).resolve_left e)
theorem fd_head : ∀ {l : List (Nat × Nat)}, headK (fdD l) = true
  | [] => rfl
  | _ :: _ => rfl
theorem num_get {R : List Nat} (hR : ∀ r, r ∈ R → r < 10) {r : Nat} (h : r ∈ R) : dgetD (fdD (prL none (srt R))) (.inl (r : Int)) = some (.int (num R r : Nat)) := by
  rw [fd_get]
  obtain ⟨v, hv⟩ := lookup_mem (l := prL none (srt R)) (r := r) (by rw [prL_keys]; exact srt_mem.mpr ⟨hR r h, h⟩)
  unfold num
  rw [hv]
  rfl
theorem press_spec {p : Pg} (hp : RkOk p) {n : Nat} {P : PyData → Nat → Prop} (h : P (pD (prP p)) n) : F_press [.dat (pD p)] n P := by
  unfold F_press bodyD dB_press_ranks pD
  walk_at "w"
  refine loop_rem (fun rest st => ∃ (done gs : List Gp) (x4 x5 x6 x7 x8 x9 x10 : DV), rest = gs.map gD ∧ done ++ gs = p.gs ∧
    st = ⟨[.dat (.tuple [sgD p.sg, .tuple (p.gs.map gD)]), .dat (sgD p.sg), .dat (.tuple (p.gs.map gD)), .own (done.map fun g => gD (prG g)), x4, x5, x6, x7, x8, x9, x10], g0 n⟩ ∧ (plX x7 = true ∧ plX x8 = true ∧ plX x9 = true ∧ plX x10 = true)) (fun d rest st hJ N hN => ?_) (fun st hJ => ?_) _ _
    ⟨[], p.gs, _, _, _, _, _, _, _, rfl, rfl, rfl, ⟨rfl, rfl, rfl, rfl⟩⟩
  · obtain ⟨done, gs, x4, x5, x6, x7, x8, x9, x10, hr, hd, rfl, oo⟩ := hJ
    cases gs with
    | nil => cases hr
    | cons g gs =>
      rw [List.map_cons] at hr
      injection hr with hr1 hr2
      subst hr1
      have hg := hp.2 g (by rw [← hd]; exact List.mem_append_right _ List.mem_cons_self)
      have hdl : done.length < 1000 := by
        have := congrArg List.length hd
        rw [List.length_append, List.length_cons] at this
        have := hp.1
        omega
      have fin : ∀ x6 x7 x8 x9 x10 : DV, (plX x7 = true ∧ plX x8 = true ∧ plX x9 = true ∧ plX x10 = true) → N ⟨[.dat (.tuple [sgD p.sg, .tuple (p.gs.map gD)]), .dat (sgD p.sg), .dat (.tuple (p.gs.map gD)), .own (done.map (fun g => gD (prG g)) ++ [.tuple [.str g.so, .tuple ((prG g).fs.map fD)]]), .dat (.str g.so), .dat (.tuple ((prG g).fs.map fD)), x6, x7, x8, x9, x10], g0 n⟩ := fun x6 x7 x8 x9 x10 oo => hN _ ⟨done ++ [g], gs, _, _, _, _, _, _, _, hr2, by rw [List.append_assoc]; exact hd, by
        rw [List.map_append, List.map_singleton]
        unfold gD
        rw [prG_so g], oo⟩
      walk_at "w"
      refine w_gdTup (ds := [.str g.so, .tuple (g.fs.map fD)]) rfl ?_
      walk_at "w"
      refine w_ite (fun hs => ?_) (fun hs => ?_)
      · have hs' : g.so = "test" := of_decide_eq_true hs
        have hR : ∀ r, r ∈ g.fs.map rkN → r < 10 := fun r hr => by
          obtain ⟨f, hf, rfl⟩ := List.mem_map.mp hr
          obtain ⟨k, hk, hk2⟩ := hg.2 f hf
          unfold rkN
          rw [hk]
          exact hk2
        walk_at "w"
        refine ⟨by rw [List.length_map]; exact hg.1, no_cons rfl oo.1 (no_cons rfl oo.2.1 (no_cons rfl oo.2.2.1 (no_cons rfl oo.2.2.2 rfl))), ?_⟩
        refine lc_mapM fD (fun f => .int f.rk) (fun f hf Y Z hY => ?_) ?_
        · unfold fD
          walk_at "w"
          rw [if_pos rfl]
          walk_at "w"
          exact hY
        walk_at "w"
        have e0 : (PyData.list (g.fs.map fun f => PyData.int f.rk)) = rkD (g.fs.map rkN) := by
          unfold rkD natsD
          rw [List.map_map]
          congr 1
          refine List.map_congr_left fun f hf => ?_
          obtain ⟨k, hk, _⟩ := hg.2 f hf
          show PyData.int f.rk = PyData.int ((f.rk.toNat : Nat) : Int)
          rw [hk]
          rfl
        rw [e0]
        refine pressed_spec hR (by rw [List.length_map]; exact hg.1) ?_
        walk_at "w"
        refine ⟨by rw [List.length_map]; exact hg.1, no_cons rfl oo.1 (no_cons rfl oo.2.1 (no_cons rfl oo.2.2.1 (no_cons rfl oo.2.2.2 rfl))), ?_⟩
        refine lc_mapM fD (fun f => fD (prF (g.fs.map rkN) f)) (fun f hf Y Z hY => ?_) ?_
        · obtain ⟨k, hk, hk2⟩ := hg.2 f hf
          unfold fD at hY ⊢
          walk_at "w"
          rw [if_pos rfl]
          walk_at "w"
          have hx : dgetD (fdD (prL none (srt (g.fs.map rkN)))) (.inl f.rk) = some (.int (num (g.fs.map rkN) (rkN f) : Nat)) := by
            have := num_get hR (r := rkN f) (List.mem_map.mpr ⟨f, hf, rfl⟩)
            rw [show ((rkN f : Nat) : Int) = f.rk from by unfold rkN; rw [hk]; rfl] at this
            exact this
          refine w_getK rfl rfl fd_head hx ?_
          walk_at "w"
          exact hY
        walk_at "w"
        have e1 : (prG g).fs.map fD = g.fs.map fun f => fD (prF (g.fs.map rkN) f) := by
          unfold prG
          rw [if_pos hs', List.map_map]
          rfl
        rw [e1] at fin
        refine w_appK rfl (by rw [List.length_map]; omega) ?_
        exact fin _ _ _ _ _ oo
      · have hs' : ¬ g.so = "test" := of_decide_eq_false hs
        have e : (prG g).fs = g.fs := by
          unfold prG
          rw [if_neg hs']
        walk_at "w"
        rw [e] at fin
        refine w_appK rfl (by rw [List.length_map]; omega) ?_
        exact fin _ _ _ _ _ oo
  · obtain ⟨done, gs, x4, x5, x6, x7, x8, x9, x10, hr, hd, rfl, oo⟩ := hJ
    cases gs with
    | cons g gs => cases hr
    | nil =>
      rw [List.append_nil] at hd
      walk_at "w"
      rw [hd]
      have e : p.gs.map (fun g => gD (prG g)) = (prP p).gs.map gD := by
        unfold prP
        rw [List.map_map]
        rfl
      rw [e]
      exact h
end K58

set_option Elab.async false
set_option linter.all false
set_option maxRecDepth 100000
set_option maxHeartbeats 4000000
namespace K58
open PySem PySem.Spec PyProof.Rows L2 GG DD PT DL LS
set_option simprocs false
local macro_rules | `(tactic| walk_at "w1") => `(tactic| with_reducible first
  | refine DL.w_seq ?_ | refine DL.w_next ?_ | refine DL.w_set ?_ | refine DL.w_setO ?_ | refine DL.w_if ?_ | refine DL.w_ret ?_ | refine DL.w_drop ?_
  | refine DL.w_par ?_ | refine DL.w_parLL ?_ | refine DL.w_asg ?_ | refine DL.w_for ?_ | refine DL.w_dPut ?_
  | refine DL.w_makeX ?_ | refine DL.w_fPut ?_ | refine DL.w_new0 ?_ | refine DL.w_oIn ?_ | refine DL.w_dInE ?_ | refine DL.w_oUpd ?_ | refine DL.w_vGet ?_
  | refine DL.w_ofV ?_ | refine DL.w_vD ?_ | refine DL.w_setV ?_ | refine DL.w_parV ?_ | refine DL.w_xV ?_ | refine DL.w_ixE ?_ 
  | refine DL.w_callSK ?_ | refine DL.w_sortSetI ?_ | refine DL.w_lenSetI ?_ | refine DL.w_sortZ ?_ | refine DL.w_callS ?_ | refine DL.w_callL ?_ | refine DL.w_xComp ?_ | refine DL.w_xNew ?_ | refine DL.w_listX ?_ | refine DL.w_parX ?_ | refine DL.w_par3LX ?_ | refine DL.w_xTup ?_ | refine DL.w_lenSetT ?_ | refine DL.w_listRng2 ?_ | refine DL.w_parG3 ?_
  | refine DL.w_gdN ?_ | refine DL.w_gdNil ?_ | refine DL.w_gdCons ?_
  | refine DL.w_c ?_ | refine DL.w_asL ?_ | refine DL.w_asU ?_ | refine DL.w_newL ?_ | refine DL.w_nil ?_ | refine DL.w_cons ?_ | refine DL.w_tup ?_ | refine DL.w_lst ?_ | refine DL.w_op ?_
  | refine DL.w_lenL ?_ | refine DL.w_lenD ?_ | refine DL.w_tupOf ?_ | refine DL.w_ifE ?_ | refine DL.w_rep ?_ | refine DL.w_call ?_ | refine DL.w_callP ?_
  | refine DL.w_xNil ?_ | refine DL.w_xCons ?_ | refine DL.w_all ?_ | refine DL.w_reprA ?_ | refine DL.w_andV ?_ | refine DL.w_newD ?_ 
  | refine DL.w_slU ?_ | refine DL.w_noP ?_ | refine DL.w_part ?_ | refine DL.w_dictU ?_ 
  | refine DL.w_rng1 ?_ | refine DL.w_comp ?_ | refine DL.w_B ?_ | refine DL.w_or ?_ | refine DL.w_not ?_ | refine DL.w_yes ?_
  | refine DL.w_dcomp ?_
  | refine DL.w_notV ?_ | refine DL.w_splat ?_ | refine DL.w_enumT ?_ | refine DL.w_par0E ?_ | refine DL.w_raise ?_ | refine DL.w_callX ?_ | refine DL.w_tryAs ?_ | refine DL.w_tryAs0 ?_ )
local macro_rules | `(tactic| walk_at "w2") => `(tactic| first
  | walk_at "w1"
  | ((with_reducible apply DL.w_var); (· rfl))
  | ((with_reducible apply DL.w_xDeck); (· rfl))
  | ((with_reducible apply DL.w_vVarO); (· rfl))
  | ((with_reducible apply DL.w_vVarK); (· rfl))
  | ((with_reducible apply DL.w_vVarD); (· rfl))
  | ((with_reducible apply DL.w_eqK0); (· rfl))
  | ((with_reducible apply DL.w_listO); (· rfl))
  | ((with_reducible apply DL.w_listD); (· rfl))
  | ((with_reducible apply DL.w_app); (· exact trivial))
  | ((with_reducible apply DL.w_dGet); (· exact trivial))
  | ((with_reducible apply DL.w_listA); (· rfl))
  | ((with_reducible apply DL.w_augI); (· rfl))
  | ((with_reducible apply DL.w_slVarO); (· rfl))
  | ((with_reducible apply DL.w_fzO); (· rfl))
  | ((with_reducible apply DL.w_fzD); (· rfl))
  | ((with_reducible apply DL.w_fz); (· rfl))
  | ((with_reducible apply DL.w_gdTup); (· rfl))
  | ((with_reducible apply DL.w_ins); (· exact trivial))
  | ((with_reducible apply DL.w_xLend); (· exact trivial))
  | ((with_reducible apply DL.w_lendK); (· rfl))
  | ((with_reducible apply DL.w_gdLst); (· rfl))
  | ((with_reducible apply DL.w_keysK); (· rfl))
  | ((with_reducible refine And.intro ?_ ?_); (· first | rfl | exact True.intro | decide | (dsimp only [List.length_cons, List.length_nil]; decide)))
  | with_reducible refine DL.w_eqS ?_ | with_reducible refine DL.w_neS ?_ | with_reducible refine DL.w_I0 ?_ | with_reducible refine DL.w_eqI ?_ | with_reducible refine DL.w_neI ?_ | with_reducible refine DL.w_isN ?_ | with_reducible refine DL.w_notN ?_)
local macro_rules | `(tactic| walk_at "w") => `(tactic| (repeat walk_at "w2"; try dsimp only [List.set_cons_zero, List.set_cons_succ, List.cons_append, List.nil_append, List.replicate_succ, List.replicate_zero]))
set_option pp.maxSteps 1500
def F_pick : FD := bodyD (dB_pick F_draw) 0
theorem pick_list {ds : List PyData} {n : Nat} {P : PyData → Nat → Prop} (hn : n < 1000000) (h1 : 1 ≤ ds.length) (h2 : ds.length < 1000000) (h : ∀ d, d ∈ ds → P d (n + 1)) : F_pick [.deck, .dat (.list ds)] n P := by
  unfold F_pick bodyD dB_pick
  walk_at "w"
  refine w_draw hn h1 h2 fun v hv => ?_
  exact ⟨ds[v], atI_nat (List.getElem?_eq_getElem hv), h _ (List.getElem_mem hv)⟩
theorem rngD_nats (n : Nat) : rngD 0 n = natsD (List.range n) := by
  unfold rngD natsD
  refine List.map_congr_left fun k _ => ?_
  show PyData.int (0 + (k : Int)) = PyData.int (k : Int)
  rw [Int.zero_add]
theorem flats_nats : ∀ l : List Nat, flatsD (natsD l) = some (l.map fun k : Nat => V.int (k : Int))
  | [] => rfl
  | k :: l => by
    have ih := flats_nats l
    unfold natsD at ih ⊢
    rw [List.map_cons, flatsD, ih]
    rfl
theorem flat_nats : ∀ l : List Nat, (l.map fun k : Nat => V.int (k : Int)).all flatV = true
  | [] => rfl
  | k :: l => by
    rw [List.map_cons, List.all_cons, flat_nats l]
    rfl
theorem inV_nats (a : Nat) : ∀ l : List Nat, inV (V.int (a : Int)) (l.map fun k : Nat => V.int (k : Int)) = decide (a ∈ l)
  | [] => rfl
  | k :: l => by
    have ih := inV_nats a l
    unfold inV at ih ⊢
    rw [List.map_cons, List.any_cons, ih]
    show ((((k : Nat) : Int) == ((a : Nat) : Int)) || decide (a ∈ l)) = _
    by_cases e : a = k
    · subst e
      rw [beq_self_eq_true, Bool.true_or, decide_eq_true List.mem_cons_self]
    · have e2 : (((k : Nat) : Int) == ((a : Nat) : Int)) = false := by
        rw [beq_eq_false_iff_ne]
        omega
      rw [e2, Bool.false_or]
      exact decide_eq_decide.mpr ⟨fun h => List.mem_cons_of_mem _ h, fun h => (List.mem_cons.mp h).resolve_left e⟩
theorem w_inN {x : Nat} {R : List Nat} {P : PyData → Prop} (h : P (.bool (decide (x ∈ R)))) : oIn false (.int (x : Nat)) (.list (natsD R)) P := by
  refine ⟨_, flats_nats R, rfl, flat_nats R, ?_⟩
  rw [inV_nats]
  exact h
def F_ranks : FD := bodyD (dB_ranks F_draw) 3
def RkL (c : Nat) (R : List Nat) : Prop := R.length = c ∧ ∀ r, r ∈ R → r < 10
theorem ranks_spec {c n : Nat} {P : PyData → Nat → Prop} (hn : n < 900000) (hc : c ≤ 100) (h : ∀ R m, RkL c R → n ≤ m → m ≤ n + 2 + c → P (rkD R) m) : F_ranks [.deck, .dat (.int (c : Nat))] n P := by
  unfold F_ranks bodyD dB_ranks
  walk_at "w"
  refine w_draw (by omega) (by decide) (by decide) fun v hv => ?_
  walk_at "w"
  refine w_draw (by omega) (by decide) (by decide) fun a ha => ?_
  walk_at "w"
  have hc0 : ((c : Nat) : Int).toNat = c := Int.toNat_natCast c
  have fin : ∀ (ys : List PyData) (m : Nat), ys.length = c → (∀ y, y ∈ ys → ∃ r : Nat, y = .int (r : Nat) ∧ r < 10) → n ≤ m → m ≤ n + 2 + c → P (.list ys) m := by
    intro ys m hl hy h1 h2
    have e : ∃ R : List Nat, ys = natsD R ∧ ∀ r, r ∈ R → r < 10 := by
      clear h h1 h2 hl
      induction ys with
      | nil => exact ⟨[], rfl, fun _ h => absurd h List.not_mem_nil⟩
      | cons y ys ih =>
        obtain ⟨R, e1, e2⟩ := ih fun y h => hy y (List.mem_cons_of_mem _ h)
        obtain ⟨r, e3, e4⟩ := hy y List.mem_cons_self
        refine ⟨r :: R, by rw [e1, e3]; rfl, fun z hz => ?_⟩
        rcases List.mem_cons.mp hz with rfl | hz
        · exact e4
        · exact e2 z hz
    obtain ⟨R, rfl, hR⟩ := e
    unfold natsD at hl
    rw [List.length_map] at hl
    exact h R m ⟨hl, hR⟩ h1 h2
  refine w_ite (fun hb => ?_) (fun hb => ?_)
  · walk_at "w"
    refine ⟨by omega, by omega, by rw [rng_len, hc0]; omega, rfl, ?_⟩
    refine lc_all (fun y => ∃ r : Nat, y = .int (r : Nat) ∧ r < 10) 1 (fun d hd m hm1 hm2 Y Z hY => ?_) fun ys m hl hR hm1 hm2 => ?_
    · walk_at "w"
      rw [if_pos rfl]
      walk_at "w"
      rw [rng_len, hc0] at hm2
      dsimp only at hm1 hm2
      refine w_draw (by omega) (by decide) (by decide) fun z hz => ?_
      exact ⟨rfl, hY _ (m + 1) ⟨z, rfl, hz⟩ (by omega) (by omega)⟩
    · rw [rng_len, hc0] at hl hm2
      dsimp only at hm1 hm2
      exact fin ys m hl hR (by omega) (by omega)
  walk_at "w"
  refine w_ite (fun hb2 => ?_) (fun hb2 => ?_)
  · walk_at "w"
    refine ⟨by omega, by omega, by rw [rng_len, hc0]; omega, rfl, ?_⟩
    refine lc_all (fun y => ∃ r : Nat, y = .int (r : Nat) ∧ r < 10) 1 (fun d hd m hm1 hm2 Y Z hY => ?_) fun ys m hl hR hm1 hm2 => ?_
    · walk_at "w"
      rw [if_pos rfl]
      walk_at "w"
      rw [rng_len, hc0] at hm2
      dsimp only at hm1 hm2
      refine w_draw (by omega) (by decide) (by decide) fun z hz => ?_
      walk_at "w"
      refine w_oI (by unfold CMul; omega) ?_
      walk_at "w"
      refine w_oI (by decide) ?_
      refine ⟨rfl, ?_⟩
      have e : ((a : Int) + 2 * (z : Int)) % 10 = (((a + 2 * z) % 10 : Nat) : Int) := by omega
      rw [e]
      exact hY _ (m + 1) ⟨_, rfl, by omega⟩ (by omega) (by omega)
    · rw [rng_len, hc0] at hl hm2
      dsimp only at hm1 hm2
      exact fin ys m hl hR (by omega) (by omega)
  walk_at "w"
  refine w_ite (fun hb2 => ?_) (fun hb2 => ?_)
  · walk_at "w"
    refine ⟨by omega, by omega, by rw [rng_len, hc0]; omega, rfl, ?_⟩
    refine lc_all (fun y => ∃ r : Nat, y = .int (r : Nat) ∧ r < 10) 1 (fun d hd m hm1 hm2 Y Z hY => ?_) fun ys m hl hR hm1 hm2 => ?_
    · obtain ⟨i, hi, rfl⟩ : ∃ i : Nat, i < c ∧ d = .int (i : Nat) := by
        rw [hc0, rngD_nats] at hd
        obtain ⟨i, hi, rfl⟩ := List.mem_map.mp hd
        exact ⟨i, List.mem_range.mp hi, rfl⟩
      walk_at "w"
      rw [if_pos rfl]
      walk_at "w"
      refine w_oI (by decide) ?_
      refine ⟨rfl, ?_⟩
      have e : ((a : Int) + (i : Int)) % 10 = (((a + i) % 10 : Nat) : Int) := by omega
      rw [e]
      exact hY _ m ⟨_, rfl, by omega⟩ (by omega) (by omega)
    · rw [rng_len, hc0] at hl hm2
      dsimp only at hm1 hm2
      exact fin ys m hl hR (by omega) (by omega)
  · walk_at "w"
    refine ⟨by omega, by omega, by rw [hc0]; simp only [List.length_cons, List.length_nil]; omega, ?_⟩
    rw [hc0]
    refine fin _ _ ?_ (fun y hy => ?_) (by omega) (by omega)
    · have key : ∀ k : Nat, ((List.replicate k [PyData.int (a : Nat)]).flatten).length = k := fun k => by
        induction k with
        | zero => rfl
        | succ k ih => rw [List.replicate_succ, List.flatten_cons, List.length_append, ih]; simp only [List.length_cons, List.length_nil]; omega
      exact key c
    · obtain ⟨l, hl, hy2⟩ := List.mem_flatten.mp hy
      rw [(List.mem_replicate.mp hl).2] at hy2
      exact ⟨a, List.mem_singleton.mp hy2, ha⟩
def F_l_pressed : FD := bodyD dB_l_pressed 3
theorem l_pressed_spec {R : List Nat} (hR : ∀ r, r ∈ R → r < 10) (hl : R.length ≤ 1000) {n : Nat} {P : PyData → Nat → Prop} (h : P (rkD (R.map (num R))) n) : F_l_pressed [.dat (rkD R)] n P := by
  unfold F_l_pressed bodyD dB_l_pressed rkD
  walk_at "w"
  rw [show Int.toNat 10 = 10 from rfl, rngD_nats]
  refine loop_rem (fun rest st => ∃ (acc : List (Nat × Nat)) (o : Option Nat) (rs : List Nat) (x2 : Nat) (x3 : DV), rest = natsD rs ∧ prL none (srt R) = acc ++ prL o (rs.filter fun r => decide (r ∈ R)) ∧ (acc.map (·.1) ++ rs).Nodup ∧ acc.length + rs.length ≤ 10 ∧ ((o = none ∧ acc = [] ∨ ∃ l, o = some l ∧ acc ≠ [] ∧ x2 = l)) ∧ plX x3 = true ∧
    st = ⟨[.dat (.list (natsD R)), .owd (fdD acc), .dat (.int (x2 : Nat)), x3], g0 n⟩) (fun d rest st hJ N hN => ?_) (fun st hJ => ?_) _ _ ⟨[], none, List.range 10, 0, _, rfl, rfl, List.nodup_range, by decide, .inl ⟨rfl, rfl⟩, rfl, rfl⟩
  · obtain ⟨acc, o, rs, x2, x3, hr, hp, hn, ha, ho, hx, rfl⟩ := hJ
    cases rs with
    | nil => cases hr
    | cons r rs =>
      unfold natsD at hr
      rw [List.map_cons] at hr
      injection hr with hr1 hr2
      subst hr1
      rw [List.length_cons] at ha
      have hln : (fdD acc).length < 1000000 := by
        unfold fdD
        rw [List.length_map]
        omega
      have hna : ¬ r ∈ acc.map (·.1) := fun hm => (List.nodup_append.mp hn).2.2 r hm r List.mem_cons_self rfl
      walk_at "w"
      refine w_inN ?_
      dsimp only
      cases hm : decide (r ∈ R) with
      | false =>
        refine w_F rfl ?_
        walk_at "w"
        refine hN _ ⟨acc, o, rs, x2, _, hr2, ?_, ?_, by omega, ho, rfl, rfl⟩
        · rw [hp, List.filter_cons, hm, if_neg (by decide)]
        · exact List.Nodup.sublist (List.Sublist.append_left (List.sublist_cons_self r rs) _) hn
      | true =>
        rw [List.filter_cons, hm, if_pos rfl, prL] at hp
        have fin : ∀ y : Nat, y = nxt o r → N ⟨[.dat (.list (natsD R)), .owd (fdD (acc ++ [(r, y)])), .dat (.int (y : Nat)), .dat (.int (r : Nat))], g0 n⟩ := fun y hy => by
          subst hy
          exact hN _ ⟨acc ++ [(r, nxt o r)], some (nxt o r), rs, nxt o r, _, hr2, by rw [List.append_assoc]; exact hp, by
            rw [List.map_append, List.append_assoc]
            exact hn, by rw [List.length_append]; simp only [List.length_cons, List.length_nil]; omega, .inr ⟨_, rfl, by simp, rfl⟩, rfl, rfl⟩
        refine w_T rfl ?_
        walk_at "w"
        rcases ho with ⟨rfl, rfl⟩ | ⟨l, rfl, hne, rfl⟩
        · refine w_T rfl ?_
          walk_at "w"
          refine w_oI (by decide) ?_
          walk_at "w"
          refine w_putK rfl rfl hln ?_
          rw [show (r : Int) % 2 = ((nxt none r : Nat) : Int) from by show (r : Int) % 2 = ((r % 2 : Nat) : Int); omega, fd_put hna]
          exact fin _ rfl
        · have he : (fdD acc).isEmpty = false := by
            cases acc with
            | nil => exact absurd rfl hne
            | cons p acc => rfl
          refine w_F he ?_
          walk_at "w"
          refine w_oI (by decide) ?_
          walk_at "w"
          refine w_oI (by decide) ?_
          walk_at "w"
          refine w_ite (fun hb => ?_) (fun hb => ?_)
          · have e0 : ¬ r % 2 = x2 % 2 := fun e => by
              have e1 : (x2 : Int) % 2 = (r : Int) % 2 := by omega
              rw [decide_eq_true e1] at hb
              cases hb
            walk_at "w"
            refine w_putK rfl rfl hln ?_
            rw [show (x2 : Int) + 1 = ((x2 + 1 : Nat) : Int) from rfl, fd_put hna]
            exact fin _ (by rw [nxt, if_neg e0])
          · have e0 : r % 2 = x2 % 2 := by
              have e1 : (x2 : Int) % 2 = (r : Int) % 2 := Decidable.byContradiction fun e => by
                rw [decide_eq_false e] at hb
                cases hb
              omega
            walk_at "w"
            refine w_putK rfl rfl hln ?_
            rw [fd_put hna]
            exact fin _ (by rw [nxt, if_pos e0])
  · obtain ⟨acc, o, rs, x2, x3, hr, hp, hn, ha, ho, hx, rfl⟩ := hJ
    cases rs with
    | cons r rs => cases hr
    | nil =>
      rw [List.filter_nil, prL, List.append_nil] at hp
      walk_at "w"
      refine ⟨by unfold natsD; rw [List.length_map]; exact hl, no_cons rfl hx rfl, ?_⟩
      refine lc_mapM (fun k : Nat => PyData.int (k : Int)) (fun k => .int (num R k : Nat)) (fun r hr Y Z hY => ?_) ?_
      · walk_at "w"
        rw [if_pos rfl]
        walk_at "w"
        have hx : dgetD (fdD acc) (.inl (r : Int)) = some (.int (num R r : Nat)) := by
          rw [← hp]
          exact num_get hR hr
        refine w_getKO rfl rfl hx ?_
        exact ⟨rfl, hY⟩
      · have e : R.map (fun k => PyData.int ((num R k : Nat) : Int)) = natsD (R.map (num R)) := by
          unfold natsD
          rw [List.map_map]
          rfl
        rw [e]
        exact h
end K58

set_option Elab.async false
set_option linter.all false
set_option maxRecDepth 100000
set_option maxHeartbeats 4000000
namespace K58
open PySem PySem.Spec PyProof.Rows L2 GG DD PT DL LS
set_option simprocs false
local macro_rules | `(tactic| walk_at "w1") => `(tactic| with_reducible first
  | refine DL.w_seq ?_ | refine DL.w_next ?_ | refine DL.w_set ?_ | refine DL.w_setO ?_ | refine DL.w_if ?_ | refine DL.w_ret ?_ | refine DL.w_drop ?_
  | refine DL.w_par ?_ | refine DL.w_parLL ?_ | refine DL.w_asg ?_ | refine DL.w_for ?_ | refine DL.w_dPut ?_
  | refine DL.w_makeX ?_ | refine DL.w_fPut ?_ | refine DL.w_new0 ?_ | refine DL.w_oIn ?_ | refine DL.w_dInE ?_ | refine DL.w_oUpd ?_ | refine DL.w_vGet ?_
  | refine DL.w_ofV ?_ | refine DL.w_vD ?_ | refine DL.w_setV ?_ | refine DL.w_parV ?_ | refine DL.w_xV ?_ | refine DL.w_ixE ?_ 
  | refine DL.w_callSK ?_ | refine DL.w_sortSetI ?_ | refine DL.w_lenSetI ?_ | refine DL.w_sortZ ?_ | refine DL.w_callS ?_ | refine DL.w_callL ?_ | refine DL.w_xComp ?_ | refine DL.w_xNew ?_ | refine DL.w_listX ?_ | refine DL.w_parX ?_ | refine DL.w_par3LX ?_ | refine DL.w_xTup ?_ | refine DL.w_lenSetT ?_ | refine DL.w_listRng2 ?_ | refine DL.w_parG3 ?_
  | refine DL.w_gdN ?_ | refine DL.w_gdNil ?_ | refine DL.w_gdCons ?_
  | refine DL.w_c ?_ | refine DL.w_asL ?_ | refine DL.w_asU ?_ | refine DL.w_newL ?_ | refine DL.w_nil ?_ | refine DL.w_cons ?_ | refine DL.w_tup ?_ | refine DL.w_lst ?_ | refine DL.w_op ?_
  | refine DL.w_lenL ?_ | refine DL.w_lenD ?_ | refine DL.w_tupOf ?_ | refine DL.w_ifE ?_ | refine DL.w_rep ?_ | refine DL.w_call ?_ | refine DL.w_callP ?_
  | refine DL.w_xNil ?_ | refine DL.w_xCons ?_ | refine DL.w_all ?_ | refine DL.w_reprA ?_ | refine DL.w_andV ?_ | refine DL.w_newD ?_ 
  | refine DL.w_slU ?_ | refine DL.w_noP ?_ | refine DL.w_part ?_ | refine DL.w_dictU ?_ 
  | refine DL.w_rng1 ?_ | refine DL.w_comp ?_ | refine DL.w_B ?_ | refine DL.w_or ?_ | refine DL.w_not ?_ | refine DL.w_yes ?_
  | refine DL.w_dcomp ?_
  | refine DL.w_notV ?_ | refine DL.w_splat ?_ | refine DL.w_enumT ?_ | refine DL.w_par0E ?_ | refine DL.w_raise ?_ | refine DL.w_callX ?_ | refine DL.w_tryAs ?_ | refine DL.w_tryAs0 ?_ )
local macro_rules | `(tactic| walk_at "w2") => `(tactic| first
  | walk_at "w1"
  | ((with_reducible apply DL.w_var); (· rfl))
  | ((with_reducible apply DL.w_xDeck); (· rfl))
  | ((with_reducible apply DL.w_vVarO); (· rfl))
  | ((with_reducible apply DL.w_vVarK); (· rfl))
  | ((with_reducible apply DL.w_vVarD); (· rfl))
  | ((with_reducible apply DL.w_eqK0); (· rfl))
  | ((with_reducible apply DL.w_listO); (· rfl))
  | ((with_reducible apply DL.w_listD); (· rfl))
  | ((with_reducible apply DL.w_app); (· exact trivial))
  | ((with_reducible apply DL.w_dGet); (· exact trivial))
  | ((with_reducible apply DL.w_listA); (· rfl))
  | ((with_reducible apply DL.w_augI); (· rfl))
  | ((with_reducible apply DL.w_slVarO); (· rfl))
  | ((with_reducible apply DL.w_fzO); (· rfl))
  | ((with_reducible apply DL.w_fzD); (· rfl))
  | ((with_reducible apply DL.w_fz); (· rfl))
  | ((with_reducible apply DL.w_gdTup); (· rfl))
  | ((with_reducible apply DL.w_ins); (· exact trivial))
  | ((with_reducible apply DL.w_xLend); (· exact trivial))
  | ((with_reducible apply DL.w_lendK); (· rfl))
  | ((with_reducible apply DL.w_gdLst); (· rfl))
  | ((with_reducible apply DL.w_keysK); (· rfl))
  | ((with_reducible refine And.intro ?_ ?_); (· first | rfl | exact True.intro | decide | (dsimp only [List.length_cons, List.length_nil]; decide)))
  | with_reducible refine DL.w_eqS ?_ | with_reducible refine DL.w_neS ?_ | with_reducible refine DL.w_I0 ?_ | with_reducible refine DL.w_eqI ?_ | with_reducible refine DL.w_neI ?_ | with_reducible refine DL.w_isN ?_ | with_reducible refine DL.w_notN ?_)
local macro_rules | `(tactic| walk_at "w") => `(tactic| (repeat walk_at "w2"; try dsimp only [List.set_cons_zero, List.set_cons_succ, List.cons_append, List.nil_append, List.replicate_succ, List.replicate_zero]))
set_option pp.maxSteps 1500
def ltr (k : Nat) : Str := ⟨#[97 + k]⟩
def nmF (l : Str) (k : Nat) : Str := ("f" : Str) ++ l ++ ltr k
def bdY : By := .leaf "yes" []
def bdC (nm : Str) : By := .tm (.call nm [.part "x"])
def bdO : By := .dbl .or_ (.leaf "no" []) (.leaf "yes" [])
structure FnRk (l : Str) (R : List Nat) (k : Nat) (f : Fn) : Prop where
  nm : f.nm = nmF l k
  ps : f.ps = [("x" : Str)]
  rk : ∃ r, R[k]? = some r ∧ f.rk = (r : Int)
  bd : f.bd = bdY ∨ f.bd = bdC f.nm ∨ f.bd = bdO
def F_functions : FD := bodyD (dB_functions F_pick) 4
theorem at_ltr {k : Nat} (h : k < 10) : atI ("abcdefghij" : Str).cps.toList (k : Int) = some (97 + k) := by
  refine atI_nat ?_
  rcases k with _ | _ | _ | _ | _ | _ | _ | _ | _ | _ | k <;> first | rfl | omega
theorem len_cat (a b : Str) : (a ++ b).length = a.length + b.length := by
  show (a.cps ++ b.cps).size = _
  exact Array.size_append
theorem functions_spec {l : Str} {R : List Nat} (hl : l.length ≤ 10) (hR : R.length ≤ 10) {n : Nat} (hn : n < 900000) {P : PyData → Nat → Prop}
    (h : ∀ fs : List Fn, fs.length = R.length → (∀ k f, fs[k]? = some f → FnRk l R k f) → ∀ m, n ≤ m → m ≤ n + R.length → P (.tuple (fs.map fD)) m) : F_functions [.deck, .dat (.str l), .dat (rkD R)] n P := by
  unfold F_functions bodyD dB_functions rkD
  walk_at "w"
  have hlen : (natsD R).length = R.length := by unfold natsD; rw [List.length_map]
  rw [hlen]
  refine ⟨by omega, by omega, ?_⟩
  rw [show ((R.length : Nat) : Int).toNat = R.length from Int.toNat_natCast _, rngD_nats]
  refine loop_rem (fun rest st => ∃ (fs : List Fn) (rs : List Nat) (m : Nat) (x4 x5 x6 : DV), rest = natsD rs ∧ (List.range R.length) = (List.range fs.length) ++ rs ∧ fs.length + rs.length = R.length ∧ (∀ k f, fs[k]? = some f → FnRk l R k f) ∧ n ≤ m ∧ m ≤ n + fs.length ∧
    st = ⟨[.deck, .dat (.str l), .dat (.list (natsD R)), .own (fs.map fD), x4, x5, x6], g0 m⟩) (fun d rest st hJ N hN => ?_) (fun st hJ => ?_) _ _ ⟨[], List.range R.length, n, _, _, _, rfl, rfl, by simp, (fun k f h => by rw [List.getElem?_nil] at h; cases h), Nat.le_refl _, Nat.le_refl _, rfl⟩
  · obtain ⟨fs, rs, m, x4, x5, x6, hr, hrs, hk, hf, hm1, hm2, rfl⟩ := hJ
    cases rs with
    | nil => cases hr
    | cons r rs =>
      unfold natsD at hr
      rw [List.map_cons] at hr
      injection hr with hr1 hr2
      subst hr1
      rw [List.length_cons] at hk
      have hrk : r = fs.length := by
        have e : (List.range R.length)[fs.length]? = (List.range fs.length ++ r :: rs)[fs.length]? := by rw [hrs]
        rw [List.getElem?_append_right (by rw [List.length_range]; exact Nat.le_refl _), List.length_range, Nat.sub_self, List.getElem?_range (by omega)] at e
        exact (Option.some.inj e).symm
      subst hrk
      walk_at "w"
      refine w_catS (by have : ("f" : Str).length = 1 := rfl; omega) ?_
      walk_at "w"
      refine w_ixS (by decide) (at_ltr (by omega)) ?_
      walk_at "w"
      refine w_catS (by
        have e : (("f" : Str) ++ l).length ≤ 20 := by
          rw [len_cat]
          have : ("f" : Str).length = 1 := rfl
          omega
        have e2 : (⟨#[97 + fs.length]⟩ : Str).length = 1 := rfl
        omega) ?_
      walk_at "w"
      refine pick_list (by omega) (by simp only [List.length_cons, List.length_nil]; omega) (by simp only [List.length_cons, List.length_nil]; omega) fun d hd => ?_
      obtain ⟨b, hb, rfl⟩ : ∃ b : By, (b = bdY ∨ b = bdC (nmF l fs.length) ∨ b = bdO) ∧ d = byD b := by
        rcases List.mem_cons.mp hd with rfl | hd
        · exact ⟨_, .inl rfl, rfl⟩
        rcases List.mem_cons.mp hd with rfl | hd
        · exact ⟨_, .inr (.inl rfl), rfl⟩
        rcases List.mem_cons.mp hd with rfl | hd
        · exact ⟨_, .inr (.inr rfl), rfl⟩
        · cases hd
      have hlt : fs.length < R.length := by omega
      walk_at "w"
      obtain ⟨q, hq⟩ : ∃ q, R[fs.length]? = some q := ⟨_, List.getElem?_eq_getElem hlt⟩
      have hq2 : (natsD R)[fs.length]? = some (.int (q : Nat)) := by
        unfold natsD
        rw [List.getElem?_map, hq]
        rfl
      refine w_ixVarD rfl ?_
      walk_at "w"
      refine ⟨_, atI_nat hq2, ?_⟩
      walk_at "w"
      refine w_appK rfl (by rw [List.length_map]; omega) ?_
      refine hN _ ⟨fs ++ [⟨nmF l fs.length, [("x" : Str)], (q : Int), b⟩], rs, m + 1, .dat (.int (fs.length : Nat)), .dat (.str (nmF l fs.length)), .dat (byD b), hr2, ?_, ?_, fun k f hkf => ?_, by omega, ?_, ?_⟩
      · rw [hrs, List.length_append, List.length_singleton, List.range_succ, List.append_assoc]
        rfl
      · rw [List.length_append, List.length_singleton]
        omega
      · by_cases hlt2 : k < fs.length
        · rw [List.getElem?_append_left hlt2] at hkf
          exact hf k f hkf
        · rw [List.getElem?_append_right (by omega)] at hkf
          have hk0 : k = fs.length := by
            have := (List.getElem?_eq_some_iff.mp hkf).1
            rw [List.length_singleton] at this
            omega
          subst hk0
          rw [Nat.sub_self] at hkf
          cases hkf
          exact ⟨rfl, rfl, ⟨q, hq, rfl⟩, hb⟩
      · rw [List.length_append, List.length_singleton]
        omega
      · rw [List.map_append]
        rfl
  · obtain ⟨fs, rs, m, x4, x5, x6, hr, hrs, hk, hf, hm1, hm2, rfl⟩ := hJ
    cases rs with
    | cons r rs => cases hr
    | nil =>
      walk_at "w"
      exact h fs (by simpa using hk) hf m hm1 (by simp at hk; omega)
end K58

set_option Elab.async false
set_option linter.all false
set_option maxRecDepth 100000
set_option maxHeartbeats 4000000
namespace K58
open PySem PySem.Spec PyProof.Rows L2 GG DD PT DL LS
set_option simprocs false
local macro_rules | `(tactic| walk_at "w1") => `(tactic| with_reducible first
  | refine DL.w_seq ?_ | refine DL.w_next ?_ | refine DL.w_set ?_ | refine DL.w_setO ?_ | refine DL.w_if ?_ | refine DL.w_ret ?_ | refine DL.w_drop ?_
  | refine DL.w_par ?_ | refine DL.w_parLL ?_ | refine DL.w_asg ?_ | refine DL.w_for ?_ | refine DL.w_dPut ?_
  | refine DL.w_makeX ?_ | refine DL.w_fPut ?_ | refine DL.w_new0 ?_ | refine DL.w_oIn ?_ | refine DL.w_dInE ?_ | refine DL.w_oUpd ?_ | refine DL.w_vGet ?_
  | refine DL.w_ofV ?_ | refine DL.w_vD ?_ | refine DL.w_setV ?_ | refine DL.w_parV ?_ | refine DL.w_xV ?_ | refine DL.w_ixE ?_ 
  | refine DL.w_callSK ?_ | refine DL.w_sortSetI ?_ | refine DL.w_lenSetI ?_ | refine DL.w_sortZ ?_ | refine DL.w_callS ?_ | refine DL.w_callL ?_ | refine DL.w_xComp ?_ | refine DL.w_xNew ?_ | refine DL.w_listX ?_ | refine DL.w_parX ?_ | refine DL.w_par3LX ?_ | refine DL.w_xTup ?_ | refine DL.w_lenSetT ?_ | refine DL.w_listRng2 ?_ | refine DL.w_parG3 ?_
  | refine DL.w_gdN ?_ | refine DL.w_gdNil ?_ | refine DL.w_gdCons ?_
  | refine DL.w_c ?_ | refine DL.w_asL ?_ | refine DL.w_asU ?_ | refine DL.w_newL ?_ | refine DL.w_nil ?_ | refine DL.w_cons ?_ | refine DL.w_tup ?_ | refine DL.w_lst ?_ | refine DL.w_op ?_
  | refine DL.w_lenL ?_ | refine DL.w_lenD ?_ | refine DL.w_tupOf ?_ | refine DL.w_ifE ?_ | refine DL.w_rep ?_ | refine DL.w_call ?_ | refine DL.w_callP ?_
  | refine DL.w_xNil ?_ | refine DL.w_xCons ?_ | refine DL.w_all ?_ | refine DL.w_reprA ?_ | refine DL.w_andV ?_ | refine DL.w_newD ?_ 
  | refine DL.w_slU ?_ | refine DL.w_noP ?_ | refine DL.w_part ?_ | refine DL.w_dictU ?_ 
  | refine DL.w_rng1 ?_ | refine DL.w_comp ?_ | refine DL.w_B ?_ | refine DL.w_or ?_ | refine DL.w_not ?_ | refine DL.w_yes ?_
  | refine DL.w_dcomp ?_
  | refine DL.w_notV ?_ | refine DL.w_splat ?_ | refine DL.w_enumT ?_ | refine DL.w_par0E ?_ | refine DL.w_raise ?_ | refine DL.w_callX ?_ | refine DL.w_tryAs ?_ | refine DL.w_tryAs0 ?_ )
local macro_rules | `(tactic| walk_at "w2") => `(tactic| first
  | walk_at "w1"
  | ((with_reducible apply DL.w_var); (· rfl))
  | ((with_reducible apply DL.w_xDeck); (· rfl))
  | ((with_reducible apply DL.w_vVarO); (· rfl))
  | ((with_reducible apply DL.w_vVarK); (· rfl))
  | ((with_reducible apply DL.w_vVarD); (· rfl))
  | ((with_reducible apply DL.w_eqK0); (· rfl))
  | ((with_reducible apply DL.w_listO); (· rfl))
  | ((with_reducible apply DL.w_listD); (· rfl))
  | ((with_reducible apply DL.w_app); (· exact trivial))
  | ((with_reducible apply DL.w_dGet); (· exact trivial))
  | ((with_reducible apply DL.w_listA); (· rfl))
  | ((with_reducible apply DL.w_augI); (· rfl))
  | ((with_reducible apply DL.w_slVarO); (· rfl))
  | ((with_reducible apply DL.w_fzO); (· rfl))
  | ((with_reducible apply DL.w_fzD); (· rfl))
  | ((with_reducible apply DL.w_fz); (· rfl))
  | ((with_reducible apply DL.w_gdTup); (· rfl))
  | ((with_reducible apply DL.w_ins); (· exact trivial))
  | ((with_reducible apply DL.w_xLend); (· exact trivial))
  | ((with_reducible apply DL.w_lendK); (· rfl))
  | ((with_reducible apply DL.w_gdLst); (· rfl))
  | ((with_reducible apply DL.w_keysK); (· rfl))
  | ((with_reducible refine And.intro ?_ ?_); (· first | rfl | exact True.intro | decide | (dsimp only [List.length_cons, List.length_nil]; decide)))
  | with_reducible refine DL.w_eqS ?_ | with_reducible refine DL.w_neS ?_ | with_reducible refine DL.w_I0 ?_ | with_reducible refine DL.w_eqI ?_ | with_reducible refine DL.w_neI ?_ | with_reducible refine DL.w_isN ?_ | with_reducible refine DL.w_notN ?_)
local macro_rules | `(tactic| walk_at "w") => `(tactic| (repeat walk_at "w2"; try dsimp only [List.set_cons_zero, List.set_cons_succ, List.cons_append, List.nil_append, List.replicate_succ, List.replicate_zero]))
set_option pp.maxSteps 1500
def gNone (k : Nat) : Gp := ⟨"gather", [⟨("g" : Str) ++ ltr k, [("x" : Str)], 0, .leaf "none" []⟩]⟩
inductive GpL (k : Nat) : Gp → Prop where
  | ga : GpL k (gNone k)
  | te (R : List Nat) (fs : List Fn) (h1 : 1 ≤ R.length) (h2 : R.length ≤ 4) (h3 : ∀ r, r ∈ R → r < 10) (h4 : fs.length = R.length) (h5 : ∀ j f, fs[j]? = some f → FnRk (ltr k) R j f) : GpL k ⟨"test", fs⟩
def sgL : Sg := [(("one" : Str), 0)]
def GsL (gs : List Gp) : Prop := 1 ≤ gs.length ∧ gs.length ≤ 4 ∧ ∀ k g, gs[k]? = some g → GpL k g
theorem nmF_inj {l : Str} {i j : Nat} (h : nmF l i = nmF l j) : i = j := by
  have e : ((("f" : Str) ++ l).cps ++ #[97 + i]).toList = ((("f" : Str) ++ l).cps ++ #[97 + j]).toList := congrArg (fun s : Str => s.cps.toList) h
  rw [Array.toList_append, Array.toList_append] at e
  have e2 := List.append_cancel_left e
  have e3 : 97 + i = 97 + j := by
    injection e2
  omega
theorem names_nodup {l : Str} {R : List Nat} {fs : List Fn} (h : ∀ j f, fs[j]? = some f → FnRk l R j f) : (fs.map (·.nm)).Nodup := by
  unfold List.Nodup
  rw [List.pairwise_map, List.pairwise_iff_getElem]
  intro i j hi hj hij e
  have h1 := (h i fs[i] (List.getElem?_eq_getElem hi)).nm
  have h2 := (h j fs[j] (List.getElem?_eq_getElem hj)).nm
  rw [h1, h2] at e
  have := nmF_inj e
  omega
theorem gp_ok {k : Nat} {g : Gp} (h : GpL k g) : GpOk 3 3 g := by
  cases h with
  | ga =>
    refine ⟨List.pairwise_singleton _ _, (by decide : 1 ≤ 1000), fun f hf => ?_⟩
    rw [List.mem_singleton.mp hf]
    exact ⟨(by decide : 0 < 3), (by decide : 0 ≤ 3), rfl, (by decide : 1 ≤ 1000)⟩
  | te R fs h1 h2 h3 h4 h5 =>
    refine ⟨names_nodup h5, by show fs.length ≤ 1000; omega, fun f hf => ?_⟩
    obtain ⟨j, hj⟩ := List.getElem?_of_mem hf
    have q := h5 j f hj
    have hb := q.bd
    refine ⟨?_, ?_, ?_, by rw [q.ps]; decide⟩
    · rcases hb with e | e | e <;> rw [e]
      · exact (by decide : 0 < 3)
      · exact (by decide : 0 < 3)
      · exact (by decide : 1 < 3)
    · rcases hb with e | e | e <;> rw [e]
      · exact (by decide : 0 ≤ 3)
      · exact (by decide : 2 ≤ 3)
      · exact (by decide : 0 ≤ 3)
    · rcases hb with e | e | e <;> rw [e] <;> rfl
theorem lookup_of {α : Type} (v : Fn → α) : ∀ {fs : List Fn} {f : Fn}, f ∈ fs → (fs.map (·.nm)).Nodup → (fs.map fun f => (f.nm, v f)).lookup f.nm = some (v f)
  | g :: fs, f, hf, hn => by
    rw [List.map_cons, List.nodup_cons] at hn
    rw [List.map_cons, List.lookup_cons]
    rcases List.mem_cons.mp hf with rfl | hf
    · rw [beq_self_eq_true]
    · have hne : ¬ f.nm = g.nm := fun e => hn.1 (by rw [← e]; exact List.mem_map.mpr ⟨f, hf, rfl⟩)
      rw [show (f.nm == g.nm) = false from beq_eq_false_iff_ne.mpr hne]
      exact lookup_of v hf hn.2
theorem fns_none {K : Kn} {i : Nat} : ∀ (fs : List Fn) (j : Nat), (∀ f, f ∈ fs → ∀ p, byF K f.ps p f.bd = none) → fnsF K i j fs = none
  | [], _, _ => rfl
  | f :: fs, j, h => by
    rw [fnsF, h f List.mem_cons_self, fns_none fs (j + 1) fun f hf => h f (List.mem_cons_of_mem _ hf)]
    rfl
theorem gp_none {k : Nat} {g : Gp} (h : GpL k g) (kf : Kf) : fnsF (kOfG sgL (upK kf k g) k g) k 0 g.fs = none := by
  cases h with
  | ga => rfl
  | te R fs h1 h2 h3 h4 h5 =>
    refine fns_none fs 0 fun f hf p => ?_
    obtain ⟨j, hj⟩ := List.getElem?_of_mem hf
    have q := h5 j f hj
    rcases q.bd with e | e | e
    · rw [e]
      rfl
    · rw [e, q.ps]
      have hl : (kOfG sgL (upK kf k ⟨"test", fs⟩) k ⟨"test", fs⟩).fn f.nm = some (k, ("test" : Str), 1) := by
        show ((knG k ⟨"test", fs⟩).lookup f.nm).or (kf f.nm) = _
        unfold knG
        rw [lookup_of (fun f => (k, ("test" : Str), f.ps.length)) hf (names_nodup h5), q.ps]
        rfl
      have e1 : fnF (kOfG sgL (upK kf k ⟨"test", fs⟩) k ⟨"test", fs⟩) p f.nm 1 "test" = none := by
        unfold fnF
        rw [hl]
        rfl
      have e2 : fnOwn (kOfG sgL (upK kf k ⟨"test", fs⟩) k ⟨"test", fs⟩) f.nm = true := by
        unfold fnOwn
        rw [hl]
        exact decide_eq_true rfl
      show callF (kOfG sgL (upK kf k ⟨"test", fs⟩) k ⟨"test", fs⟩) ["x"] p f.nm [.part "x"] = none
      unfold callF
      rw [e2]
      show Option.or none (Option.or (fnF (kOfG sgL (upK kf k ⟨"test", fs⟩) k ⟨"test", fs⟩) p f.nm 1 "test") none) = none
      rw [e1]
      rfl
    · rw [e]
      rfl
theorem gps_none : ∀ (gs : List Gp) (i : Nat) (kf : Kf), (∀ k g, gs[k]? = some g → GpL (i + k) g) → gpsF sgL kf i gs = none
  | [], _, _, _ => rfl
  | g :: gs, i, kf, h => by
    have h0 : GpL i g := h 0 g rfl
    rw [gpsF, gp_none h0 kf, gps_none gs (i + 1) _ fun k g' hk => by rw [Nat.add_right_comm]; exact h (k + 1) g' hk]
    rfl
theorem sg_ok : SgOk sgL := ⟨by decide, by decide, by decide⟩
theorem pg_ok {gs : List Gp} (h : GsL gs) : PgOk 3 3 ⟨sgL, gs⟩ := by
  refine ⟨sg_ok, by have := h.2.1; show gs.length ≤ _; omega, fun g hg => ?_⟩
  obtain ⟨k, hk⟩ := List.getElem?_of_mem hg
  exact gp_ok (h.2.2 k g hk)
end K58

set_option Elab.async false
set_option linter.all false
set_option maxRecDepth 100000
set_option maxHeartbeats 4000000
namespace DL
open PySem PySem.Spec PyProof.Rows L2 GG DD PT
mutual
/-- no bool and no dict, texts in order -/
def clnD : PyData → Bool
  | .none => true
  | .bool _ => false
  | .int _ => true
  | .str x => PyData.strOk x
  | .tuple ds => clnA ds
  | .list ds => clnA ds
  | .dict _ => false
def clnA : List PyData → Bool
  | [] => true
  | d :: ds => clnD d && clnA ds
end
mutual
theorem cln_dict : ∀ d : PyData, clnD d = true → d.hasDict = false
  | .none, _ => by simp only [PyData.hasDict]
  | .bool _, h => by cases h
  | .int _, _ => by simp only [PyData.hasDict]
  | .str _, _ => by simp only [PyData.hasDict]
  | .tuple ds, h => by
    simp only [clnD] at h
    simp only [PyData.hasDict]
    exact clnA_dict ds h
  | .list ds, h => by
    simp only [clnD] at h
    simp only [PyData.hasDict]
    exact clnA_dict ds h
  | .dict _, h => by cases h
theorem clnA_dict : ∀ ds : List PyData, clnA ds = true → PyData.hasDictAll ds = false
  | [], _ => by simp only [PyData.hasDictAll]
  | d :: ds, h => by
    simp only [clnA, Bool.and_eq_true] at h
    simp only [PyData.hasDictAll, cln_dict d h.1, clnA_dict ds h.2, Bool.or_self]
end
mutual
theorem cln_lay : ∀ d : PyData, clnD d = true → PyData.canLay0 d = true
  | .none, _ => by simp only [PyData.canLay0]
  | .bool _, h => by cases h
  | .int _, _ => by simp only [PyData.canLay0]
  | .str _, h => by
    simp only [clnD] at h
    simp only [PyData.canLay0]
    exact h
  | .tuple ds, h => by
    simp only [clnD] at h
    simp only [PyData.canLay0]
    exact clnA_lay ds h
  | .list ds, h => by
    simp only [clnD] at h
    simp only [PyData.canLay0]
    exact clnA_lay ds h
  | .dict _, h => by cases h
theorem clnA_lay : ∀ ds : List PyData, clnA ds = true → PyData.canLayAll0 ds = true
  | [], _ => by simp only [PyData.canLayAll0]
  | d :: ds, h => by
    simp only [clnA, Bool.and_eq_true] at h
    simp only [PyData.canLayAll0, cln_lay d h.1, clnA_lay ds h.2, Bool.and_self]
end
mutual
theorem cln_eqv : ∀ d e : PyData, clnD d = true → clnD e = true → PyData.eqv d e = true → d = e
  | .none, e, _, _, h => by cases e <;> simp_all [PyData.eqv]
  | .bool _, _, h, _, _ => by cases h
  | .int _, e, _, he, h => by cases e <;> simp_all [PyData.eqv, clnD]
  | .str _, e, _, he, h => by cases e <;> simp_all [PyData.eqv, clnD]
  | .tuple ds, e, hd, he, h => by
    cases e with
    | tuple es =>
      simp only [clnD] at hd he
      simp only [PyData.eqv] at h
      rw [clnA_eqv ds es hd he h]
    | _ => simp [PyData.eqv] at h
  | .list ds, e, hd, he, h => by
    cases e with
    | list es =>
      simp only [clnD] at hd he
      simp only [PyData.eqv] at h
      rw [clnA_eqv ds es hd he h]
    | _ => simp [PyData.eqv] at h
  | .dict _, _, h, _, _ => by cases h
theorem clnA_eqv : ∀ ds es : List PyData, clnA ds = true → clnA es = true → PyData.eqvAll ds es = true → ds = es
  | [], [], _, _, _ => rfl
  | [], _ :: _, _, _, h => by simp [PyData.eqvAll] at h
  | _ :: _, [], _, _, h => by simp [PyData.eqvAll] at h
  | d :: ds, e :: es, hd, he, h => by
    simp only [clnA, Bool.and_eq_true] at hd he
    simp only [PyData.eqvAll, Bool.and_eq_true] at h
    rw [cln_eqv d e hd.1 he.1 h.1, clnA_eqv ds es hd.2 he.2 h.2]
end
theorem eqv_cln {d e : PyData} (hd : clnD d = true) (he : clnD e = true) : PyData.eqv d e = true ↔ d = e :=
  ⟨cln_eqv d e hd he, fun h => by
    subst h
    exact SeqAt.eqv_refl d (cln_lay d hd)⟩
theorem cln_shaped {d : PyData} (h : clnD d = true) (hd : d.depth ≤ 64) : SeqAt.shaped d = true := by
  show (PyData.canLay0 d && decide (PyData.depth d ≤ 64)) = true
  rw [cln_lay d h, decide_eq_true hd]
  rfl
theorem w_neC {d e : PyData} {PO : PyData → Prop} {b : Bool} (hd : clnD d = true) (he : clnD e = true) (dd : d.depth ≤ 64) (de : e.depth ≤ 64) (hb : b = true ↔ d = e) (h : PO (.bool (!b))) : oEqD true d e PO := by
  refine ⟨cln_dict d hd, cln_dict e he, cln_shaped hd dd, cln_shaped he de, ?_⟩
  have e2 : PyData.eqv d e = b := by
    cases b with
    | true => exact (eqv_cln hd he).mpr (hb.mp rfl)
    | false =>
      cases z : PyData.eqv d e with
      | false => rfl
      | true => exact (hb.mpr ((eqv_cln hd he).mp z)).symm ▸ rfl
  show PO (.bool (!PyData.eqv d e))
  rw [e2]
  exact h
end DL

set_option Elab.async false
set_option linter.all false
set_option maxRecDepth 100000
set_option maxHeartbeats 4000000
namespace K58
open PySem PySem.Spec PyProof.Rows L2 GG DD PT DL LS
set_option simprocs false
local macro_rules | `(tactic| walk_at "w1") => `(tactic| with_reducible first
  | refine DL.w_seq ?_ | refine DL.w_next ?_ | refine DL.w_set ?_ | refine DL.w_setO ?_ | refine DL.w_if ?_ | refine DL.w_ret ?_ | refine DL.w_drop ?_
  | refine DL.w_par ?_ | refine DL.w_parLL ?_ | refine DL.w_asg ?_ | refine DL.w_for ?_ | refine DL.w_dPut ?_
  | refine DL.w_makeX ?_ | refine DL.w_fPut ?_ | refine DL.w_new0 ?_ | refine DL.w_oIn ?_ | refine DL.w_dInE ?_ | refine DL.w_oUpd ?_ | refine DL.w_vGet ?_
  | refine DL.w_ofV ?_ | refine DL.w_vD ?_ | refine DL.w_setV ?_ | refine DL.w_parV ?_ | refine DL.w_xV ?_ | refine DL.w_ixE ?_ 
  | refine DL.w_callSK ?_ | refine DL.w_sortSetI ?_ | refine DL.w_lenSetI ?_ | refine DL.w_sortZ ?_ | refine DL.w_callS ?_ | refine DL.w_callL ?_ | refine DL.w_xComp ?_ | refine DL.w_xNew ?_ | refine DL.w_listX ?_ | refine DL.w_parX ?_ | refine DL.w_par3LX ?_ | refine DL.w_xTup ?_ | refine DL.w_lenSetT ?_ | refine DL.w_listRng2 ?_ | refine DL.w_parG3 ?_
  | refine DL.w_gdN ?_ | refine DL.w_gdNil ?_ | refine DL.w_gdCons ?_
  | refine DL.w_c ?_ | refine DL.w_asL ?_ | refine DL.w_asU ?_ | refine DL.w_newL ?_ | refine DL.w_nil ?_ | refine DL.w_cons ?_ | refine DL.w_tup ?_ | refine DL.w_lst ?_ | refine DL.w_op ?_
  | refine DL.w_lenL ?_ | refine DL.w_lenD ?_ | refine DL.w_tupOf ?_ | refine DL.w_ifE ?_ | refine DL.w_rep ?_ | refine DL.w_call ?_ | refine DL.w_callP ?_
  | refine DL.w_xNil ?_ | refine DL.w_xCons ?_ | refine DL.w_all ?_ | refine DL.w_reprA ?_ | refine DL.w_andV ?_ | refine DL.w_newD ?_ 
  | refine DL.w_slU ?_ | refine DL.w_noP ?_ | refine DL.w_part ?_ | refine DL.w_dictU ?_ 
  | refine DL.w_rng1 ?_ | refine DL.w_comp ?_ | refine DL.w_B ?_ | refine DL.w_or ?_ | refine DL.w_not ?_ | refine DL.w_yes ?_
  | refine DL.w_dcomp ?_
  | refine DL.w_notV ?_ | refine DL.w_splat ?_ | refine DL.w_enumT ?_ | refine DL.w_par0E ?_ | refine DL.w_raise ?_ | refine DL.w_callX ?_ | refine DL.w_tryAs ?_ | refine DL.w_tryAs0 ?_ )
local macro_rules | `(tactic| walk_at "w2") => `(tactic| first
  | walk_at "w1"
  | ((with_reducible apply DL.w_var); (· rfl))
  | ((with_reducible apply DL.w_xDeck); (· rfl))
  | ((with_reducible apply DL.w_vVarO); (· rfl))
  | ((with_reducible apply DL.w_vVarK); (· rfl))
  | ((with_reducible apply DL.w_vVarD); (· rfl))
  | ((with_reducible apply DL.w_eqK0); (· rfl))
  | ((with_reducible apply DL.w_listO); (· rfl))
  | ((with_reducible apply DL.w_listD); (· rfl))
  | ((with_reducible apply DL.w_app); (· exact trivial))
  | ((with_reducible apply DL.w_dGet); (· exact trivial))
  | ((with_reducible apply DL.w_listA); (· rfl))
  | ((with_reducible apply DL.w_augI); (· rfl))
  | ((with_reducible apply DL.w_slVarO); (· rfl))
  | ((with_reducible apply DL.w_fzO); (· rfl))
  | ((with_reducible apply DL.w_fzD); (· rfl))
  | ((with_reducible apply DL.w_fz); (· rfl))
  | ((with_reducible apply DL.w_gdTup); (· rfl))
  | ((with_reducible apply DL.w_ins); (· exact trivial))
  | ((with_reducible apply DL.w_xLend); (· exact trivial))
  | ((with_reducible apply DL.w_lendK); (· rfl))
  | ((with_reducible apply DL.w_gdLst); (· rfl))
  | ((with_reducible apply DL.w_keysK); (· rfl))
  | ((with_reducible refine And.intro ?_ ?_); (· first | rfl | exact True.intro | decide | (dsimp only [List.length_cons, List.length_nil]; decide)))
  | with_reducible refine DL.w_eqS ?_ | with_reducible refine DL.w_neS ?_ | with_reducible refine DL.w_I0 ?_ | with_reducible refine DL.w_eqI ?_ | with_reducible refine DL.w_neI ?_ | with_reducible refine DL.w_isN ?_ | with_reducible refine DL.w_notN ?_)
local macro_rules | `(tactic| walk_at "w") => `(tactic| (repeat walk_at "w2"; try dsimp only [List.set_cons_zero, List.set_cons_succ, List.cons_append, List.nil_append, List.replicate_succ, List.replicate_zero]))
set_option pp.maxSteps 1500
structure FnV (f : Fn) : Prop where
  nm : (PyData.str f.nm).leavesShort 40 = true ∧ PyData.strOk f.nm = true ∧ f.nm.cps.size ≤ 10
  ps : f.ps = [("x" : Str)]
  rk : ∃ r : Nat, f.rk = (r : Int) ∧ r < 10
  bd : f.bd = bdY ∨ f.bd = bdC f.nm ∨ f.bd = bdO ∨ f.bd = .leaf "none" []
structure GpV (g : Gp) : Prop where
  so : g.so = "test" ∨ g.so = "gather"
  ln : g.fs.length ≤ 4
  fs : ∀ f, f ∈ g.fs → FnV f
structure PgV (p : Pg) : Prop where
  sg : p.sg = sgL
  ln : p.gs.length ≤ 4
  gs : ∀ g, g ∈ p.gs → GpV g
theorem vN {D : Nat} : Vals' D 0 [] := vals_nil
theorem vS {D : Nat} (x : Str) (h : (PyData.str x).leavesShort 40 = true) (hw : x.cps.size ≤ 10) : Val D 10 (.str x) := val_str h hw
theorem vI {D : Nat} : ∀ {r : Nat}, r < 10 → Val D 10 (.int (r : Nat)) := by
  have key : ∀ r : Nat, r < 10 → (PyData.int (r : Nat)).showable = true ∧ (PyData.int (r : Nat)).leavesShort 40 = true ∧ (PyData.int (r : Nat)).depth ≤ 0 ∧ (PyData.int (r : Nat)).weight ≤ 10 := by decide +kernel
  intro r h
  have k := key r h
  exact ⟨k.1, k.2.1, Nat.le_trans k.2.2.1 (Nat.zero_le _), k.2.2.2⟩
theorem val_fn {f : Fn} (h : FnV f) : Val 6 200 (fD f) := by
  obtain ⟨r, hr, hr2⟩ := h.rk
  have hi : ∀ D, Val D 10 (.int f.rk) := fun D => by
    rw [hr]
    exact vI hr2
  have hb : Val 5 100 (byD f.bd) := by
    rcases h.bd with e | e | e | e <;> rw [e]
    · exact (val_tup (D := 4) (vals_cons (vS "yes" (by decide +kernel) (by decide)) vN)).mono (by decide) (by decide)
    · exact (val_tup (D := 4) (vals_cons (vS "call" (by decide +kernel) (by decide)) (vals_cons (vS f.nm h.nm.1 h.nm.2.2) (vals_cons (val_tup (D := 3) (vals_cons (val_tup (D := 2) (vals_cons (vS "part" (by decide +kernel) (by decide)) (vals_cons (vS "x" (by decide +kernel) (by decide)) vN))) vN)) vN)))).mono (by decide) (by decide)
    · exact (val_tup (D := 4) (vals_cons (vS "or" (by decide +kernel) (by decide)) (vals_cons (val_tup (D := 3) (vals_cons (vS "no" (by decide +kernel) (by decide)) vN)) (vals_cons (val_tup (D := 3) (vals_cons (vS "yes" (by decide +kernel) (by decide)) vN)) vN)))).mono (by decide) (by decide)
    · exact (val_tup (D := 4) (vals_cons (vS "none" (by decide +kernel) (by decide)) vN)).mono (by decide) (by decide)
  unfold fD
  rw [h.ps]
  exact (val_tup (D := 5) (vals_cons (vS f.nm h.nm.1 h.nm.2.2) (vals_cons (val_tup (D := 4) (vals_cons (vS "x" (by decide +kernel) (by decide)) vN)) (vals_cons (hi 5) (vals_cons hb vN))))).mono (by decide) (by decide)
theorem val_gp {g : Gp} (h : GpV g) : Val 8 900 (gD g) := by
  have h1 : Val 7 10 (.str g.so) := by
    rcases h.so with e | e <;> rw [e]
    · exact vS _ (by decide +kernel) (by decide)
    · exact vS _ (by decide +kernel) (by decide)
  have h2 := vals_all (D := 6) (V := 200) (ds := g.fs.map fD) fun d hd => by
    obtain ⟨f, hf, rfl⟩ := List.mem_map.mp hd
    exact val_fn (h.fs f hf)
  rw [List.length_map] at h2
  have hl := h.ln
  exact (val_tup (D := 7) (vals_cons h1 (vals_cons (val_tup h2) vN))).mono (by decide) (by omega)
theorem val_pg {p : Pg} (h : PgV p) : Val 10 5000 (pD p) := by
  have h2 := vals_all (D := 8) (V := 900) (ds := p.gs.map gD) fun d hd => by
    obtain ⟨g, hg, rfl⟩ := List.mem_map.mp hd
    exact val_gp (h.gs g hg)
  rw [List.length_map] at h2
  have hl := h.ln
  unfold pD
  rw [h.sg]
  have h1 : Val 9 100 (sgD sgL) := (val_tup (D := 8) (vals_cons (val_tup (D := 7) (vals_cons (vS "one" (by decide +kernel) (by decide)) (vals_cons (V := 10) (vI (r := 0) (by decide)) vN))) vN)).mono (by decide) (by decide)
  exact (val_tup (D := 9) (vals_cons h1 (vals_cons (val_tup h2) vN))).mono (by decide) (by omega)
theorem cln_map {α : Type} (f : α → PyData) : ∀ l : List α, (∀ a, a ∈ l → clnD (f a) = true) → clnA (l.map f) = true
  | [], _ => rfl
  | a :: l, h => by
    rw [List.map_cons, clnA, h a List.mem_cons_self, cln_map f l fun a ha => h a (List.mem_cons_of_mem _ ha)]
    rfl
theorem cln_fn {f : Fn} (h : FnV f) : clnD (fD f) = true := by
  have hb : clnD (byD f.bd) = true := by
    rcases h.bd with e | e | e | e <;> rw [e]
    · decide +kernel
    · show (PyData.strOk "call" && (PyData.strOk f.nm && ((((PyData.strOk "part" && (PyData.strOk "x" && true)) && true)) && true))) = true
      rw [h.nm.2.1]
      decide +kernel
    · decide +kernel
    · decide +kernel
  unfold fD
  rw [h.ps]
  show (PyData.strOk f.nm && ((PyData.strOk "x" && true) && (true && (clnD (byD f.bd) && true)))) = true
  rw [h.nm.2.1, hb]
  decide +kernel
theorem cln_pg {p : Pg} (h : PgV p) : clnD (pD p) = true := by
  have hg : clnA (p.gs.map gD) = true := cln_map gD _ fun g hg => by
    have q := h.gs g hg
    have hf := cln_map fD g.fs fun f hf => cln_fn (q.fs f hf)
    show (PyData.strOk g.so && (clnA (g.fs.map fD) && true)) = true
    rw [hf]
    rcases q.so with e | e <;> rw [e] <;> decide +kernel
  unfold pD
  rw [h.sg]
  show (clnD (sgD sgL) && (clnA (p.gs.map gD) && true)) = true
  rw [hg]
  decide +kernel
theorem nm_ok : ∀ k, k < 4 → ∀ j, j < 4 → (PyData.str (nmF (ltr k) j)).leavesShort 40 = true ∧ PyData.strOk (nmF (ltr k) j) = true ∧ (nmF (ltr k) j).cps.size ≤ 10 := by decide +kernel
theorem nm_ok2 : ∀ k, k < 4 → (PyData.str (("g" : Str) ++ ltr k)).leavesShort 40 = true ∧ PyData.strOk (("g" : Str) ++ ltr k) = true ∧ (("g" : Str) ++ ltr k).cps.size ≤ 10 := by decide +kernel
theorem fn_v {k j : Nat} {R : List Nat} (hk : k < 4) (hR : R.length ≤ 4) (h3 : ∀ r, r ∈ R → r < 10) {f : Fn} (h : FnRk (ltr k) R j f) : FnV f := by
  obtain ⟨r, hr, hr2⟩ := h.rk
  have hj : j < R.length := (List.getElem?_eq_some_iff.mp hr).1
  refine ⟨by rw [h.nm]; exact nm_ok k hk j (by omega), h.ps, ⟨r, hr2, h3 r (List.mem_of_getElem? hr)⟩, ?_⟩
  rcases h.bd with e | e | e
  · exact .inl e
  · exact .inr (.inl e)
  · exact .inr (.inr (.inl e))
theorem gp_v {k : Nat} {g : Gp} (hk : k < 4) (h : GpL k g) : GpV g := by
  cases h with
  | ga =>
    refine ⟨.inr rfl, (by decide : 1 ≤ 4), fun f hf => ?_⟩
    rw [List.mem_singleton.mp hf]
    exact ⟨nm_ok2 k hk, rfl, ⟨0, rfl, by decide⟩, .inr (.inr (.inr rfl))⟩
  | te R fs h1 h2 h3 h4 h5 =>
    refine ⟨.inl rfl, by show fs.length ≤ 4; omega, fun f hf => ?_⟩
    obtain ⟨j, hj⟩ := List.getElem?_of_mem hf
    exact fn_v hk h2 h3 (h5 j f hj)
theorem rks {l : Str} {R : List Nat} {fs : List Fn} (h4 : fs.length = R.length) (h5 : ∀ j f, fs[j]? = some f → FnRk l R j f) : fs.map rkN = R := by
  refine List.ext_getElem? fun j => ?_
  rw [List.getElem?_map]
  by_cases hj : j < fs.length
  · rw [List.getElem?_eq_getElem hj]
    obtain ⟨r, hr, hr2⟩ := (h5 j fs[j] (List.getElem?_eq_getElem hj)).rk
    rw [hr]
    show some (rkN fs[j]) = _
    unfold rkN
    rw [hr2]
    rfl
  · rw [List.getElem?_eq_none (by omega), List.getElem?_eq_none (by omega)]
    rfl
theorem pr_te {l : Str} {R : List Nat} {fs : List Fn} (h4 : fs.length = R.length) (h5 : ∀ j f, fs[j]? = some f → FnRk l R j f) : prG ⟨"test", fs⟩ = ⟨"test", fs.map (prF R)⟩ := by
  unfold prG
  rw [if_pos rfl, rks h4 h5]
theorem pr_ga (k : Nat) : prG (gNone k) = gNone k := by
  unfold prG
  exact if_neg (show ¬ ("gather" : Str) = "test" by decide)
theorem rk_mem {l : Str} {R : List Nat} {fs : List Fn} (h5 : ∀ j f, fs[j]? = some f → FnRk l R j f) {f : Fn} (hf : f ∈ fs) : ∃ r, r ∈ R ∧ f.rk = (r : Int) := by
  obtain ⟨j, hj⟩ := List.getElem?_of_mem hf
  obtain ⟨r, hr, hr2⟩ := (h5 j f hj).rk
  exact ⟨r, List.mem_of_getElem? hr, hr2⟩
theorem gp_v2 {k : Nat} {g : Gp} (hk : k < 4) (h : GpL k g) : GpV (prG g) := by
  cases h with
  | ga => rw [pr_ga]; exact gp_v hk .ga
  | te R fs h1 h2 h3 h4 h5 =>
    rw [pr_te h4 h5]
    refine ⟨.inl rfl, by show (fs.map (prF R)).length ≤ 4; rw [List.length_map]; omega, fun f hf => ?_⟩
    obtain ⟨f0, hf0, rfl⟩ := List.mem_map.mp hf
    obtain ⟨j, hj⟩ := List.getElem?_of_mem hf0
    have q := fn_v hk h2 h3 (h5 j f0 hj)
    obtain ⟨r, hr, hr2⟩ := rk_mem h5 hf0
    refine ⟨q.nm, q.ps, ⟨num R (rkN f0), rfl, ?_⟩, q.bd⟩
    have e : rkN f0 = r := by unfold rkN; rw [hr2]; rfl
    rw [e]
    exact (num_lt h3 hr).1
theorem pr_idem {k : Nat} {g : Gp} (h : GpL k g) : prG (prG g) = prG g := by
  cases h with
  | ga => rw [pr_ga, pr_ga]
  | te R fs h1 h2 h3 h4 h5 =>
    rw [pr_te h4 h5]
    have e : (fs.map (prF R)).map rkN = R.map (num R) := by
      rw [List.map_map, ← rks h4 h5, List.map_map, rks h4 h5]
      rfl
    unfold prG
    rw [if_pos rfl]
    show (⟨"test", (fs.map (prF R)).map (prF ((fs.map (prF R)).map rkN))⟩ : Gp) = _
    rw [e, List.map_map]
    congr 1
    refine List.map_congr_left fun f hf => ?_
    obtain ⟨r, hr, hr2⟩ := rk_mem h5 hf
    have er : rkN f = r := by unfold rkN; rw [hr2]; rfl
    show ({ prF R f with rk := (num (R.map (num R)) (rkN (prF R f)) : Nat) } : Fn) = prF R f
    have e2 : rkN (prF R f) = num R r := by
      show ((num R (rkN f) : Nat) : Int).toNat = _
      rw [er]
      rfl
    rw [e2, (num_lt h3 hr).2]
    unfold prF
    rw [er]
def pgL (gs : List Gp) : Pg := ⟨sgL, gs⟩
theorem pg_v {gs : List Gp} (h : GsL gs) : PgV (pgL gs) := ⟨rfl, h.2.1, fun g hg => by
  obtain ⟨k, hk⟩ := List.getElem?_of_mem hg
  have hk2 : k < gs.length := (List.getElem?_eq_some_iff.mp hk).1
  exact gp_v (by have := h.2.1; omega) (h.2.2 k g hk)⟩
theorem pg_v2 {gs : List Gp} (h : GsL gs) : PgV (prP (pgL gs)) := ⟨rfl, by show (gs.map prG).length ≤ 4; rw [List.length_map]; exact h.2.1, fun g hg => by
  obtain ⟨q, hq, rfl⟩ := List.mem_map.mp (show g ∈ gs.map prG from hg)
  obtain ⟨k, hk⟩ := List.getElem?_of_mem hq
  have hk2 : k < gs.length := (List.getElem?_eq_some_iff.mp hk).1
  exact gp_v2 (by have := h.2.1; omega) (h.2.2 k q hk)⟩
theorem rk_of {p : Pg} (h : PgV p) : RkOk p := ⟨by have := h.ln; omega, fun g hg => ⟨by have := (h.gs g hg).ln; omega, fun f hf => ((h.gs g hg).fs f hf).rk⟩⟩
theorem pp_idem {gs : List Gp} (h : GsL gs) : prP (prP (pgL gs)) = prP (pgL gs) := by
  show (⟨sgL, (gs.map prG).map prG⟩ : Pg) = ⟨sgL, gs.map prG⟩
  rw [List.map_map]
  congr 1
  refine List.map_congr_left fun g hg => ?_
  obtain ⟨k, hk⟩ := List.getElem?_of_mem hg
  exact pr_idem (h.2.2 k g hk)
end K58

set_option Elab.async false
set_option linter.all false
set_option maxRecDepth 100000
set_option maxHeartbeats 4000000
namespace K58
open PySem PySem.Spec PyProof.Rows L2 GG DD PT DL LS
set_option simprocs false
local macro_rules | `(tactic| walk_at "w1") => `(tactic| with_reducible first
  | refine DL.w_seq ?_ | refine DL.w_next ?_ | refine DL.w_set ?_ | refine DL.w_setO ?_ | refine DL.w_if ?_ | refine DL.w_ret ?_ | refine DL.w_drop ?_
  | refine DL.w_par ?_ | refine DL.w_parLL ?_ | refine DL.w_asg ?_ | refine DL.w_for ?_ | refine DL.w_dPut ?_
  | refine DL.w_makeX ?_ | refine DL.w_fPut ?_ | refine DL.w_new0 ?_ | refine DL.w_oIn ?_ | refine DL.w_dInE ?_ | refine DL.w_oUpd ?_ | refine DL.w_vGet ?_
  | refine DL.w_ofV ?_ | refine DL.w_vD ?_ | refine DL.w_setV ?_ | refine DL.w_parV ?_ | refine DL.w_xV ?_ | refine DL.w_ixE ?_ 
  | refine DL.w_callSK ?_ | refine DL.w_sortSetI ?_ | refine DL.w_lenSetI ?_ | refine DL.w_sortZ ?_ | refine DL.w_callS ?_ | refine DL.w_callL ?_ | refine DL.w_xComp ?_ | refine DL.w_xNew ?_ | refine DL.w_listX ?_ | refine DL.w_parX ?_ | refine DL.w_par3LX ?_ | refine DL.w_xTup ?_ | refine DL.w_lenSetT ?_ | refine DL.w_listRng2 ?_ | refine DL.w_parG3 ?_
  | refine DL.w_gdN ?_ | refine DL.w_gdNil ?_ | refine DL.w_gdCons ?_
  | refine DL.w_c ?_ | refine DL.w_asL ?_ | refine DL.w_asU ?_ | refine DL.w_newL ?_ | refine DL.w_nil ?_ | refine DL.w_cons ?_ | refine DL.w_tup ?_ | refine DL.w_lst ?_ | refine DL.w_op ?_
  | refine DL.w_lenL ?_ | refine DL.w_lenD ?_ | refine DL.w_tupOf ?_ | refine DL.w_ifE ?_ | refine DL.w_rep ?_ | refine DL.w_call ?_ | refine DL.w_callP ?_
  | refine DL.w_xNil ?_ | refine DL.w_xCons ?_ | refine DL.w_all ?_ | refine DL.w_reprA ?_ | refine DL.w_andV ?_ | refine DL.w_newD ?_ 
  | refine DL.w_slU ?_ | refine DL.w_noP ?_ | refine DL.w_part ?_ | refine DL.w_dictU ?_ 
  | refine DL.w_rng1 ?_ | refine DL.w_comp ?_ | refine DL.w_B ?_ | refine DL.w_or ?_ | refine DL.w_not ?_ | refine DL.w_yes ?_
  | refine DL.w_dcomp ?_
  | refine DL.w_notV ?_ | refine DL.w_splat ?_ | refine DL.w_enumT ?_ | refine DL.w_par0E ?_ | refine DL.w_raise ?_ | refine DL.w_callX ?_ | refine DL.w_tryAs ?_ | refine DL.w_tryAs0 ?_ )
local macro_rules | `(tactic| walk_at "w2") => `(tactic| first
  | walk_at "w1"
  | ((with_reducible apply DL.w_var); (· rfl))
  | ((with_reducible apply DL.w_xDeck); (· rfl))
  | ((with_reducible apply DL.w_vVarO); (· rfl))
  | ((with_reducible apply DL.w_vVarK); (· rfl))
  | ((with_reducible apply DL.w_vVarD); (· rfl))
  | ((with_reducible apply DL.w_eqK0); (· rfl))
  | ((with_reducible apply DL.w_listO); (· rfl))
  | ((with_reducible apply DL.w_listD); (· rfl))
  | ((with_reducible apply DL.w_app); (· exact trivial))
  | ((with_reducible apply DL.w_dGet); (· exact trivial))
  | ((with_reducible apply DL.w_listA); (· rfl))
  | ((with_reducible apply DL.w_augI); (· rfl))
  | ((with_reducible apply DL.w_slVarO); (· rfl))
  | ((with_reducible apply DL.w_fzO); (· rfl))
  | ((with_reducible apply DL.w_fzD); (· rfl))
  | ((with_reducible apply DL.w_fz); (· rfl))
  | ((with_reducible apply DL.w_gdTup); (· rfl))
  | ((with_reducible apply DL.w_ins); (· exact trivial))
  | ((with_reducible apply DL.w_xLend); (· exact trivial))
  | ((with_reducible apply DL.w_lendK); (· rfl))
  | ((with_reducible apply DL.w_gdLst); (· rfl))
  | ((with_reducible apply DL.w_keysK); (· rfl))
  | ((with_reducible refine And.intro ?_ ?_); (· first | rfl | exact True.intro | decide | (dsimp only [List.length_cons, List.length_nil]; decide)))
  | with_reducible refine DL.w_eqS ?_ | with_reducible refine DL.w_neS ?_ | with_reducible refine DL.w_I0 ?_ | with_reducible refine DL.w_eqI ?_ | with_reducible refine DL.w_neI ?_ | with_reducible refine DL.w_isN ?_ | with_reducible refine DL.w_notN ?_)
local macro_rules | `(tactic| walk_at "w") => `(tactic| (repeat walk_at "w2"; try dsimp only [List.set_cons_zero, List.set_cons_succ, List.cons_append, List.nil_append, List.replicate_succ, List.replicate_zero]))
set_option pp.maxSteps 1500
variable (Cf : Addr) (xc : Fk → Addr)
def xcOf (a b c d e : Addr) : Fk → Addr
  | .nm => a
  | .tg => b
  | .ct => c
  | .so => d
  | .pl => e
def F_check : FDX := forg (F_program0 Cf xc 3 3)
theorem at_abcd {k : Nat} (h : k < 4) : atI ("abcd" : Str).cps.toList (k : Int) = some (97 + k) := by
  refine atI_nat ?_
  rcases k with _ | _ | _ | _ | k <;> first | rfl | omega
theorem gpl_app {gs : List Gp} {g : Gp} (hg : ∀ k g, gs[k]? = some g → GpL k g) (h : GpL gs.length g) : ∀ k q, (gs ++ [g])[k]? = some q → GpL k q := fun k q hkq => by
  by_cases hlt : k < gs.length
  · rw [List.getElem?_append_left hlt] at hkq
    exact hg k q hkq
  · rw [List.getElem?_append_right (by omega)] at hkq
    have hk0 : k = gs.length := by
      have := (List.getElem?_eq_some_iff.mp hkq).1
      rw [List.length_singleton] at this
      omega
    subst hk0
    rw [Nat.sub_self] at hkq
    cases hkq
    exact h
def rowAt (R : List Nat) (fs : List Fn) (k : Nat) : PyData := match fs[k]? with
  | some f => fD (prF R f)
  | none => .none
theorem row_all {R : List Nat} {fs : List Fn} {n : Nat} (h : fs.length = n) : (List.range n).map (rowAt R fs) = (fs.map (prF R)).map fD := by
  refine List.ext_getElem? fun j => ?_
  rw [List.getElem?_map, List.getElem?_map, List.getElem?_map]
  by_cases hj : j < n
  · rw [List.getElem?_range hj, List.getElem?_eq_getElem (by omega)]
    show some (rowAt R fs j) = _
    unfold rowAt
    rw [List.getElem?_eq_getElem (by omega)]
    rfl
  · rw [List.getElem?_eq_none (by rw [List.length_range]; omega), List.getElem?_eq_none (l := fs) (by omega)]
    rfl
theorem not_eq_self (x : Str) : (!decide (x = x)) = false := by rw [decide_eq_true rfl]; rfl
theorem law_holds : dB_law F_press F_draw F_ranks F_functions F_l_pressed (F_check Cf xc) { nx := fun _ => False, rt := fun v _ => v = .bool true } ⟨.un :: .deck :: List.replicate 13 .un, g0 0⟩ := by
  unfold dB_law
  show (dSeq _ _) _ ⟨[.un, .deck, .un, .un, .un, .un, .un, .un, .un, .un, .un, .un, .un, .un, .un], g0 0⟩
  walk_at "w"
  refine loop_rem (fun rest st => ∃ (m : Nat) (x2 x3 x4 x5 x6 x7 x8 x9 x10 x11 x12 x13 x14 : DV), plX x14 = true ∧ m + 100 * rest.length ≤ 1000 ∧
    st = ⟨[.un, .deck, x2, x3, x4, x5, x6, x7, x8, x9, x10, x11, x12, x13, x14], g0 m⟩) (fun d rest st hJ N hN => ?_) (fun st hJ => ?_) _ _ ⟨0, _, _, _, _, _, _, _, _, _, _, _, _, _, rfl, by decide, rfl⟩
  · obtain ⟨m, x2, x3, x4, x5, x6, x7, x8, x9, x10, x11, x12, x13, x14, h14, hm, rfl⟩ := hJ
    rw [List.length_cons] at hm
    walk_at "w"
    refine w_draw (by omega) (by decide) (by decide) fun v hv => ?_
    have hv : v < 4 := hv
    walk_at "w"
    have hv0 : ((1 : Int) + (v : Int)).toNat = 1 + v := by omega
    refine ⟨by omega, by omega, ?_⟩
    rw [hv0, rngD_nats]
    refine loop_rem (fun rest2 st => ∃ (gs : List Gp) (ks : List Nat) (m2 : Nat) (y5 y6 y7 y8 y9 y10 y14 : DV), plX y14 = true ∧ rest2 = natsD ks ∧ List.range (1 + v) = List.range gs.length ++ ks ∧ gs.length + ks.length = 1 + v ∧ (∀ k g, gs[k]? = some g → GpL k g) ∧ m2 ≤ m + 1 + 20 * gs.length ∧
      st = ⟨[.un, .deck, .dat d, .own (gs.map gD), .own (gs.map fun g => gD (prG g)), y5, y6, y7, y8, y9, y10, x11, x12, x13, y14], g0 m2⟩) (fun d2 rest2 st2 hJ2 N2 hN2 => ?_) (fun st2 hJ2 => ?_) _ _ ⟨[], List.range (1 + v), m + 1, _, _, _, _, _, _, _, h14, rfl, rfl, by simp, (fun k g h => by rw [List.getElem?_nil] at h; cases h), by simp, rfl⟩
    · obtain ⟨gs, ks, m2, y5, y6, y7, y8, y9, y10, y14, hy14, hr, hrs, hk, hg, hm2, rfl⟩ := hJ2
      cases ks with
      | nil => cases hr
      | cons k ks =>
        unfold natsD at hr
        rw [List.map_cons] at hr
        injection hr with hr1 hr2
        subst hr1
        rw [List.length_cons] at hk
        have hrk : k = gs.length := by
          have e : (List.range (1 + v))[gs.length]? = (List.range gs.length ++ k :: ks)[gs.length]? := by rw [hrs]
          rw [List.getElem?_append_right (by rw [List.length_range]; exact Nat.le_refl _), List.length_range, Nat.sub_self, List.getElem?_range (by omega)] at e
          exact (Option.some.inj e).symm
        subst hrk
        walk_at "w"
        refine w_draw (by omega) (by decide) (by decide) fun w hw => ?_
        have hw : w < 4 := hw
        walk_at "w"
        refine w_ite (fun hb => ?_) (fun hb => ?_)
        · walk_at "w"
          refine w_ixS (by decide) (at_abcd (by omega)) ?_
          walk_at "w"
          have hl1 : (("g" : Str)).length + (⟨#[97 + gs.length]⟩ : Str).length ≤ 1000000 := (by decide : 2 ≤ 1000000)
          refine w_catS hl1 ?_
          walk_at "w"
          refine w_appK rfl (by rw [List.length_map]; omega) ?_
          walk_at "w"
          refine w_appK rfl (by rw [List.length_map]; omega) ?_
          refine hN2 _ ⟨gs ++ [gNone gs.length], ks, m2 + 1, .dat (.int (gs.length : Nat)), .dat (gD (gNone gs.length)), y7, y8, y9, y10, y14, hy14, hr2, ?_, ?_, ?_, ?_, ?_⟩
          · rw [hrs, List.length_append, List.length_singleton, List.range_succ, List.append_assoc]
            rfl
          · rw [List.length_append, List.length_singleton]
            omega
          · exact gpl_app hg .ga
          · rw [List.length_append, List.length_singleton]
            omega
          · rw [List.map_append, List.map_append]
            rfl
        · walk_at "w"
          refine w_draw (by omega) (by decide) (by decide) fun c hc => ?_
          have hc : c < 4 := hc
          walk_at "w"
          rw [show ((1 : Int) + (c : Int)) = ((1 + c : Nat) : Int) from by omega]
          refine ranks_spec (by omega) (by omega) fun R m3 hR h31 h32 => ?_
          have hR1 := hR.1
          unfold rkD
          walk_at "w"
          refine w_ixS (by decide) (at_abcd (by omega)) ?_
          walk_at "w"
          refine functions_spec (l := ltr gs.length) (R := R) (by decide : 1 ≤ 10) (by omega) (by omega) fun fs hf1 hf2 m4 h41 h42 => ?_
          walk_at "w"
          refine l_pressed_spec hR.2 (by omega) ?_
          unfold rkD
          walk_at "w"
          refine w_appK rfl (by rw [List.length_map]; omega) ?_
          walk_at "w"
          have hln : (natsD R).length = R.length := by unfold natsD; rw [List.length_map]
          rw [hln]
          refine ⟨by omega, by omega, by rw [rng_len]; omega, no_cons rfl hy14 rfl, ?_⟩
          rw [show ((R.length : Nat) : Int).toNat = R.length from Int.toNat_natCast _, rngD_nats]
          refine lc_mapM (fun k : Nat => PyData.int (k : Int)) (fun k => rowAt R fs k) (fun k hk2 Y Z hY => ?_) ?_
          · have hk3 : k < R.length := List.mem_range.mp hk2
            obtain ⟨f, hkf⟩ : ∃ f, fs[k]? = some f := ⟨_, List.getElem?_eq_getElem (by omega)⟩
            have hd1 : (fs.map fD)[k]? = some (fD f) := by rw [List.getElem?_map, hkf]; rfl
            obtain ⟨r, hr1, hr2'⟩ := (hf2 k f hkf).rk
            have hq : (natsD (R.map (num R)))[k]? = some (.int (num R (rkN f) : Nat)) := by
              unfold natsD
              rw [List.getElem?_map, List.getElem?_map, hr1]
              have : rkN f = r := by unfold rkN; rw [hr2']; rfl
              rw [this]
              rfl
            have hY' : Y (fD (prF R f)) ((((((g0 m2).on (m2 + 1)).on (m2 + 1 + 1)).on m3).on m4).on m4) := by
              unfold rowAt at hY
              rw [hkf] at hY
              exact hY
            walk_at "w"
            rw [if_pos rfl]
            walk_at "w"
            refine w_ixU (atI_nat hd1) ?_
            walk_at "w"
            dsimp only [fD]
            walk_at "w"
            refine w_ixVarD rfl ?_
            walk_at "w"
            refine ⟨_, atI_nat hq, ?_⟩
            walk_at "w"
            refine w_catU (by decide : 3 ≤ 1000000) ?_
            walk_at "w"
            refine w_ixU (atI_nat hd1) ?_
            walk_at "w"
            dsimp only [fD]
            walk_at "w"
            refine w_catU (by decide : 4 ≤ 1000000) ?_
            exact ⟨rfl, hY'⟩
          · rw [row_all hf1]
            have hpr : prG ⟨"test", fs⟩ = ⟨"test", fs.map (prF R)⟩ := pr_te hf1 hf2
            walk_at "w"
            refine w_appK rfl (by rw [List.length_map]; omega) ?_
            refine hN2 _ ⟨gs ++ [⟨"test", fs⟩], ks, m4, .dat (.int (gs.length : Nat)), y6, .dat (.list (natsD R)), .dat (.tuple (fs.map fD)), .dat (.list (natsD (R.map (num R)))), .dat (.list ((fs.map (prF R)).map fD)), y14, hy14, hr2, ?_, ?_, ?_, ?_, ?_⟩
            · rw [hrs, List.length_append, List.length_singleton, List.range_succ, List.append_assoc]
              rfl
            · rw [List.length_append, List.length_singleton]
              omega
            · exact gpl_app hg (.te R fs (by omega) (by omega) hR.2 hf1 hf2)
            · rw [List.length_append, List.length_singleton]
              omega
            · rw [List.map_append, List.map_append, List.map_singleton, List.map_singleton, hpr]
              rfl
    · obtain ⟨gs, ks, m2, y5, y6, y7, y8, y9, y10, y14, hy14, hr, hrs, hk, hg, hm2, rfl⟩ := hJ2
      cases ks with
      | cons k ks => cases hr
      | nil =>
        have hGs : GsL gs := ⟨by rw [List.length_nil] at hk; omega, by rw [List.length_nil] at hk; omega, hg⟩
        have hS : Shows (pD (pgL gs)) := (val_pg (pg_v hGs)).shows (by decide) (by decide)
        have hS2 : Shows (pD (prP (pgL gs))) := (val_pg (pg_v2 hGs)).shows (by decide) (by decide)
        have hp0 : pgF (pgL gs) = none := gps_none gs 0 _ fun k g h => by rw [Nat.zero_add]; exact hg k g h
        rw [show (gs.map fun g => gD (prG g)) = (gs.map prG).map gD from by rw [List.map_map]; rfl]
        walk_at "w"
        refine ⟨hS, ?_⟩
        walk_at "w"
        refine press_spec (p := pgL gs) (rk_of (pg_v hGs)) ?_
        walk_at "w"
        have hchk : ∀ (P : PyData → Nat → Prop) (PX : PXn) (q : Nat), P .none q → F_check Cf xc [.dat (pD (pgL gs))] q P PX := fun P PX q h => by
          unfold F_check forg
          refine program_spec (p := pgL gs) (pg_ok hGs) (by decide) (by decide) fun g hgn => ?_
          rw [hp0]
          exact ⟨_, rfl, by rw [hgn]; exact h⟩
        refine hchk _ _ _ ?_
        walk_at "w"
        refine w_F rfl ?_
        walk_at "w"
        refine ⟨hS2, ?_⟩
        walk_at "w"
        refine w_ixU (k := 0) rfl ?_
        walk_at "w"
        refine ⟨hS2, ?_⟩
        show oEq true (PyData.str (pD (prP (pgL gs))).shown) (PyData.str (pD (prP (pgL gs))).shown) _
        generalize (pD (prP (pgL gs))).shown = sx
        walk_at "w"
        refine w_F (not_eq_self sx) ?_
        walk_at "w"
        refine press_spec (p := prP (pgL gs)) (rk_of (pg_v2 hGs)) ?_
        walk_at "w"
        rw [pp_idem hGs]
        have hne : ∀ P : PyData → Prop, P (.bool false) → oEqD true (pD (prP (pgL gs))) (pD (prP (pgL gs))) P := fun P h => by
          have dd : (pD (prP (pgL gs))).depth ≤ 64 := Nat.le_trans (val_pg (pg_v2 hGs)).dp (by decide)
          exact w_neC (b := true) (cln_pg (pg_v2 hGs)) (cln_pg (pg_v2 hGs)) dd dd ⟨fun _ => rfl, fun _ => rfl⟩ h
        refine hne _ ?_
        walk_at "w"
        refine w_F rfl ?_
        walk_at "w"
        refine press_spec (p := pgL gs) (rk_of (pg_v hGs)) ?_
        walk_at "w"
        refine hne _ ?_
        walk_at "w"
        refine w_F rfl ?_
        walk_at "w"
        refine ⟨hS, ?_⟩
        generalize PyData.shown (PyData.tuple [PyData.tuple [PyData.tuple [PyData.str (Str.ofString "one"), PyData.int 0]], PyData.tuple (List.map gD gs)]) = sy
        walk_at "w"
        refine w_F (not_eq_self sy) ?_
        walk_at "w"
        refine hN _ ⟨m2, _, _, _, _, _, _, _, _, _, _, _, _, y14, hy14, ?_, rfl⟩
        rw [List.length_nil] at hk
        omega
  · obtain ⟨m, x2, x3, x4, x5, x6, x7, x8, x9, x10, x11, x12, x13, x14, h14, hm, rfl⟩ := hJ
    walk_at "w"
end K58

set_option Elab.async false
set_option linter.all false
set_option maxRecDepth 100000
set_option maxHeartbeats 4000000
namespace K58
open PySem PySem.Spec PyProof.Rows L2 GG DD PT DL
section
variable {P : Program} {w : World} {K : PySem.W.Frag} {mg : Str → Option Value} {base : Heap}
theorem all_mk {h : Heap} (X : K.In h) (G : h.Ns mainGlobals mg)
    {fa d0 d1 d2 d3 d4 d5 d6 d7 d8 d9 d10 d11 d12 d13 d14 d15 d16 d17 d18 d19 d20 d21 d22 d23 d24 d25 d26 d27 : Addr}
    {oc0 kV0 dc0 pm0 cd0 ct0 oc1 kV1 dc1 pm1 cd1 ct1 oc2 kV2 dc2 pm2 cd2 ct2 oc3 kV3 dc3 pm3 cd3 ct3 oc4 kV4 dc4 pm4 cd4 ct4 oc5 kV5 dc5 pm5 cd5 ct5 oc6 kV6 dc6 pm6 cd6 ct6 oc7 kV7 dc7 pm7 cd7 ct7 oc8 kV8 dc8 pm8 cd8 ct8 oc9 kV9 dc9 pm9 cd9 ct9 oc10 kV10 dc10 pm10 cd10 ct10 oc11 kV11 dc11 pm11 cd11 ct11 oc12 kV12 dc12 pm12 cd12 ct12 oc13 kV13 dc13 pm13 cd13 ct13 oc14 kV14 dc14 pm14 cd14 ct14 oc15 kV15 dc15 pm15 cd15 ct15 oc16 kV16 dc16 pm16 cd16 ct16 oc17 kV17 dc17 pm17 cd17 ct17 oc18 kV18 dc18 pm18 cd18 ct18 oc19 kV19 dc19 pm19 cd19 ct19 oc20 kV20 dc20 pm20 cd20 ct20 oc21 kV21 dc21 pm21 cd21 ct21 oc22 kV22 dc22 pm22 cd22 ct22 oc23 kV23 dc23 pm23 cd23 ct23 oc24 kV24 dc24 pm24 cd24 ct24 oc25 kV25 dc25 pm25 cd25 ct25 oc26 kV26 dc26 pm26 cd26 ct26 oc27 kV27 dc27 pm27 cd27 ct27 : Value}
    {od0 an0 od1 an1 od2 an2 od3 an3 od4 an4 od5 an5 od6 an6 od7 an7 od8 an8 od9 an9 od10 an10 od11 an11 od12 an12 od13 an13 od14 an14 od15 an15 od16 an16 od17 an17 od18 an18 od19 an19 od20 an20 od21 an21 od22 an22 od23 an23 od24 an24 od25 an25 od26 an26 od27 an27 : Option Addr}
    {sl0 sl1 sl2 sl3 sl4 sl5 sl6 sl7 sl8 sl9 sl10 sl11 sl12 sl13 sl14 sl15 sl16 sl17 sl18 sl19 sl20 sl21 sl22 sl23 sl24 sl25 sl26 sl27 : Array (Option Value)}
    {C_FunctionChecker : Addr} (ag_FunctionChecker : PySem.W.nsIn K mainGlobals "FunctionChecker" = some (some (.ref C_FunctionChecker)))
    (cb_FunctionChecker : clsB K C_FunctionChecker = true) (nb_FunctionChecker : nosB K C_FunctionChecker ["counts_by_tag", "known_functions", "own_group", "own_sort"] = true)
    (ad0 : PySem.W.nsIn K mainGlobals "_law_deck" = some (some (.ref d0)))
    (ld0 : K.lookup d0 = some ⟨oc0, od0, .func (PySem.W.fnOf "_law_deck" "_law_deck" (defArgs s_deck) (defBody s_deck) (defScope s_deck) .none kV0 dc0 pm0 an0 cd0 ct0), sl0⟩)
    (cc0 : PySem.W.codeIn K cd0 "_law_deck" = true)
    (kd0 : PySem.W.keepIn K (.ref d0) = true)
    (ad1 : PySem.W.nsIn K mainGlobals "_law_draw" = some (some (.ref d1)))
    (ld1 : K.lookup d1 = some ⟨oc1, od1, .func (PySem.W.fnOf "_law_draw" "_law_draw" (defArgs s_draw) (defBody s_draw) (defScope s_draw) .none kV1 dc1 pm1 an1 cd1 ct1), sl1⟩)
    (cc1 : PySem.W.codeIn K cd1 "_law_draw" = true)
    (kd1 : PySem.W.keepIn K (.ref d1) = true)
    (ad2 : PySem.W.nsIn K mainGlobals "field_counts" = some (some (.ref d2)))
    (ld2 : K.lookup d2 = some ⟨oc2, od2, .func (PySem.W.fnOf "field_counts" "field_counts" (defArgs s_field_counts) (defBody s_field_counts) (defScope s_field_counts) .none kV2 dc2 pm2 an2 cd2 ct2), sl2⟩)
    (cc2 : PySem.W.codeIn K cd2 "field_counts" = true)
    (kd2 : PySem.W.keepIn K (.ref d2) = true)
    (ad3 : PySem.W.nsIn K mainGlobals "pressed" = some (some (.ref d3)))
    (ld3 : K.lookup d3 = some ⟨oc3, od3, .func (PySem.W.fnOf "pressed" "pressed" (defArgs s_pressed) (defBody s_pressed) (defScope s_pressed) .none kV3 dc3 pm3 an3 cd3 ct3), sl3⟩)
    (cc3 : PySem.W.codeIn K cd3 "pressed" = true)
    (kd3 : PySem.W.keepIn K (.ref d3) = true)
    (ad4 : PySem.W.nsIn K mainGlobals "press_ranks" = some (some (.ref d4)))
    (ld4 : K.lookup d4 = some ⟨oc4, od4, .func (PySem.W.fnOf "press_ranks" "press_ranks" (defArgs s_press_ranks) (defBody s_press_ranks) (defScope s_press_ranks) .none kV4 dc4 pm4 an4 cd4 ct4), sl4⟩)
    (cc4 : PySem.W.codeIn K cd4 "press_ranks" = true)
    (kd4 : PySem.W.keepIn K (.ref d4) = true)
    (ad5 : PySem.W.nsIn K mainGlobals "require_name" = some (some (.ref d5)))
    (ld5 : K.lookup d5 = some ⟨oc5, od5, .func (PySem.W.fnOf "require_name" "require_name" (defArgs s_require_name) (defBody s_require_name) (defScope s_require_name) .none kV5 dc5 pm5 an5 cd5 ct5), sl5⟩)
    (cc5 : PySem.W.codeIn K cd5 "require_name" = true)
    (kd5 : PySem.W.keepIn K (.ref d5) = true)
    (ad6 : PySem.W.nsIn K mainGlobals "require_tag" = some (some (.ref d6)))
    (ld6 : K.lookup d6 = some ⟨oc6, od6, .func (PySem.W.fnOf "require_tag" "require_tag" (defArgs s_require_tag) (defBody s_require_tag) (defScope s_require_tag) .none kV6 dc6 pm6 an6 cd6 ct6), sl6⟩)
    (cc6 : PySem.W.codeIn K cd6 "require_tag" = true)
    (kd6 : PySem.W.keepIn K (.ref d6) = true)
    (ad7 : PySem.W.nsIn K mainGlobals "require_count" = some (some (.ref d7)))
    (ld7 : K.lookup d7 = some ⟨oc7, od7, .func (PySem.W.fnOf "require_count" "require_count" (defArgs s_require_count) (defBody s_require_count) (defScope s_require_count) .none kV7 dc7 pm7 an7 cd7 ct7), sl7⟩)
    (cc7 : PySem.W.codeIn K cd7 "require_count" = true)
    (kd7 : PySem.W.keepIn K (.ref d7) = true)
    (ad8 : PySem.W.nsIn K mainGlobals "require_sort" = some (some (.ref d8)))
    (ld8 : K.lookup d8 = some ⟨oc8, od8, .func (PySem.W.fnOf "require_sort" "require_sort" (defArgs s_require_sort) (defBody s_require_sort) (defScope s_require_sort) .none kV8 dc8 pm8 an8 cd8 ct8), sl8⟩)
    (cc8 : PySem.W.codeIn K cd8 "require_sort" = true)
    (kd8 : PySem.W.keepIn K (.ref d8) = true)
    (ad9 : PySem.W.nsIn K mainGlobals "require_place" = some (some (.ref d9)))
    (ld9 : K.lookup d9 = some ⟨oc9, od9, .func (PySem.W.fnOf "require_place" "require_place" (defArgs s_require_place) (defBody s_require_place) (defScope s_require_place) .none kV9 dc9 pm9 an9 cd9 ct9), sl9⟩)
    (cc9 : PySem.W.codeIn K cd9 "require_place" = true)
    (kd9 : PySem.W.keepIn K (.ref d9) = true)
    (ad10 : PySem.W.findIn K (.ref C_FunctionChecker) "__init__" = some (some (.ref d10)))
    (ld10 : K.lookup d10 = some ⟨oc10, od10, .func (PySem.W.fnOf "__init__" "FunctionChecker.__init__" (defArgs s_FunctionChecker___init__) (defBody s_FunctionChecker___init__) (defScope s_FunctionChecker___init__) .none kV10 dc10 pm10 an10 cd10 ct10), sl10⟩)
    (cc10 : PySem.W.codeIn K cd10 "FunctionChecker.__init__" = true)
    (kd10 : PySem.W.keepIn K (.ref d10) = true)
    (kf10 : PySem.W.isFn K (.ref d10) = true)
    (km10 : mkB K C_FunctionChecker d10 = true)
    (ad11 : PySem.W.findIn K (.ref C_FunctionChecker) "check_function" = some (some (.ref d11)))
    (ld11 : K.lookup d11 = some ⟨oc11, od11, .func (PySem.W.fnOf "check_function" "FunctionChecker.check_function" (defArgs s_FunctionChecker_check_function) (defBody s_FunctionChecker_check_function) (defScope s_FunctionChecker_check_function) .none kV11 dc11 pm11 an11 cd11 ct11), sl11⟩)
    (cc11 : PySem.W.codeIn K cd11 "FunctionChecker.check_function" = true)
    (kd11 : PySem.W.keepIn K (.ref d11) = true)
    (kf11 : PySem.W.isFn K (.ref d11) = true)
    (ad12 : PySem.W.findIn K (.ref C_FunctionChecker) "check_own_arguments" = some (some (.ref d12)))
    (ld12 : K.lookup d12 = some ⟨oc12, od12, .func (PySem.W.fnOf "check_own_arguments" "FunctionChecker.check_own_arguments" (defArgs s_FunctionChecker_check_own_arguments) (defBody s_FunctionChecker_check_own_arguments) (defScope s_FunctionChecker_check_own_arguments) .none kV12 dc12 pm12 an12 cd12 ct12), sl12⟩)
    (cc12 : PySem.W.codeIn K cd12 "FunctionChecker.check_own_arguments" = true)
    (kd12 : PySem.W.keepIn K (.ref d12) = true)
    (kf12 : PySem.W.isFn K (.ref d12) = true)
    (ad13 : PySem.W.findIn K (.ref C_FunctionChecker) "check_term" = some (some (.ref d13)))
    (ld13 : K.lookup d13 = some ⟨oc13, od13, .func (PySem.W.fnOf "check_term" "FunctionChecker.check_term" (defArgs s_FunctionChecker_check_term) (defBody s_FunctionChecker_check_term) (defScope s_FunctionChecker_check_term) .none kV13 dc13 pm13 an13 cd13 ct13), sl13⟩)
    (cc13 : PySem.W.codeIn K cd13 "FunctionChecker.check_term" = true)
    (kd13 : PySem.W.keepIn K (.ref d13) = true)
    (kf13 : PySem.W.isFn K (.ref d13) = true)
    (ad14 : PySem.W.findIn K (.ref C_FunctionChecker) "check_terms" = some (some (.ref d14)))
    (ld14 : K.lookup d14 = some ⟨oc14, od14, .func (PySem.W.fnOf "check_terms" "FunctionChecker.check_terms" (defArgs s_FunctionChecker_check_terms) (defBody s_FunctionChecker_check_terms) (defScope s_FunctionChecker_check_terms) .none kV14 dc14 pm14 an14 cd14 ct14), sl14⟩)
    (cc14 : PySem.W.codeIn K cd14 "FunctionChecker.check_terms" = true)
    (kd14 : PySem.W.keepIn K (.ref d14) = true)
    (kf14 : PySem.W.isFn K (.ref d14) = true)
    (ad15 : PySem.W.findIn K (.ref C_FunctionChecker) "check_use" = some (some (.ref d15)))
    (ld15 : K.lookup d15 = some ⟨oc15, od15, .func (PySem.W.fnOf "check_use" "FunctionChecker.check_use" (defArgs s_FunctionChecker_check_use) (defBody s_FunctionChecker_check_use) (defScope s_FunctionChecker_check_use) .none kV15 dc15 pm15 an15 cd15 ct15), sl15⟩)
    (cc15 : PySem.W.codeIn K cd15 "FunctionChecker.check_use" = true)
    (kd15 : PySem.W.keepIn K (.ref d15) = true)
    (kf15 : PySem.W.isFn K (.ref d15) = true)
    (ad16 : PySem.W.findIn K (.ref C_FunctionChecker) "check_call" = some (some (.ref d16)))
    (ld16 : K.lookup d16 = some ⟨oc16, od16, .func (PySem.W.fnOf "check_call" "FunctionChecker.check_call" (defArgs s_FunctionChecker_check_call) (defBody s_FunctionChecker_check_call) (defScope s_FunctionChecker_check_call) .none kV16 dc16 pm16 an16 cd16 ct16), sl16⟩)
    (cc16 : PySem.W.codeIn K cd16 "FunctionChecker.check_call" = true)
    (kd16 : PySem.W.keepIn K (.ref d16) = true)
    (kf16 : PySem.W.isFn K (.ref d16) = true)
    (ad17 : PySem.W.findIn K (.ref C_FunctionChecker) "check_condition" = some (some (.ref d17)))
    (ld17 : K.lookup d17 = some ⟨oc17, od17, .func (PySem.W.fnOf "check_condition" "FunctionChecker.check_condition" (defArgs s_FunctionChecker_check_condition) (defBody s_FunctionChecker_check_condition) (defScope s_FunctionChecker_check_condition) .none kV17 dc17 pm17 an17 cd17 ct17), sl17⟩)
    (cc17 : PySem.W.codeIn K cd17 "FunctionChecker.check_condition" = true)
    (kd17 : PySem.W.keepIn K (.ref d17) = true)
    (kf17 : PySem.W.isFn K (.ref d17) = true)
    (ad18 : PySem.W.findIn K (.ref C_FunctionChecker) "check_branch" = some (some (.ref d18)))
    (ld18 : K.lookup d18 = some ⟨oc18, od18, .func (PySem.W.fnOf "check_branch" "FunctionChecker.check_branch" (defArgs s_FunctionChecker_check_branch) (defBody s_FunctionChecker_check_branch) (defScope s_FunctionChecker_check_branch) .none kV18 dc18 pm18 an18 cd18 ct18), sl18⟩)
    (cc18 : PySem.W.codeIn K cd18 "FunctionChecker.check_branch" = true)
    (kd18 : PySem.W.keepIn K (.ref d18) = true)
    (kf18 : PySem.W.isFn K (.ref d18) = true)
    (ad19 : PySem.W.findIn K (.ref C_FunctionChecker) "check_case" = some (some (.ref d19)))
    (ld19 : K.lookup d19 = some ⟨oc19, od19, .func (PySem.W.fnOf "check_case" "FunctionChecker.check_case" (defArgs s_FunctionChecker_check_case) (defBody s_FunctionChecker_check_case) (defScope s_FunctionChecker_check_case) .none kV19 dc19 pm19 an19 cd19 ct19), sl19⟩)
    (cc19 : PySem.W.codeIn K cd19 "FunctionChecker.check_case" = true)
    (kd19 : PySem.W.keepIn K (.ref d19) = true)
    (kf19 : PySem.W.isFn K (.ref d19) = true)
    (ad20 : PySem.W.findIn K (.ref C_FunctionChecker) "check_other_body" = some (some (.ref d20)))
    (ld20 : K.lookup d20 = some ⟨oc20, od20, .func (PySem.W.fnOf "check_other_body" "FunctionChecker.check_other_body" (defArgs s_FunctionChecker_check_other_body) (defBody s_FunctionChecker_check_other_body) (defScope s_FunctionChecker_check_other_body) .none kV20 dc20 pm20 an20 cd20 ct20), sl20⟩)
    (cc20 : PySem.W.codeIn K cd20 "FunctionChecker.check_other_body" = true)
    (kd20 : PySem.W.keepIn K (.ref d20) = true)
    (kf20 : PySem.W.isFn K (.ref d20) = true)
    (ad21 : PySem.W.findIn K (.ref C_FunctionChecker) "check_body" = some (some (.ref d21)))
    (ld21 : K.lookup d21 = some ⟨oc21, od21, .func (PySem.W.fnOf "check_body" "FunctionChecker.check_body" (defArgs s_FunctionChecker_check_body) (defBody s_FunctionChecker_check_body) (defScope s_FunctionChecker_check_body) .none kV21 dc21 pm21 an21 cd21 ct21), sl21⟩)
    (cc21 : PySem.W.codeIn K cd21 "FunctionChecker.check_body" = true)
    (kd21 : PySem.W.keepIn K (.ref d21) = true)
    (kf21 : PySem.W.isFn K (.ref d21) = true)
    (ad22 : PySem.W.nsIn K mainGlobals "check_program" = some (some (.ref d22)))
    (ld22 : K.lookup d22 = some ⟨oc22, od22, .func (PySem.W.fnOf "check_program" "check_program" (defArgs s_check_program) (defBody s_check_program) (defScope s_check_program) .none kV22 dc22 pm22 an22 cd22 ct22), sl22⟩)
    (cc22 : PySem.W.codeIn K cd22 "check_program" = true)
    (kd22 : PySem.W.keepIn K (.ref d22) = true)
    (ad23 : PySem.W.nsIn K mainGlobals "_law_pick" = some (some (.ref d23)))
    (ld23 : K.lookup d23 = some ⟨oc23, od23, .func (PySem.W.fnOf "_law_pick" "_law_pick" (defArgs s_pick) (defBody s_pick) (defScope s_pick) .none kV23 dc23 pm23 an23 cd23 ct23), sl23⟩)
    (cc23 : PySem.W.codeIn K cd23 "_law_pick" = true)
    (kd23 : PySem.W.keepIn K (.ref d23) = true)
    (ad24 : PySem.W.nsIn K mainGlobals "_law_ranks" = some (some (.ref d24)))
    (ld24 : K.lookup d24 = some ⟨oc24, od24, .func (PySem.W.fnOf "_law_ranks" "_law_ranks" (defArgs s_ranks) (defBody s_ranks) (defScope s_ranks) .none kV24 dc24 pm24 an24 cd24 ct24), sl24⟩)
    (cc24 : PySem.W.codeIn K cd24 "_law_ranks" = true)
    (kd24 : PySem.W.keepIn K (.ref d24) = true)
    (ad25 : PySem.W.nsIn K mainGlobals "_law_pressed" = some (some (.ref d25)))
    (ld25 : K.lookup d25 = some ⟨oc25, od25, .func (PySem.W.fnOf "_law_pressed" "_law_pressed" (defArgs s_l_pressed) (defBody s_l_pressed) (defScope s_l_pressed) .none kV25 dc25 pm25 an25 cd25 ct25), sl25⟩)
    (cc25 : PySem.W.codeIn K cd25 "_law_pressed" = true)
    (kd25 : PySem.W.keepIn K (.ref d25) = true)
    (ad26 : PySem.W.nsIn K mainGlobals "_law_functions" = some (some (.ref d26)))
    (ld26 : K.lookup d26 = some ⟨oc26, od26, .func (PySem.W.fnOf "_law_functions" "_law_functions" (defArgs s_functions) (defBody s_functions) (defScope s_functions) .none kV26 dc26 pm26 an26 cd26 ct26), sl26⟩)
    (cc26 : PySem.W.codeIn K cd26 "_law_functions" = true)
    (kd26 : PySem.W.keepIn K (.ref d26) = true)
    (ad27 : PySem.W.nsIn K mainGlobals "law" = some (some (.ref d27)))
    (ld27 : K.lookup d27 = some ⟨oc27, od27, .func (PySem.W.fnOf "law" "law" (defArgs s_law) (defBody s_law) (defScope s_law) .none kV27 dc27 pm27 an27 cd27 ct27), sl27⟩)
    (cc27 : PySem.W.codeIn K cd27 "law" = true)
    (kd27 : PySem.W.keepIn K (.ref d27) = true)
    (n_all : PySem.W.nsIn K mainGlobals "all" = some none)
    (n_dict : PySem.W.nsIn K mainGlobals "dict" = some none)
    (n_enumerate : PySem.W.nsIn K mainGlobals "enumerate" = some none)
    (n_len : PySem.W.nsIn K mainGlobals "len" = some none)
    (n_list : PySem.W.nsIn K mainGlobals "list" = some none)
    (n_range : PySem.W.nsIn K mainGlobals "range" = some none)
    (n_repr : PySem.W.nsIn K mainGlobals "repr" = some none)
    (n_set : PySem.W.nsIn K mainGlobals "set" = some none)
    (n_sorted : PySem.W.nsIn K mainGlobals "sorted" = some none)
    (n_tuple : PySem.W.nsIn K mainGlobals "tuple" = some none)
    {a_DOUBLE_BODIES : Addr} (g_DOUBLE_BODIES : PySem.W.nsIn K mainGlobals "DOUBLE_BODIES" = some (some (.ref a_DOUBLE_BODIES)))
    {a_DOUBLE_CONDITIONS : Addr} (g_DOUBLE_CONDITIONS : PySem.W.nsIn K mainGlobals "DOUBLE_CONDITIONS" = some (some (.ref a_DOUBLE_CONDITIONS)))
    {t_MAKE : Tok} (g_MAKE : PySem.W.nsIn K mainGlobals "MAKE" = some (some (.str "make" t_MAKE)))
    {t_TEST_checking : Tok} (g_TEST_checking : PySem.W.nsIn K mainGlobals "TEST_checking" = some (some (.str "test" t_TEST_checking)))
    {t_TEST_programs : Tok} (g_TEST_programs : PySem.W.nsIn K mainGlobals "TEST_programs" = some (some (.str "test" t_TEST_programs)))
    {t_VOID_TAG : Tok} (g_VOID_TAG : PySem.W.nsIn K mainGlobals "VOID_TAG" = some (some (.str "void" t_VOID_TAG)))
    (kd_DOUBLE_BODIES : datIn K 9 (.ref a_DOUBLE_BODIES) = some c_DOUBLE_BODIES)
    (kd_DOUBLE_CONDITIONS : datIn K 9 (.ref a_DOUBLE_CONDITIONS) = some c_DOUBLE_CONDITIONS)
    {cUnknownName ix0 : Addr} {ocx0 kVx0 dcx0 pmx0 cdx0 ctx0 : Value} {odx0 anx0 : Option Addr} {slx0 : Array (Option Value)}
    (ax0 : PySem.W.nsIn K mainGlobals "UnknownName" = some (some (.ref cUnknownName)))
    (bx0 : PySem.W.findIn K (.ref cUnknownName) "__init__" = some (some (.ref ix0)))
    (lx0 : K.lookup ix0 = some ⟨ocx0, odx0, .func (PySem.W.fnOf "__init__" "UnknownName.__init__" (defArgs (inClass (topS 9) 0)) (defBody (inClass (topS 9) 0)) (defScope (inClass (topS 9) 0)) .none kVx0 dcx0 pmx0 anx0 cdx0 ctx0), slx0⟩)
    (cx0 : PySem.W.codeIn K cdx0 "UnknownName.__init__" = true)
    (kx0 : KX.xcOk K "ValueError.__new__" KX.veTail cUnknownName = true) (ky0 : XCM.oexB K cUnknownName = true) (kz0 : XCM.chkI K "path" cUnknownName ix0 = true)
    {cUnknownTag ix1 : Addr} {ocx1 kVx1 dcx1 pmx1 cdx1 ctx1 : Value} {odx1 anx1 : Option Addr} {slx1 : Array (Option Value)}
    (ax1 : PySem.W.nsIn K mainGlobals "UnknownTag" = some (some (.ref cUnknownTag)))
    (bx1 : PySem.W.findIn K (.ref cUnknownTag) "__init__" = some (some (.ref ix1)))
    (lx1 : K.lookup ix1 = some ⟨ocx1, odx1, .func (PySem.W.fnOf "__init__" "UnknownTag.__init__" (defArgs (inClass (topS 10) 0)) (defBody (inClass (topS 10) 0)) (defScope (inClass (topS 10) 0)) .none kVx1 dcx1 pmx1 anx1 cdx1 ctx1), slx1⟩)
    (cx1 : PySem.W.codeIn K cdx1 "UnknownTag.__init__" = true)
    (kx1 : KX.xcOk K "ValueError.__new__" KX.veTail cUnknownTag = true) (ky1 : XCM.oexB K cUnknownTag = true) (kz1 : XCM.chkI K "path" cUnknownTag ix1 = true)
    {cWrongCount ix2 : Addr} {ocx2 kVx2 dcx2 pmx2 cdx2 ctx2 : Value} {odx2 anx2 : Option Addr} {slx2 : Array (Option Value)}
    (ax2 : PySem.W.nsIn K mainGlobals "WrongCount" = some (some (.ref cWrongCount)))
    (bx2 : PySem.W.findIn K (.ref cWrongCount) "__init__" = some (some (.ref ix2)))
    (lx2 : K.lookup ix2 = some ⟨ocx2, odx2, .func (PySem.W.fnOf "__init__" "WrongCount.__init__" (defArgs (inClass (topS 11) 0)) (defBody (inClass (topS 11) 0)) (defScope (inClass (topS 11) 0)) .none kVx2 dcx2 pmx2 anx2 cdx2 ctx2), slx2⟩)
    (cx2 : PySem.W.codeIn K cdx2 "WrongCount.__init__" = true)
    (kx2 : KX.xcOk K "ValueError.__new__" KX.veTail cWrongCount = true) (ky2 : XCM.oexB K cWrongCount = true) (kz2 : XCM.chkI K "path" cWrongCount ix2 = true)
    {cWrongSort ix3 : Addr} {ocx3 kVx3 dcx3 pmx3 cdx3 ctx3 : Value} {odx3 anx3 : Option Addr} {slx3 : Array (Option Value)}
    (ax3 : PySem.W.nsIn K mainGlobals "WrongSort" = some (some (.ref cWrongSort)))
    (bx3 : PySem.W.findIn K (.ref cWrongSort) "__init__" = some (some (.ref ix3)))
    (lx3 : K.lookup ix3 = some ⟨ocx3, odx3, .func (PySem.W.fnOf "__init__" "WrongSort.__init__" (defArgs (inClass (topS 12) 0)) (defBody (inClass (topS 12) 0)) (defScope (inClass (topS 12) 0)) .none kVx3 dcx3 pmx3 anx3 cdx3 ctx3), slx3⟩)
    (cx3 : PySem.W.codeIn K cdx3 "WrongSort.__init__" = true)
    (kx3 : KX.xcOk K "ValueError.__new__" KX.veTail cWrongSort = true) (ky3 : XCM.oexB K cWrongSort = true) (kz3 : XCM.chkI K "path" cWrongSort ix3 = true)
    {cWrongPlace ix4 : Addr} {ocx4 kVx4 dcx4 pmx4 cdx4 ctx4 : Value} {odx4 anx4 : Option Addr} {slx4 : Array (Option Value)}
    (ax4 : PySem.W.nsIn K mainGlobals "WrongPlace" = some (some (.ref cWrongPlace)))
    (bx4 : PySem.W.findIn K (.ref cWrongPlace) "__init__" = some (some (.ref ix4)))
    (lx4 : K.lookup ix4 = some ⟨ocx4, odx4, .func (PySem.W.fnOf "__init__" "WrongPlace.__init__" (defArgs (inClass (topS 13) 0)) (defBody (inClass (topS 13) 0)) (defScope (inClass (topS 13) 0)) .none kVx4 dcx4 pmx4 anx4 cdx4 ctx4), slx4⟩)
    (cx4 : PySem.W.codeIn K cdx4 "WrongPlace.__init__" = true)
    (kx4 : KX.xcOk K "ValueError.__new__" KX.veTail cWrongPlace = true) (ky4 : XCM.oexB K cWrongPlace = true) (kz4 : XCM.chkI K "path" cWrongPlace ix4 = true)
    {cR : Addr} (ac_RoundCallsError : PySem.W.nsIn K mainGlobals "RoundCallsError" = some (some (.ref cR)))
    (s1 : PySem.W.specialIn K (.ref cR) "__getattribute__" = some (some (.builtin "type.__getattribute__"))) (s2 : PySem.W.readsIn K cR (.type "type") = true) (s3 : PySem.W.findCls K (.ref cR) (.type "type") "__init__" = some (.val (.builtin "ValueError.__init__")))
    (g1 : PySem.W.specialIn K (.builtin "object.__class__") "__get__" = some (some (.builtin "getset_descriptor.__get__"))) (g2 : PySem.W.takesIn K (.builtin "object.__class__") = some true)
    (sys : SysK K)
    (hfa : mg "law" = some (.ref fa)) :
    ∃ fd : FuncData, (∀ (s : Shared) (u : Value), BindsTo s fd ⟨[u], []⟩ [("_law_script", u)]) ∧ ∀ base : Heap, K.In base → base.Ns mainGlobals mg → Fg P w K mg base 27 fa fd ["_law_script"] (spLaw K) := by
  have e := hfa.symm.trans (PySem.W.mg_of X G ad27)
  cases e
  have m_all := PySem.W.mg_none_of X G n_all
  have m_dict := PySem.W.mg_none_of X G n_dict
  have m_enumerate := PySem.W.mg_none_of X G n_enumerate
  have m_len := PySem.W.mg_none_of X G n_len
  have m_list := PySem.W.mg_none_of X G n_list
  have m_range := PySem.W.mg_none_of X G n_range
  have m_repr := PySem.W.mg_none_of X G n_repr
  have m_set := PySem.W.mg_none_of X G n_set
  have m_sorted := PySem.W.mg_none_of X G n_sorted
  have m_tuple := PySem.W.mg_none_of X G n_tuple
  have c_RoundCallsError := PySem.W.mg_of X G ac_RoundCallsError
  have GC : KX.ClsRead K := ⟨g1, g2⟩
  have m_DOUBLE_BODIES := PySem.W.mg_of X G g_DOUBLE_BODIES
  have m_DOUBLE_CONDITIONS := PySem.W.mg_of X G g_DOUBLE_CONDITIONS
  have m_MAKE := PySem.W.mg_of X G g_MAKE
  have m_TEST_checking := PySem.W.mg_of X G g_TEST_checking
  have m_TEST_programs := PySem.W.mg_of X G g_TEST_programs
  have m_VOID_TAG := PySem.W.mg_of X G g_VOID_TAG
  have m_DOUBLE_BODIES_k := kdat_of kd_DOUBLE_BODIES
  have m_DOUBLE_CONDITIONS_k := kdat_of kd_DOUBLE_CONDITIONS
  have cl_FunctionChecker := cls_of cb_FunctionChecker
  have F0 := fun_mk (st := s_deck) ld0 cc0 kd0
  have bd0 := F0.binds (ps := ["_law_script"]) fun _ _ _ _ _ _ us hl => match us, hl with | [_], _ => rfl
  have F1 := fun_mk (st := s_draw) ld1 cc1 kd1
  have bd1 := F1.binds (ps := ["_law_deck_here", "_law_bound"]) fun _ _ _ _ _ _ us hl => match us, hl with | [_, _], _ => rfl
  have F2 := fun_mk (st := s_field_counts) ld2 cc2 kd2
  have bd2 := F2.binds (ps := ["signature"]) fun _ _ _ _ _ _ us hl => match us, hl with | [_], _ => rfl
  have F3 := fun_mk (st := s_pressed) ld3 cc3 kd3
  have bd3 := F3.binds (ps := ["ranks"]) fun _ _ _ _ _ _ us hl => match us, hl with | [_], _ => rfl
  have F4 := fun_mk (st := s_press_ranks) ld4 cc4 kd4
  have bd4 := F4.binds (ps := ["program"]) fun _ _ _ _ _ _ us hl => match us, hl with | [_], _ => rfl
  have F5 := fun_mk (st := s_require_name) ld5 cc5 kd5
  have bd5 := F5.binds (ps := ["condition", "path"]) fun _ _ _ _ _ _ us hl => match us, hl with | [_, _], _ => rfl
  have F6 := fun_mk (st := s_require_tag) ld6 cc6 kd6
  have bd6 := F6.binds (ps := ["condition", "path"]) fun _ _ _ _ _ _ us hl => match us, hl with | [_, _], _ => rfl
  have F7 := fun_mk (st := s_require_count) ld7 cc7 kd7
  have bd7 := F7.binds (ps := ["condition", "path"]) fun _ _ _ _ _ _ us hl => match us, hl with | [_, _], _ => rfl
  have F8 := fun_mk (st := s_require_sort) ld8 cc8 kd8
  have bd8 := F8.binds (ps := ["condition", "path"]) fun _ _ _ _ _ _ us hl => match us, hl with | [_, _], _ => rfl
  have F9 := fun_mk (st := s_require_place) ld9 cc9 kd9
  have bd9 := F9.binds (ps := ["condition", "path"]) fun _ _ _ _ _ _ us hl => match us, hl with | [_, _], _ => rfl
  have F10 := fun_mk (st := s_FunctionChecker___init__) ld10 cc10 kd10
  have bd10 := F10.binds (ps := ["self", "counts", "functions", "group_number", "sort"]) fun _ _ _ _ _ _ us hl => match us, hl with | [_, _, _, _, _], _ => rfl
  have F11 := fun_mk (st := s_FunctionChecker_check_function) ld11 cc11 kd11
  have bd11 := F11.binds (ps := ["self", "part", "path", "sort"]) fun _ _ _ _ _ _ us hl => match us, hl with | [_, _, _, _], _ => rfl
  have F12 := fun_mk (st := s_FunctionChecker_check_own_arguments) ld12 cc12 kd12
  have bd12 := F12.binds (ps := ["self", "part", "path"]) fun _ _ _ _ _ _ us hl => match us, hl with | [_, _, _], _ => rfl
  have F13 := fun_mk (st := s_FunctionChecker_check_term) ld13 cc13 kd13
  have bd13 := F13.binds (ps := ["self", "term", "path", "names", "may_call"]) fun _ _ _ _ _ _ us hl => match us, hl with | [_, _, _, _, _], _ => rfl
  have F14 := fun_mk (st := s_FunctionChecker_check_terms) ld14 cc14 kd14
  have bd14 := F14.binds (ps := ["self", "terms", "path", "names", "may_call"]) fun _ _ _ _ _ _ us hl => match us, hl with | [_, _, _, _, _], _ => rfl
  have F15 := fun_mk (st := s_FunctionChecker_check_use) ld15 cc15 kd15
  have bd15 := F15.binds (ps := ["self", "part", "path", "names", "sort"]) fun _ _ _ _ _ _ us hl => match us, hl with | [_, _, _, _, _], _ => rfl
  have F16 := fun_mk (st := s_FunctionChecker_check_call) ld16 cc16 kd16
  have bd16 := F16.binds (ps := ["self", "body", "path", "names"]) fun _ _ _ _ _ _ us hl => match us, hl with | [_, _, _, _], _ => rfl
  have F17 := fun_mk (st := s_FunctionChecker_check_condition) ld17 cc17 kd17
  have bd17 := F17.binds (ps := ["self", "condition", "path", "names"]) fun _ _ _ _ _ _ us hl => match us, hl with | [_, _, _, _], _ => rfl
  have F18 := fun_mk (st := s_FunctionChecker_check_branch) ld18 cc18 kd18
  have bd18 := F18.binds (ps := ["self", "branch", "path", "names"]) fun _ _ _ _ _ _ us hl => match us, hl with | [_, _, _, _], _ => rfl
  have F19 := fun_mk (st := s_FunctionChecker_check_case) ld19 cc19 kd19
  have bd19 := F19.binds (ps := ["self", "body", "path", "names"]) fun _ _ _ _ _ _ us hl => match us, hl with | [_, _, _, _], _ => rfl
  have F20 := fun_mk (st := s_FunctionChecker_check_other_body) ld20 cc20 kd20
  have bd20 := F20.binds (ps := ["self", "body", "path", "names"]) fun _ _ _ _ _ _ us hl => match us, hl with | [_, _, _, _], _ => rfl
  have F21 := fun_mk (st := s_FunctionChecker_check_body) ld21 cc21 kd21
  have bd21 := F21.binds (ps := ["self", "body", "path", "names"]) fun _ _ _ _ _ _ us hl => match us, hl with | [_, _, _, _], _ => rfl
  have F22 := fun_mk (st := s_check_program) ld22 cc22 kd22
  have bd22 := F22.binds (ps := ["program"]) fun _ _ _ _ _ _ us hl => match us, hl with | [_], _ => rfl
  have F23 := fun_mk (st := s_pick) ld23 cc23 kd23
  have bd23 := F23.binds (ps := ["_law_deck_here", "_law_items"]) fun _ _ _ _ _ _ us hl => match us, hl with | [_, _], _ => rfl
  have F24 := fun_mk (st := s_ranks) ld24 cc24 kd24
  have bd24 := F24.binds (ps := ["_law_deck_here", "_law_count"]) fun _ _ _ _ _ _ us hl => match us, hl with | [_, _], _ => rfl
  have F25 := fun_mk (st := s_l_pressed) ld25 cc25 kd25
  have bd25 := F25.binds (ps := ["_law_ranks_here"]) fun _ _ _ _ _ _ us hl => match us, hl with | [_], _ => rfl
  have F26 := fun_mk (st := s_functions) ld26 cc26 kd26
  have bd26 := F26.binds (ps := ["_law_deck_here", "_law_letter", "_law_ranks_here"]) fun _ _ _ _ _ _ us hl => match us, hl with | [_, _, _], _ => rfl
  have F27 := fun_mk (st := s_law) ld27 cc27 kd27
  refine ⟨PySem.W.fnOf "law" "law" (defArgs s_law) (defBody s_law) (defScope s_law) .none kV27 dc27 pm27 an27 cd27 ct27, fun s u => .of_eq rfl, fun base hK hG => ?_⟩
  have T_UnknownName : XC P w K mg base "UnknownName" "path" "ValueError.__new__" KX.veTail cUnknownName := XCM.xc_mk (st := (inClass (topS 9) 0)) (PySem.W.mg_of X G ax0) kx0 ky0 bx0 kz0 lx0 cx0 c_RoundCallsError s1 s2 s3 ⟨rfl, rfl, rfl, by decide +kernel, rfl, by decide +kernel, by decide +kernel⟩ rfl (by rfl) (by rfl) (by rfl) (by decide) (by decide) (fun _ => ⟨_, rfl⟩) (fun us hl => match us, hl with | [_, _], _ => rfl)
  have T_UnknownTag : XC P w K mg base "UnknownTag" "path" "ValueError.__new__" KX.veTail cUnknownTag := XCM.xc_mk (st := (inClass (topS 10) 0)) (PySem.W.mg_of X G ax1) kx1 ky1 bx1 kz1 lx1 cx1 c_RoundCallsError s1 s2 s3 ⟨rfl, rfl, rfl, by decide +kernel, rfl, by decide +kernel, by decide +kernel⟩ rfl (by rfl) (by rfl) (by rfl) (by decide) (by decide) (fun _ => ⟨_, rfl⟩) (fun us hl => match us, hl with | [_, _], _ => rfl)
  have T_WrongCount : XC P w K mg base "WrongCount" "path" "ValueError.__new__" KX.veTail cWrongCount := XCM.xc_mk (st := (inClass (topS 11) 0)) (PySem.W.mg_of X G ax2) kx2 ky2 bx2 kz2 lx2 cx2 c_RoundCallsError s1 s2 s3 ⟨rfl, rfl, rfl, by decide +kernel, rfl, by decide +kernel, by decide +kernel⟩ rfl (by rfl) (by rfl) (by rfl) (by decide) (by decide) (fun _ => ⟨_, rfl⟩) (fun us hl => match us, hl with | [_, _], _ => rfl)
  have T_WrongSort : XC P w K mg base "WrongSort" "path" "ValueError.__new__" KX.veTail cWrongSort := XCM.xc_mk (st := (inClass (topS 12) 0)) (PySem.W.mg_of X G ax3) kx3 ky3 bx3 kz3 lx3 cx3 c_RoundCallsError s1 s2 s3 ⟨rfl, rfl, rfl, by decide +kernel, rfl, by decide +kernel, by decide +kernel⟩ rfl (by rfl) (by rfl) (by rfl) (by decide) (by decide) (fun _ => ⟨_, rfl⟩) (fun us hl => match us, hl with | [_, _], _ => rfl)
  have T_WrongPlace : XC P w K mg base "WrongPlace" "path" "ValueError.__new__" KX.veTail cWrongPlace := XCM.xc_mk (st := (inClass (topS 13) 0)) (PySem.W.mg_of X G ax4) kx4 ky4 bx4 kz4 lx4 cx4 c_RoundCallsError s1 s2 s3 ⟨rfl, rfl, rfl, by decide +kernel, rfl, by decide +kernel, by decide +kernel⟩ rfl (by rfl) (by rfl) (by rfl) (by decide) (by decide) (fun _ => ⟨_, rfl⟩) (fun us hl => match us, hl with | [_, _], _ => rfl)
  have A0 : Fg P w K mg base 1 _ _ ["_law_script"] (spDeckH K) := ok_deck F0 m_list
  have D0 : Df P w K mg base 1 "_law_deck" ["_law_script"] (spDeckH K) := ⟨⟨_, _, A0, PySem.W.mg_of X G ad0, kd0, bd0⟩⟩
  have A1 : Fg P w K mg base 1 _ _ ["_law_deck_here", "_law_bound"] (spOf K 2 (F_draw)) := ok_draw F1
  have D1 : Df P w K mg base 1 "_law_draw" ["_law_deck_here", "_law_bound"] (spOf K 2 (F_draw)) := ⟨⟨_, _, A1, PySem.W.mg_of X G ad1, kd1, bd1⟩⟩
  have A2 : Fg P w K mg base 1 _ _ ["signature"] (spOf K 1 (F_field_counts)) := ok_field_counts F2 m_dict m_VOID_TAG
  have D2 : Df P w K mg base 1 "field_counts" ["signature"] (spOf K 1 (F_field_counts)) := ⟨⟨_, _, A2, PySem.W.mg_of X G ad2, kd2, bd2⟩⟩
  have A3 : Fg P w K mg base 1 _ _ ["ranks"] (spOf K 1 (F_pressed)) := ok_pressed F3 m_set m_sorted
  have D3 : Df P w K mg base 1 "pressed" ["ranks"] (spOf K 1 (F_pressed)) := ⟨⟨_, _, A3, PySem.W.mg_of X G ad3, kd3, bd3⟩⟩
  have A4 : Fg P w K mg base 2 _ _ ["program"] (spOf K 1 (F_press)) := ok_press_ranks F4 D3 m_tuple m_TEST_programs (by omega)
  have D4 : Df P w K mg base 2 "press_ranks" ["program"] (spOf K 1 (F_press)) := ⟨⟨_, _, A4, PySem.W.mg_of X G ad4, kd4, bd4⟩⟩
  have DK4_program : DfK P w K mg base 2 "press_ranks" ["program"] ["program"] [0] (spOf K 1 (F_press)) := ⟨⟨_, _, A4, PySem.W.mg_of X G ad4, kd4, kb F4 (ps := ["program"]) (ks := ["program"]) (π := [0]) fun _ _ _ _ _ _ us hl => match us, hl with | [_], _ => rfl⟩⟩
  have A5 : Fgx P w K mg base 3 _ _ ["condition", "path"] (spX K 2 (F_req (xcOf cUnknownName cUnknownTag cWrongCount cWrongSort cWrongPlace) .nm)) := ok_require_name F5 T_UnknownName (by omega)
  have D5 : DfX P w K mg base 3 "require_name" ["condition", "path"] (spX K 2 (F_req (xcOf cUnknownName cUnknownTag cWrongCount cWrongSort cWrongPlace) .nm)) := ⟨⟨_, _, A5, PySem.W.mg_of X G ad5, kd5, bd5⟩⟩
  have A6 : Fgx P w K mg base 3 _ _ ["condition", "path"] (spX K 2 (F_req (xcOf cUnknownName cUnknownTag cWrongCount cWrongSort cWrongPlace) .tg)) := ok_require_tag F6 T_UnknownTag (by omega)
  have D6 : DfX P w K mg base 3 "require_tag" ["condition", "path"] (spX K 2 (F_req (xcOf cUnknownName cUnknownTag cWrongCount cWrongSort cWrongPlace) .tg)) := ⟨⟨_, _, A6, PySem.W.mg_of X G ad6, kd6, bd6⟩⟩
  have A7 : Fgx P w K mg base 3 _ _ ["condition", "path"] (spX K 2 (F_req (xcOf cUnknownName cUnknownTag cWrongCount cWrongSort cWrongPlace) .ct)) := ok_require_count F7 T_WrongCount (by omega)
  have D7 : DfX P w K mg base 3 "require_count" ["condition", "path"] (spX K 2 (F_req (xcOf cUnknownName cUnknownTag cWrongCount cWrongSort cWrongPlace) .ct)) := ⟨⟨_, _, A7, PySem.W.mg_of X G ad7, kd7, bd7⟩⟩
  have A8 : Fgx P w K mg base 3 _ _ ["condition", "path"] (spX K 2 (F_req (xcOf cUnknownName cUnknownTag cWrongCount cWrongSort cWrongPlace) .so)) := ok_require_sort F8 T_WrongSort (by omega)
  have D8 : DfX P w K mg base 3 "require_sort" ["condition", "path"] (spX K 2 (F_req (xcOf cUnknownName cUnknownTag cWrongCount cWrongSort cWrongPlace) .so)) := ⟨⟨_, _, A8, PySem.W.mg_of X G ad8, kd8, bd8⟩⟩
  have A9 : Fgx P w K mg base 3 _ _ ["condition", "path"] (spX K 2 (F_req (xcOf cUnknownName cUnknownTag cWrongCount cWrongSort cWrongPlace) .pl)) := ok_require_place F9 T_WrongPlace (by omega)
  have D9 : DfX P w K mg base 3 "require_place" ["condition", "path"] (spX K 2 (F_req (xcOf cUnknownName cUnknownTag cWrongCount cWrongSort cWrongPlace) .pl)) := ⟨⟨_, _, A9, PySem.W.mg_of X G ad9, kd9, bd9⟩⟩
  have A10 : Fgx P w K mg base 1 _ _ ["self", "counts", "functions", "group_number", "sort"] (spO K 5 (F_init C_FunctionChecker)) := ok_FunctionChecker___init__ F10 cl_FunctionChecker (no_of nb_FunctionChecker 0) (no_of nb_FunctionChecker 1) (no_of nb_FunctionChecker 2) (no_of nb_FunctionChecker 3)
  have D10 : DfC P w K mg base 1 "FunctionChecker" C_FunctionChecker ["self", "counts", "functions", "group_number", "sort"] (spO K 5 (F_init C_FunctionChecker)) := dfC_mk A10 (mk_of km10 ad10) (PySem.W.mg_of X G ag_FunctionChecker) bd10
  have A11 : Fgx P w K mg base 4 _ _ ["self", "part", "path", "sort"] (spO K 4 (F_function C_FunctionChecker (xcOf cUnknownName cUnknownTag cWrongCount cWrongSort cWrongPlace))) := ok_FunctionChecker_check_function F11 cl_FunctionChecker (no_of nb_FunctionChecker 1) (no_of nb_FunctionChecker 2) D5 D7 D8 m_len (by omega) (by omega) (by omega)
  have D11 : DfM P w K mg base 4 C_FunctionChecker "check_function" ["self", "part", "path", "sort"] (spO K 4 (F_function C_FunctionChecker (xcOf cUnknownName cUnknownTag cWrongCount cWrongSort cWrongPlace))) := dfM_mk A11 cl_FunctionChecker ad11 kf11 kd11 bd11
  have A12 : Fgx P w K mg base 4 _ _ ["self", "part", "path"] (spO K 3 (F_own (xcOf cUnknownName cUnknownTag cWrongCount cWrongSort cWrongPlace))) := ok_FunctionChecker_check_own_arguments F12 D9 m_all (by omega)
  have D12 : DfM P w K mg base 4 C_FunctionChecker "check_own_arguments" ["self", "part", "path"] (spO K 3 (F_own (xcOf cUnknownName cUnknownTag cWrongCount cWrongSort cWrongPlace))) := dfM_mk A12 cl_FunctionChecker ad12 kf12 kd12 bd12
  have A13 : Fgx P w K mg base 10 _ _ ["self", "term", "path", "names", "may_call"] (spO K 5 (F_term C_FunctionChecker (xcOf cUnknownName cUnknownTag cWrongCount cWrongSort cWrongPlace) 3)) := fgx_recC (l := 4) 2 (F := F_term C_FunctionChecker (xcOf cUnknownName cUnknownTag cWrongCount cWrongSort cWrongPlace)) rfl (fun j Z => by
    have DZ : DfM P w K mg base (4 + 2 * j) C_FunctionChecker "check_term" ["self", "term", "path", "names", "may_call"] (spO K 5 (F_term C_FunctionChecker (xcOf cUnknownName cUnknownTag cWrongCount cWrongSort cWrongPlace) j)) := dfM_mk Z cl_FunctionChecker ad13 kf13 kd13 bd13
    have A14 : Fgx P w K mg base (4 + 2 * j + 1) _ _ ["self", "terms", "path", "names", "may_call"] (spO K 5 (mkTerms C_FunctionChecker (F_term C_FunctionChecker (xcOf cUnknownName cUnknownTag cWrongCount cWrongSort cWrongPlace) j))) := ok_FunctionChecker_check_terms F14 cl_FunctionChecker DZ m_enumerate (by omega)
    have D14 : DfM P w K mg base (4 + 2 * j + 1) C_FunctionChecker "check_terms" ["self", "terms", "path", "names", "may_call"] (spO K 5 (mkTerms C_FunctionChecker (F_term C_FunctionChecker (xcOf cUnknownName cUnknownTag cWrongCount cWrongSort cWrongPlace) j))) := dfM_mk A14 cl_FunctionChecker ad14 kf14 kd14 bd14
    exact ok_FunctionChecker_check_term F13 cl_FunctionChecker (no_of nb_FunctionChecker 0) D5 D6 D7 D9 D14 D11 D12 m_len m_MAKE (by omega) (by omega) (by omega) (by omega) (by omega) (by omega) (by omega)) 3
  have D13 : DfM P w K mg base 10 C_FunctionChecker "check_term" ["self", "term", "path", "names", "may_call"] (spO K 5 (F_term C_FunctionChecker (xcOf cUnknownName cUnknownTag cWrongCount cWrongSort cWrongPlace) 3)) := dfM_mk A13 cl_FunctionChecker ad13 kf13 kd13 bd13
  have A14 : Fgx P w K mg base 11 _ _ ["self", "terms", "path", "names", "may_call"] (spO K 5 (F_terms C_FunctionChecker (xcOf cUnknownName cUnknownTag cWrongCount cWrongSort cWrongPlace) 3)) := ok_FunctionChecker_check_terms F14 cl_FunctionChecker D13 m_enumerate (by omega)
  have D14 : DfM P w K mg base 11 C_FunctionChecker "check_terms" ["self", "terms", "path", "names", "may_call"] (spO K 5 (F_terms C_FunctionChecker (xcOf cUnknownName cUnknownTag cWrongCount cWrongSort cWrongPlace) 3)) := dfM_mk A14 cl_FunctionChecker ad14 kf14 kd14 bd14
  have A15 : Fgx P w K mg base 12 _ _ ["self", "part", "path", "names", "sort"] (spO K 5 (F_use C_FunctionChecker (xcOf cUnknownName cUnknownTag cWrongCount cWrongSort cWrongPlace) 3)) := ok_FunctionChecker_check_use F15 cl_FunctionChecker D9 D14 D11 (by omega) (by omega) (by omega)
  have D15 : DfM P w K mg base 12 C_FunctionChecker "check_use" ["self", "part", "path", "names", "sort"] (spO K 5 (F_use C_FunctionChecker (xcOf cUnknownName cUnknownTag cWrongCount cWrongSort cWrongPlace) 3)) := dfM_mk A15 cl_FunctionChecker ad15 kf15 kd15 bd15
  have A16 : Fgx P w K mg base 12 _ _ ["self", "body", "path", "names"] (spO K 4 (F_call C_FunctionChecker (xcOf cUnknownName cUnknownTag cWrongCount cWrongSort cWrongPlace) 3)) := ok_FunctionChecker_check_call F16 cl_FunctionChecker (no_of nb_FunctionChecker 3) D9 D14 D12 D11 (by omega) (by omega) (by omega) (by omega)
  have D16 : DfM P w K mg base 12 C_FunctionChecker "check_call" ["self", "body", "path", "names"] (spO K 4 (F_call C_FunctionChecker (xcOf cUnknownName cUnknownTag cWrongCount cWrongSort cWrongPlace) 3)) := dfM_mk A16 cl_FunctionChecker ad16 kf16 kd16 bd16
  have A17 : Fgx P w K mg base 16 _ _ ["self", "condition", "path", "names"] (spO K 4 (F_condition C_FunctionChecker (xcOf cUnknownName cUnknownTag cWrongCount cWrongSort cWrongPlace) 3 4)) := fgx_recC (l := 12) 1 (F := F_condition C_FunctionChecker (xcOf cUnknownName cUnknownTag cWrongCount cWrongSort cWrongPlace) 3) rfl (fun j Z => by
    have DZ : DfM P w K mg base (12 + 1 * j) C_FunctionChecker "check_condition" ["self", "condition", "path", "names"] (spO K 4 (F_condition C_FunctionChecker (xcOf cUnknownName cUnknownTag cWrongCount cWrongSort cWrongPlace) 3 j)) := dfM_mk Z cl_FunctionChecker ad17 kf17 kd17 bd17
    exact ok_FunctionChecker_check_condition F17 cl_FunctionChecker (no_of nb_FunctionChecker 0) D6 D15 D13 DZ m_DOUBLE_CONDITIONS m_DOUBLE_CONDITIONS_k m_TEST_checking (by omega) (by omega) (by omega) (by omega)) 4
  have D17 : DfM P w K mg base 16 C_FunctionChecker "check_condition" ["self", "condition", "path", "names"] (spO K 4 (F_condition C_FunctionChecker (xcOf cUnknownName cUnknownTag cWrongCount cWrongSort cWrongPlace) 3 4)) := dfM_mk A17 cl_FunctionChecker ad17 kf17 kd17 bd17
  have A21 : Fgx P w K mg base 25 _ _ ["self", "body", "path", "names"] (spO K 4 (F_body C_FunctionChecker (xcOf cUnknownName cUnknownTag cWrongCount cWrongSort cWrongPlace) 3 3)) := fgx_recC (l := 16) 3 (F := F_body C_FunctionChecker (xcOf cUnknownName cUnknownTag cWrongCount cWrongSort cWrongPlace) 3) rfl (fun j Z => by
    have DZ : DfM P w K mg base (16 + 3 * j) C_FunctionChecker "check_body" ["self", "body", "path", "names"] (spO K 4 (F_body C_FunctionChecker (xcOf cUnknownName cUnknownTag cWrongCount cWrongSort cWrongPlace) 3 j)) := dfM_mk Z cl_FunctionChecker ad21 kf21 kd21 bd21
    have A18 : Fgx P w K mg base (16 + 3 * j + 1) _ _ ["self", "branch", "path", "names"] (spO K 4 (mkBranch C_FunctionChecker (xcOf cUnknownName cUnknownTag cWrongCount cWrongSort cWrongPlace) (F_body C_FunctionChecker (xcOf cUnknownName cUnknownTag cWrongCount cWrongSort cWrongPlace) 3 j))) := ok_FunctionChecker_check_branch F18 cl_FunctionChecker (no_of nb_FunctionChecker 0) D6 D7 DZ m_len m_VOID_TAG (by omega) (by omega) (by omega)
    have D18 : DfM P w K mg base (16 + 3 * j + 1) C_FunctionChecker "check_branch" ["self", "branch", "path", "names"] (spO K 4 (mkBranch C_FunctionChecker (xcOf cUnknownName cUnknownTag cWrongCount cWrongSort cWrongPlace) (F_body C_FunctionChecker (xcOf cUnknownName cUnknownTag cWrongCount cWrongSort cWrongPlace) 3 j))) := dfM_mk A18 cl_FunctionChecker ad18 kf18 kd18 bd18
    have A19 : Fgx P w K mg base (16 + 3 * j + 2) _ _ ["self", "body", "path", "names"] (spO K 4 (mkCase C_FunctionChecker (xcOf cUnknownName cUnknownTag cWrongCount cWrongSort cWrongPlace) (F_body C_FunctionChecker (xcOf cUnknownName cUnknownTag cWrongCount cWrongSort cWrongPlace) 3 j))) := ok_FunctionChecker_check_case F19 cl_FunctionChecker D5 DZ D18 m_enumerate (by omega) (by omega) (by omega)
    have D19 : DfM P w K mg base (16 + 3 * j + 2) C_FunctionChecker "check_case" ["self", "body", "path", "names"] (spO K 4 (mkCase C_FunctionChecker (xcOf cUnknownName cUnknownTag cWrongCount cWrongSort cWrongPlace) (F_body C_FunctionChecker (xcOf cUnknownName cUnknownTag cWrongCount cWrongSort cWrongPlace) 3 j))) := dfM_mk A19 cl_FunctionChecker ad19 kf19 kd19 bd19
    have A20 : Fgx P w K mg base (16 + 3 * j + 1) _ _ ["self", "body", "path", "names"] (spO K 4 (mkOther C_FunctionChecker (xcOf cUnknownName cUnknownTag cWrongCount cWrongSort cWrongPlace) 3 (F_body C_FunctionChecker (xcOf cUnknownName cUnknownTag cWrongCount cWrongSort cWrongPlace) 3 j))) := ok_FunctionChecker_check_other_body F20 cl_FunctionChecker (no_of nb_FunctionChecker 0) (no_of nb_FunctionChecker 3) D5 D6 D16 D15 DZ m_DOUBLE_BODIES m_DOUBLE_BODIES_k (by omega) (by omega) (by omega) (by omega) (by omega)
    have D20 : DfM P w K mg base (16 + 3 * j + 1) C_FunctionChecker "check_other_body" ["self", "body", "path", "names"] (spO K 4 (mkOther C_FunctionChecker (xcOf cUnknownName cUnknownTag cWrongCount cWrongSort cWrongPlace) 3 (F_body C_FunctionChecker (xcOf cUnknownName cUnknownTag cWrongCount cWrongSort cWrongPlace) 3 j))) := dfM_mk A20 cl_FunctionChecker ad20 kf20 kd20 bd20
    exact ok_FunctionChecker_check_body F21 cl_FunctionChecker (no_of nb_FunctionChecker 3) D19 D17 DZ D13 D20 m_MAKE (by omega) (by omega) (by omega) (by omega) (by omega)) 3
  have D21 : DfM P w K mg base 25 C_FunctionChecker "check_body" ["self", "body", "path", "names"] (spO K 4 (F_body C_FunctionChecker (xcOf cUnknownName cUnknownTag cWrongCount cWrongSort cWrongPlace) 3 3)) := dfM_mk A21 cl_FunctionChecker ad21 kf21 kd21 bd21
  have A22 : Fgx P w K mg base 26 _ _ ["program"] (spX K 1 (F_check C_FunctionChecker (xcOf cUnknownName cUnknownTag cWrongCount cWrongSort cWrongPlace))) := fgx_forg (ok_check_program F22 cl_FunctionChecker D2 D10 D21 m_enumerate m_len (by omega) (by omega) (by omega))
  have D22 : DfX P w K mg base 26 "check_program" ["program"] (spX K 1 (F_check C_FunctionChecker (xcOf cUnknownName cUnknownTag cWrongCount cWrongSort cWrongPlace))) := ⟨⟨_, _, A22, PySem.W.mg_of X G ad22, kd22, bd22⟩⟩
  have A23 : Fg P w K mg base 2 _ _ ["_law_deck_here", "_law_items"] (spOf K 2 (F_pick)) := ok_pick F23 D1 m_len (by omega)
  have D23 : Df P w K mg base 2 "_law_pick" ["_law_deck_here", "_law_items"] (spOf K 2 (F_pick)) := ⟨⟨_, _, A23, PySem.W.mg_of X G ad23, kd23, bd23⟩⟩
  have A24 : Fg P w K mg base 2 _ _ ["_law_deck_here", "_law_count"] (spOf K 2 (F_ranks)) := ok_ranks F24 D1 m_range (by omega)
  have D24 : Df P w K mg base 2 "_law_ranks" ["_law_deck_here", "_law_count"] (spOf K 2 (F_ranks)) := ⟨⟨_, _, A24, PySem.W.mg_of X G ad24, kd24, bd24⟩⟩
  have A25 : Fg P w K mg base 1 _ _ ["_law_ranks_here"] (spOf K 1 (F_l_pressed)) := ok_l_pressed F25 m_range
  have D25 : Df P w K mg base 1 "_law_pressed" ["_law_ranks_here"] (spOf K 1 (F_l_pressed)) := ⟨⟨_, _, A25, PySem.W.mg_of X G ad25, kd25, bd25⟩⟩
  have A26 : Fg P w K mg base 3 _ _ ["_law_deck_here", "_law_letter", "_law_ranks_here"] (spOf K 3 (F_functions)) := ok_functions F26 D23 m_len m_range m_tuple (by omega)
  have D26 : Df P w K mg base 3 "_law_functions" ["_law_deck_here", "_law_letter", "_law_ranks_here"] (spOf K 3 (F_functions)) := ⟨⟨_, _, A26, PySem.W.mg_of X G ad26, kd26, bd26⟩⟩
  exact ok_law F27 D0 D4 D1 D24 D26 D25 D22 DK4_program m_len m_range m_repr m_tuple sys (by omega) (by omega) (by omega) (by omega) (by omega) (by omega) (by omega) (law_holds C_FunctionChecker (xcOf cUnknownName cUnknownTag cWrongCount cWrongSort cWrongPlace))
end
end K58

open PySem PySem.W PyProof.Rows
set_option Elab.async false
set_option maxRecDepth 100000
set_option maxHeartbeats 0
open_top head for PySem.Challenge.rw_roundcalls_k58_pressed_ranks

set_option Elab.async false
set_option linter.all false
set_option maxRecDepth 100000
set_option pp.maxSteps 60
open PySem PySem.W PyProof.Rows
noncomputable def o1 (p : Params) : Obj := (boot_heap p).objs.getD 1 default
noncomputable def KS (p : Params) : Frag := (fun (K : Frag) (_ : K = (nat_lit 1, o1 p) :: head.heap_39 p) => K) _ (by delta head.heap_39; exact rfl)
def asS : List Addr := 1 :: [2,3,15,17,18,20,21,22,24,25,27,28,29,32,33,34,41,42,43,44,47,54,56,57,59,60,61,62,63,66,73,75,76,78,79,80,81,82,85,92,94,95,97,98,99,100,101,104,111,113,114,116,117,118,119,120,123,130,132,133,135,136,137,138,139,142,143,144,146,147,149,150,151,153,154,156,157,158,160,161,163,164,165,167,168,170,171,172,174,175,177,178,186,188,189,191,192,193,195,196,198,199,200,203,204,205,207,208,210,211,212,214,215,217,218,219,221,222,224,225,226,228,229,231,232,233,235,236,238,239,240,242,243,245,246,247,249,250,252,253,254,256,257,259,260,261,263,264,266,267,268,269,270,271,272,275,278,279,280,282,283,285,286,287,289,290,292,293,294,296,297,299,300,301,304,305,306,309,310,311,313,314,316,317,318,321,322]
theorem sysc (p : Params) : (o1 p).cls = .type "dict" := by kernel_rfl
theorem sysK (p : Params) : DL.SysK (KS p) := ⟨o1 p, rfl, sysc p⟩
set_option maxHeartbeats 0 in
theorem PySem.Challenge.cw_roundcalls_k58_pressed_ranks_holds : PySem.Challenge.rw_roundcalls_k58_pressed_ranks.Holds := by
  w_on; o_law
  o_head (kHook KS asS (fun _ => by kernel_rfl))
  case hw => w_witness2
  k_fill
  refine GG.walk_go (l := PySem.Challenge.rw_roundcalls_k58_pressed_ranks) (n := 63) (k := 27) (sp := DL.spLaw) (x := "_law_script") rfl (by decide) rfl ⟨⟨rfl, by decide, by decide⟩, rfl⟩ (fun w h Y => PySem.W.kIn_of Y) ?F (fun K H a ns hl _ hS => ⟨a, ns, rfl, hS, hl, fun _ h => absurd h List.not_mem_nil, fun _ => rfl⟩)
  case F =>
    intro w mg fa h KX G hmg
    refine' K58.all_mk KX G ?ag_FunctionChecker ?cb_FunctionChecker ?nb_FunctionChecker ?ad0 ?ld0 ?cc0 ?kd0 ?ad1 ?ld1 ?cc1 ?kd1 ?ad2 ?ld2 ?cc2 ?kd2 ?ad3 ?ld3 ?cc3 ?kd3 ?ad4 ?ld4 ?cc4 ?kd4 ?ad5 ?ld5 ?cc5 ?kd5 ?ad6 ?ld6 ?cc6 ?kd6 ?ad7 ?ld7 ?cc7 ?kd7 ?ad8 ?ld8 ?cc8 ?kd8 ?ad9 ?ld9 ?cc9 ?kd9 ?ad10 ?ld10 ?cc10 ?kd10 ?kf10 ?km10 ?ad11 ?ld11 ?cc11 ?kd11 ?kf11 ?ad12 ?ld12 ?cc12 ?kd12 ?kf12 ?ad13 ?ld13 ?cc13 ?kd13 ?kf13 ?ad14 ?ld14 ?cc14 ?kd14 ?kf14 ?ad15 ?ld15 ?cc15 ?kd15 ?kf15 ?ad16 ?ld16 ?cc16 ?kd16 ?kf16 ?ad17 ?ld17 ?cc17 ?kd17 ?kf17 ?ad18 ?ld18 ?cc18 ?kd18 ?kf18 ?ad19 ?ld19 ?cc19 ?kd19 ?kf19 ?ad20 ?ld20 ?cc20 ?kd20 ?kf20 ?ad21 ?ld21 ?cc21 ?kd21 ?kf21 ?ad22 ?ld22 ?cc22 ?kd22 ?ad23 ?ld23 ?cc23 ?kd23 ?ad24 ?ld24 ?cc24 ?kd24 ?ad25 ?ld25 ?cc25 ?kd25 ?ad26 ?ld26 ?cc26 ?kd26 ?ad27 ?ld27 ?cc27 ?kd27 ?n_all ?n_dict ?n_enumerate ?n_len ?n_list ?n_range ?n_repr ?n_set ?n_sorted ?n_tuple ?g_DOUBLE_BODIES ?g_DOUBLE_CONDITIONS ?g_MAKE ?g_TEST_checking ?g_TEST_programs ?g_VOID_TAG ?kd_DOUBLE_BODIES ?kd_DOUBLE_CONDITIONS ?ax0 ?bx0 ?lx0 ?cx0 ?kx0 ?ky0 ?kz0 ?ax1 ?bx1 ?lx1 ?cx1 ?kx1 ?ky1 ?kz1 ?ax2 ?bx2 ?lx2 ?cx2 ?kx2 ?ky2 ?kz2 ?ax3 ?bx3 ?lx3 ?cx3 ?kx3 ?ky3 ?kz3 ?ax4 ?bx4 ?lx4 ?cx4 ?kx4 ?ky4 ?kz4 ?ac_RoundCallsError ?s1 ?s2 ?s3 ?g1 ?g2 (sysK _) hmg
    (case ag_FunctionChecker => k_is)
    (case ad0 => k_is)
    (case ld0 => k_is)
    (case cc0 => k_is)
    (case kd0 => k_is)
    (case ad1 => k_is)
    (case ld1 => k_is)
    (case cc1 => k_is)
    (case kd1 => k_is)
    (case ad2 => k_is)
    (case ld2 => k_is)
    (case cc2 => k_is)
    (case kd2 => k_is)
    (case ad3 => k_is)
    (case ld3 => k_is)
    (case cc3 => k_is)
    (case kd3 => k_is)
    (case ad4 => k_is)
    (case ld4 => k_is)
    (case cc4 => k_is)
    (case kd4 => k_is)
    (case ad5 => k_is)
    (case ld5 => k_is)
    (case cc5 => k_is)
    (case kd5 => k_is)
    (case ad6 => k_is)
    (case ld6 => k_is)
    (case cc6 => k_is)
    (case kd6 => k_is)
    (case ad7 => k_is)
    (case ld7 => k_is)
    (case cc7 => k_is)
    (case kd7 => k_is)
    (case ad8 => k_is)
    (case ld8 => k_is)
    (case cc8 => k_is)
    (case kd8 => k_is)
    (case ad9 => k_is)
    (case ld9 => k_is)
    (case cc9 => k_is)
    (case kd9 => k_is)
    (case ad10 => k_is)
    (case ld10 => k_is)
    (case cc10 => k_is)
    (case kd10 => k_is)
    (case ad11 => k_is)
    (case ld11 => k_is)
    (case cc11 => k_is)
    (case kd11 => k_is)
    (case ad12 => k_is)
    (case ld12 => k_is)
    (case cc12 => k_is)
    (case kd12 => k_is)
    (case ad13 => k_is)
    (case ld13 => k_is)
    (case cc13 => k_is)
    (case kd13 => k_is)
    (case ad14 => k_is)
    (case ld14 => k_is)
    (case cc14 => k_is)
    (case kd14 => k_is)
    (case ad15 => k_is)
    (case ld15 => k_is)
    (case cc15 => k_is)
    (case kd15 => k_is)
    (case ad16 => k_is)
    (case ld16 => k_is)
    (case cc16 => k_is)
    (case kd16 => k_is)
    (case ad17 => k_is)
    (case ld17 => k_is)
    (case cc17 => k_is)
    (case kd17 => k_is)
    (case ad18 => k_is)
    (case ld18 => k_is)
    (case cc18 => k_is)
    (case kd18 => k_is)
    (case ad19 => k_is)
    (case ld19 => k_is)
    (case cc19 => k_is)
    (case kd19 => k_is)
    (case ad20 => k_is)
    (case ld20 => k_is)
    (case cc20 => k_is)
    (case kd20 => k_is)
    (case ad21 => k_is)
    (case ld21 => k_is)
    (case cc21 => k_is)
    (case kd21 => k_is)
    (case ad22 => k_is)
    (case ld22 => k_is)
    (case cc22 => k_is)
    (case kd22 => k_is)
    (case ad23 => k_is)
    (case ld23 => k_is)
    (case cc23 => k_is)
    (case kd23 => k_is)
    (case ad24 => k_is)
    (case ld24 => k_is)
    (case cc24 => k_is)
    (case kd24 => k_is)
    (case ad25 => k_is)
    (case ld25 => k_is)
    (case cc25 => k_is)
    (case kd25 => k_is)
    (case ad26 => k_is)
    (case ld26 => k_is)
    (case cc26 => k_is)
    (case kd26 => k_is)
    (case ad27 => k_is)
    (case ld27 => k_is)
    (case cc27 => k_is)
    (case kd27 => k_is)
    (case n_all => k_is)
    (case n_dict => k_is)
    (case n_enumerate => k_is)
    (case n_len => k_is)
    (case n_list => k_is)
    (case n_range => k_is)
    (case n_repr => k_is)
    (case n_set => k_is)
    (case n_sorted => k_is)
    (case n_tuple => k_is)
    (case g_DOUBLE_BODIES => k_is)
    (case g_DOUBLE_CONDITIONS => k_is)
    (case g_MAKE => k_is)
    (case g_TEST_checking => k_is)
    (case g_TEST_programs => k_is)
    (case g_VOID_TAG => k_is)
    (case ax0 => k_is)
    (case bx0 => k_is)
    (case lx0 => k_is)
    (case cx0 => k_is)
    (case ax1 => k_is)
    (case bx1 => k_is)
    (case lx1 => k_is)
    (case cx1 => k_is)
    (case ax2 => k_is)
    (case bx2 => k_is)
    (case lx2 => k_is)
    (case cx2 => k_is)
    (case ax3 => k_is)
    (case bx3 => k_is)
    (case lx3 => k_is)
    (case cx3 => k_is)
    (case ax4 => k_is)
    (case bx4 => k_is)
    (case lx4 => k_is)
    (case cx4 => k_is)
    (case ac_RoundCallsError => k_is)
    (case s1 => k_is)
    (case s2 => k_is)
    (case s3 => k_is)
    (case g1 => k_is)
    (case g2 => k_is)
    (case cb_FunctionChecker => kernel_rfl)
    (case nb_FunctionChecker => kernel_rfl)
    (case kf10 => kernel_rfl)
    (case km10 => kernel_rfl)
    (case kf11 => kernel_rfl)
    (case kf12 => kernel_rfl)
    (case kf13 => kernel_rfl)
    (case kf14 => kernel_rfl)
    (case kf15 => kernel_rfl)
    (case kf16 => kernel_rfl)
    (case kf17 => kernel_rfl)
    (case kf18 => kernel_rfl)
    (case kf19 => kernel_rfl)
    (case kf20 => kernel_rfl)
    (case kf21 => kernel_rfl)
    (case kd_DOUBLE_BODIES => kernel_rfl)
    (case kd_DOUBLE_CONDITIONS => kernel_rfl)
    (case kx0 => kernel_rfl)
    (case ky0 => kernel_rfl)
    (case kz0 => kernel_rfl)
    (case kx1 => kernel_rfl)
    (case ky1 => kernel_rfl)
    (case kz1 => kernel_rfl)
    (case kx2 => kernel_rfl)
    (case ky2 => kernel_rfl)
    (case kz2 => kernel_rfl)
    (case kx3 => kernel_rfl)
    (case ky3 => kernel_rfl)
    (case kz3 => kernel_rfl)
    (case kx4 => kernel_rfl)
    (case ky4 => kernel_rfl)
    (case kz4 => kernel_rfl)
#print axioms PySem.Challenge.cw_roundcalls_k58_pressed_ranks_holds

