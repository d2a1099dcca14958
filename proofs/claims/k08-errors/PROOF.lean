import PyProof.Rows.All
import Wide.All
import OpenK.AllK
import Wide.FinOn
import PyProof.ReprRoads
import HandS.ForMost
import HandS.Exc
import HandS.WordsExc
import HandS.ExcInit
import HandS.ExcField
import HandS.ExcIs
import HandS.ExcValue
import HandS.ExcOwn
import HandS.IsInst
import HandS.Defaults
import HandS.Flow
import HandS.HeadHook2
import KE.KStateDown
import Lean
import HandS.More
import HandS.Head0
import HandS.Head1
import HandS.Head2
import HandS.HeadEnd
import PySem.Challenge.RW_anypads_k08_errors_of_all_classes
set_option Elab.async false
set_option linter.all false
set_option maxRecDepth 100000
set_option maxHeartbeats 4000000
/-! Defs that are run where nothing is being shown (no repr is under way): FnG; their bodies, their calls, the law's end. -/
namespace AP
open PySem PySem.Spec PyProof.Rows L2
/-- nothing is being shown around -/
abbrev Still (A : Around) : Prop := A.guards = some []
theorem Still.deep {A : Around} {env : Env} (h : Still A) : Still (A.deeper env) := h
structure FnG (P : Program) (w : World) (K : PySem.W.Frag) (mg : Str → Option Value) (base : Heap) (CX : CXT) (k : Nat) (f : Addr) (fd : FuncData) (ps : List Str) (sp : Sp) : Prop where
  lenG : ∀ vs H Q E, sp vs H Q E → vs.length = ps.length
  go : ∀ (A : Around) (outer : List Env) (s : Shared) (H : Hp) (args : Args) (us : List Value) (vs : List V) (Q : VK) (E : XK), Still A → Room k A →
    Env0 P w K mg base A outer s H → BindsTo s fd args (ps.zip us) → Vals vs us → sp vs H Q E → codeAny (model P w) A (.call (.ref f) args) (CR CX outer P w H s Q E) s
section
variable {P : Program} {w : World} {K : PySem.W.Frag} {mg : Str → Option Value} {base : Heap} {CX : CXT} {k : Nat} {f : Addr} {fd : FuncData} {ps : List Str} {sp : Sp}
theorem FnG.of (F : FnOk P w K mg base CX k f fd ps sp) : FnG P w K mg base CX k f fd ps sp :=
  ⟨F.len, fun A outer s H args us vs Q E _ => F.run A outer s H args us vs Q E⟩
theorem fnG_of {x qual : Str} {params : Arguments} {body : List Stmt} {scope : Scope} {dvs : List V} {kws : List (Str × V)} {N : List Str} (F : FunD K x qual params body scope dvs kws f fd) (S : FnScope N ps scope)
    (len : ∀ vs H Q E, sp vs H Q E → vs.length = ps.length)
    (hbody : ∀ (cdv : Value) (A : Around) (outer : List Env) (s : Shared) (H : Hp) (vs : List V) (Q : VK) (E : XK), Still A → Room k (A.deeper (envOfC qual scope s.heap.objs.size f cdv)) → sp vs H Q E →
      ∃ t, PSs (cxOf CX P w K mg base N qual scope f cdv A outer s H E) body t ∧ t { nx := fun _ H' => Q .non H', rt := Q } (start N vs) H) :
    FnG P w K mg base CX (k + 1) f fd ps sp := by
  obtain ⟨oc, od, dV, kV, doc, pm, an, cdv, ct, osl, rfl, lk, hcd, _, _⟩ := F.ex
  refine ⟨len, fun A outer s H args us vs Q E hg hr e0 hb r hsp => ?_⟩
  have keepB : ∀ b o, base.get? b = some o → s.heap.get? b = some o := fun b o e => (e0.bs b o e).1
  have KX : K.In s.heap := e0.mod.kin.keeps keepB
  have kinds : ∀ y ∈ ps.zip us, scope.names.lookup y.1 = some .local ∨ (scope.names.lookup y.1 = some .cell ∧ ((cellsFrom (s.heap.objs.size + 1) scope.names []).lookup y.1).isSome = true) := by
    rintro ⟨n, v⟩ hy
    rcases S.par n (List.of_mem_zip hy).1 with q | q
    · exact .inl q
    · exact .inr ⟨q, PySem.W.cellsFrom_some _ _ _ (.inl q)⟩
  refine codeAny_call_function hr.depth (KX _ _ lk) rfl S.co S.gen rfl (PySem.W.codeRec_of KX hcd) (hb _ _ _ _ (wpAny_newFunctionEnv_cells S.kind kinds fun env he s1 x => ?_))
  subst he
  refine ⟨(e0.mod.nolimit.keeps keepB).keeps x.toInCall.keep, codeAny_func ?_⟩
  obtain ⟨t, ht, hq⟩ := hbody cdv A outer s H vs Q E hg (hr.deeper _) hsp
  refine wpAny_mono (ht.run [] s1 (start N vs) H _ (inv_start S hr.hd e0 (len _ _ _ _ hsp) r x) hq) (fun fl s' hs => ?_) fun e s' hs => hs
  cases fl with
  | ret u =>
    obtain ⟨v, σ', H', J, rv, q⟩ := hs
    exact ⟨v, H', J.os, J.bare, J.base, J.hok, rv, q⟩
  | next =>
    obtain ⟨σ', H', J, q⟩ := hs
    exact ⟨V.non, H', J.os, J.bare, J.base, J.hok, rfl, q⟩
  | brk => exact (let ⟨_, _, _, q⟩ := hs; False.elim q)
  | cont => exact (let ⟨_, _, _, q⟩ := hs; False.elim q)
end
section
variable {X : Cx} {CX : CXT} {k : Nat} {f : Addr} {fd : FuncData} {ps : List Str} {sp : Sp} {dvs : List V} {ds : List Value} {E : XK} {x : Str} {p pos : Pos} {e : Expr} {es : List Expr} {t : TA}
/-- f(e, ..) of such a def -/
theorem pe_callG (F : FnG X.prog X.w X.K X.mg X.base CX k f fd ps sp) (hgd : Still X.A) (hr : Room k X.A) (hg : Gl X x) (hm : X.mg x = some (.ref f)) (hk : PySem.W.keepIn X.K (.ref f) = true) (hb : Binds X.K fd ps ds) (hd : Vals dvs ds)
    (hx : Passes CX X E) (ha : PA X (e :: es) t) (hdb : (x == ("__debug__" : Str)) = false := by decide)
    (he : starEach (e :: es) X.env = (false, eval e X.env) :: starEach es X.env := by rfl) (hpl : (backTo pos (starEach es X.env)).any (·.1) = false := by rfl) :
    PE X (.Call (.Name x p) (e :: es) [] pos) (tCall sp dvs E t) := by
  constructor
  intro pins s σ H Q I h
  refine wpAny_Call_Name_kw (ld_glob I hg hm (PySem.W.callWith_K (h₀ := X.base) I.ok.mod.kin hk (thn (ha.run pos pins s σ H _ I h) fun us s1 ⟨vs, H1, I1, r, q⟩ => ⟨I1.kIn, ?_⟩) he hpl) hdb)
  have r2 : Vals (vs ++ dvs) (us ++ ds) := r.append hd
  have hl : (us ++ ds).length = ps.length := r2.length.symm.trans (F.lenG _ _ _ _ q)
  refine wpAny_call (codeAny_mono (F.go X.A X.stack s1 H1 ⟨us, []⟩ (us ++ ds) (vs ++ dvs) Q E hgd hr I1.env0 (hb s1 us I1.kIn hl) r2 q) fun r s' hq => ?_)
  cases r with
  | error er => exact hx pins σ H1 s1 er s' I1 hq
  | ok fl =>
    cases fl with
    | ret u => exact I1.after hq
    | next => exact hq.elim
    | brk => exact hq.elim
    | cont => exact hq.elim
end
/-- the law's end, for a law that shows things -/
theorem law_callG {P : Program} {w : World} {K : PySem.W.Frag} {mg mb : Str → Option Value} {CX : CXT} {k : Nat} {fa a : Addr} {fd : FuncData} {x : Str} {sp : Sp} {s₁ : Shared} {vs : List Value} {ns : List Int}
    (KX : K.In s₁.heap) (hns : s₁.heap.Ns mainGlobals mg) (hb : s₁.heap.Ns builtinsNs mb) (hbb : ∀ x : Str, x ≠ "__name__" → mb x = bootBuiltins x) (hlim : s₁.heap.NoLimit) (hg : s₁.gens = #[])
    (ha : s₁.heap.get? a = some { cls := .type "list", data := .seq vs.toArray }) (hi : IntsAre vs ns) (hl : ns.length ≤ sizeLine) (hr : Room k callerA)
    (F : ∀ base : Heap, K.In base → base.Ns mainGlobals mg → FnG P w K mg base CX k fa fd [x] sp) (hbind : ∀ (s : Shared) (u : Value), BindsTo s fd ⟨[u], []⟩ [(x, u)])
    (hsp : ∀ H : Hp, Only H → SqL K H a (ns.map V.int) → sp [.ref a] H (fun v _ => v = .bl true) fun _ _ _ => False)
    (hCX : ∀ H e s', CX [] H s₁ (fun _ _ _ => False) e s' → False) :
    codeAny (model P w) callerA (.call (.ref fa) ⟨[.ref a], []⟩) (fun r s' => r = .ok (.ret (.bool true)) ∧ OldK s₁.heap s'.heap ∧ s'.os = s₁.os ∧ AllBare s'.gens) s₁ := by
  have rv := vals_ints hi
  have core : ∀ H : Hp, Only H → SqL K H a (ns.map V.int) → HOk P w H s₁.heap → (∀ b, H b ≠ none → b = a) → (H a ≠ none → K.lookup a = none) →
      codeAny (model P w) callerA (.call (.ref fa) ⟨[.ref a], []⟩) (fun r s' => r = .ok (.ret (.bool true)) ∧ OldK s₁.heap s'.heap ∧ s'.os = s₁.os ∧ AllBare s'.gens) s₁ := by
    intro H hO hS hok hA hK
    have only_a : ∀ {b : Addr} {u : HO}, H b = some u → b = a := fun {b u} q => hA b (by rw [q]; exact fun z => nomatch z)
    have off : ∀ {b : Addr} {o : Obj} {es : Array DictEntry} {ep : Nat}, s₁.heap.get? b = some o → o.data = .dict es ep → H b = none := fun {b o es ep} e d => by
      cases q : H b with
      | none => rfl
      | some u =>
        obtain rfl := only_a q
        rw [ha] at e
        obtain rfl := Option.some.inj e
        exact nomatch d
    have nsK : ∀ {b : Addr} {m : Str → Option Value}, s₁.heap.Ns b m → (hidT s₁.heap H).Ns b m := fun {b m} ⟨o, es, ep, e, d, r⟩ => ⟨o, es, ep, hidT_get e (off e d), d, r⟩
    have hKb : K.In (hidT s₁.heap H) := fun b o e => hidT_get (KX b o e) (by
      cases q : H b with
      | none => rfl
      | some u =>
        obtain rfl := only_a q
        rw [hK (by rw [q]; exact fun z => nomatch z)] at e
        exact nomatch e)
    have hM : Mod K mg (hidT s₁.heap H) := ⟨hKb, nsK hns, ⟨mb, nsK hb, hbb⟩, (let ⟨mc, h1, h2⟩ := hlim; ⟨mc, nsK h1, h2⟩)⟩
    have e0 : Env0 P w K mg (hidT s₁.heap H) callerA [] s₁ H :=
      ⟨rfl, hM, fun b o e => of_hidT e, Nat.le_of_eq (hidT_size _ _), trivial, fun b hb => absurd (show b ∈ ([] : List Addr) from hb) List.not_mem_nil, hok, .of_eq hg⟩
    refine codeAny_mono ((F _ hKb (nsK hns)).go callerA [] s₁ H ⟨[.ref a], []⟩ [.ref a] [.ref a] _ _ rfl hr e0 (hbind s₁ (.ref a)) (.cons rfl .nil) (hsp H hO hS)) fun r s' h => ?_
    cases r with
    | error e => exact (hCX H e s' h).elim
    | ok fl =>
      cases fl with
      | next => exact h.elim
      | brk => exact h.elim
      | cont => exact h.elim
      | ret u =>
        obtain ⟨v, H', os, bare, un, hok', r', (rfl : v = .bl true)⟩ := h
        obtain rfl : u = Value.bool true := r'
        refine ⟨rfl, OldK.of_keep fun b o e => ?_, os, bare⟩
        cases q : H b with
        | none => exact un.keep b o e q (fun z => absurd (show b ∈ ([] : List Addr) from z) List.not_mem_nil) List.not_mem_nil
        | some u =>
          rcases hO b with z | ⟨ob, xs, z⟩
          · exact nomatch (q.symm.trans z)
          · have e1 := (hok b _ z).1
            have e2 := (hok' b _ (un.frzs b ob _ z)).1
            exact e2.trans (e1.symm.trans e)
  cases hk : K.lookup a with
  | some o =>
    have e := KX a o hk
    rw [ha] at e
    obtain rfl := Option.some.inj e
    exact core (fun _ => none) (fun _ => .inl rfl) (.inr ⟨_, vs.toArray, _, hk, rfl, rfl, rfl, by rw [List.size_toArray, hi.length]; exact hl, by simpa using rv⟩)
      (fun b u z => nomatch (show (none : Option HO) = some u from z)) (fun b z => absurd rfl z) fun z => absurd rfl z
  | none =>
    refine core (fun b => if b = a then some (.frz { cls := .type "list", data := .seq vs.toArray } (.lst (ns.map V.int))) else none) (fun b => ?_) (.inl (.inr ⟨_, if_pos rfl⟩)) (fun b u z => ?_) (fun b z => ?_) fun _ => hk
    · by_cases hb : b = a
      · exact .inr ⟨_, _, if_pos hb⟩
      · exact .inl (if_neg hb)
    · by_cases hb : b = a
      · subst hb
        obtain rfl := Option.some.inj ((if_pos rfl).symm.trans z)
        exact ⟨ha, by rw [List.length_map]; exact hl, vs, _, rv, ha⟩
      · exact nomatch ((if_neg hb).symm.trans z)
    · by_cases hb : b = a
      · exact hb
      · exact absurd (if_neg hb) z
theorem walk_G {l : PySem.W.OpenLaw} {n k : Nat} {q : Program} {loose : List Str} {XP : (Str → Option Value) → Heap → Prop} {YP : World → Heap → Prop} {d : DefRec} {CX : CXT} {x : Str}
    (hn : l.most = some n) (hn2 : n ≤ sizeLine) (hdf : d.params.defaults = []) (hr : Room k callerA)
    (F : ∀ (w : World) (mg : Str → Option Value) (fa : Addr) (h : Heap), YP w h → h.Ns mainGlobals mg → mg d.name = some (.ref fa) →
      ∃ (K : PySem.W.Frag) (fd : FuncData) (sp : Sp), K.In h ∧ (∀ (s : Shared) (u : Value), BindsTo s fd ⟨[u], []⟩ [(x, u)]) ∧
        (∀ (H : Hp) (a : Addr) (ns : List Int), ns.length ≤ n → Only H → SqL K H a (ns.map V.int) → sp [.ref a] H (fun v _ => v = .bl true) fun _ _ _ => False) ∧
        ∀ base : Heap, K.In base → base.Ns mainGlobals mg → FnG l.prog w K mg base CX k fa fd [x] sp)
    (hCX : ∀ (H : Hp) (s : Shared) (e : Value) (s' : Shared), CX [] H s (fun _ _ _ => False) e s' → False) :
    PySem.W.WalkO q loose XP YP l.row.toRowW d [] (fun f vs => PySem.call f vs) :=
  Att.attach_call hn hdf fun w s₀ s₁ mg mb fa o pm cd doc a vs ns G Y ho hd hcd hmg hobj hints hlen hg =>
    let ⟨_, _, _, KX, hb, hsp, hF⟩ := F w mg fa _ Y G.T.g hmg
    law_callG KX G.T.g G.T.b G.T.builtins G.T.nolimit hg hobj hints (Nat.le_trans hlen hn2) hr hF hb (fun H hO hS => hsp H a ns hlen hO hS) fun H e s' => hCX H s₁ e s'
end AP

set_option Elab.async false
set_option linter.all false
set_option maxRecDepth 100000
set_option maxHeartbeats 4000000
/-! repr of data (None, bools, ints, texts, lists, tuples, dicts), and exceptions held as values. -/
namespace AP
open PySem PySem.Spec PyProof.Rows L2
/-- a key as data -/
def keyD : Key → PyData
  | .inl i => .int i
  | .inr x => .str x
mutual
/-- the value is this data -/
inductive Dq (K : PySem.W.Frag) (H : Hp) : V → PyData → Prop
  | non : Dq K H .non .none
  | bl (b : Bool) : Dq K H (.bl b) (.bool b)
  | int (i : Int) : Dq K H (.int i) (.int i)
  | str (x : Str) : Dq K H (.str x) (.str x)
  | lst {a : Addr} {xs : List V} {ds : List PyData} : SqL K H a xs → DqAll K H xs ds → Dq K H (.ref a) (.list ds)
  | tup {a : Addr} {xs : List V} {ds : List PyData} : SqT K H a xs → DqAll K H xs ds → Dq K H (.ref a) (.tuple ds)
  | dct {a : Addr} {kvs : List (Key × V)} {ps : List (PyData × PyData)} : H a = some (.dK kvs) → kvs.map (fun z => keyD z.1) = ps.map (·.1) → DqAll K H (kvs.map (·.2)) (ps.map (·.2)) → Dq K H (.ref a) (.dict ps)
inductive DqAll (K : PySem.W.Frag) (H : Hp) : List V → List PyData → Prop
  | nil : DqAll K H [] []
  | cons {v : V} {vs : List V} {d : PyData} {ds : List PyData} : Dq K H v d → DqAll K H vs ds → DqAll K H (v :: vs) (d :: ds)
end
theorem seqL_same {K : PySem.W.Frag} {H H' : Hp} {a : Addr} {xs : List V} (e : Same H H') (h : SqL K H a xs) : SqL K H' a xs := e.seq h
theorem seqT_same {K : PySem.W.Frag} {H H' : Hp} {a : Addr} {xs : List V} (e : Same H H') (h : SqT K H a xs) : SqT K H' a xs := by
  rcases h with (h | ⟨o, h⟩) | h
  · exact .inl (.inl (e _ _ h))
  · exact .inl (.inr ⟨o, e _ _ h⟩)
  · exact .inr h
mutual
/-- data that stands goes on standing -/
theorem Dq.same {K : PySem.W.Frag} {H H' : Hp} (e : Same H H') : ∀ (d : PyData) (v : V), Dq K H v d → Dq K H' v d
  | .none, _, h => by cases h; exact .non
  | .bool b, _, h => by cases h; exact .bl b
  | .int i, _, h => by cases h; exact .int i
  | .str x, _, h => by cases h; exact .str x
  | .list ds, _, h => by
    cases h with
    | lst hs ha => exact .lst (seqL_same e hs) (DqAll.same e ds _ ha)
  | .tuple ds, _, h => by
    cases h with
    | tup hs ha => exact .tup (seqT_same e hs) (DqAll.same e ds _ ha)
  | .dict ps, _, h => by
    cases h with
    | dct hs hk ha => exact .dct (e _ _ hs) hk (DqKv.same e ps _ ha)
theorem DqAll.same {K : PySem.W.Frag} {H H' : Hp} (e : Same H H') : ∀ (ds : List PyData) (vs : List V), DqAll K H vs ds → DqAll K H' vs ds
  | [], _, h => by cases h; exact .nil
  | d :: ds, _, h => by
    cases h with
    | cons h1 h2 => exact .cons (Dq.same e d _ h1) (DqAll.same e ds _ h2)
theorem DqKv.same {K : PySem.W.Frag} {H H' : Hp} (e : Same H H') : ∀ (ps : List (PyData × PyData)) (vs : List V), DqAll K H vs (ps.map (·.2)) → DqAll K H' vs (ps.map (·.2))
  | [], _, h => by cases h; exact .nil
  | (k, d) :: ps, _, h => by
    cases h with
    | cons h1 h2 => exact .cons (Dq.same e d _ h1) (DqKv.same e ps _ h2)
end
/-- sys.modules stands in the written part -/
def SysIn (K : PySem.W.Frag) : Prop := ∃ o, K.lookup sysModules = some o ∧ o.cls = .type "dict"
section
variable {X : Cx} {pins : List (Addr × Obj)} {σ : L2.St} {H : Hp} {s : Shared}
theorem no_sys (hS : SysIn X.K) (I : Inv X pins σ H s) {a : Addr} {o : Obj} (e : s.heap.get? a = some o) (c : o.cls = .type "list") : sysModules ≠ a := by
  rintro rfl
  obtain ⟨o', h1, h2⟩ := hS
  have h3 := I.kIn _ _ h1
  rw [e] at h3
  obtain rfl := Option.some.inj h3
  rw [c] at h2
  exact absurd h2 (by decide)
theorem keys_read {h : Heap} {P : Program} {w : World} : ∀ {es : List DictEntry} {vs : List (Key × Value)}, Pairs (mixKind P w) es vs → ReadsAll h (es.map (·.key)) (vs.map fun z => keyD z.1) []
  | _, _, .nil => .nil
  | _, _, .cons (e := e) (kv := kv) (es := es) (kvs := kvs) hk _ r => by
    have q := keys_read (h := h) r
    obtain ⟨k, v⟩ := kv
    have hk' : keyIs k e.key = true := hk
    rcases keyIs_shape hk' with ⟨i, t, rfl, e1⟩ | ⟨x, t, rfl, e1⟩
    · show ReadsAll h (e.key :: es.map (·.key)) (PyData.int i :: _) []
      rw [e1]
      exact ReadsAll.cons (as := []) (bs := []) (.int i t) q
    · show ReadsAll h (e.key :: es.map (·.key)) (PyData.str x :: _) []
      rw [e1]
      exact ReadsAll.cons (as := []) (bs := []) (.str x t) q
theorem vals_pairs {P : Program} {w : World} : ∀ {es : List DictEntry} {vs : List (Key × Value)}, Pairs (mixKind P w) es vs → es.map (·.val) = vs.map (·.2)
  | _, _, .nil => rfl
  | _, _, .cons (e := e) (kv := kv) (es := es) (kvs := kvs) _ hv r => by
    show e.val :: es.map (·.val) = kv.2 :: kvs.map (·.2)
    rw [hv, vals_pairs r]
theorem kv_vals : ∀ {kvs : List (Key × V)} {vs : List (Key × Value)}, KV kvs vs → Vals (kvs.map (·.2)) (vs.map (·.2)) ∧ kvs.map (fun z => keyD z.1) = vs.map (fun z => keyD z.1)
  | _, _, .nil => ⟨.nil, rfl⟩
  | _, _, .cons (a := p) (b := q) (l₁ := kvs) (l₂ := vs) hp r => by
    obtain ⟨h1, h2⟩ := kv_vals (kvs := kvs) (vs := vs) r
    refine ⟨.cons hp.2 h1, ?_⟩
    show keyD p.1 :: _ = keyD q.1 :: _
    rw [hp.1]
    exact congrArg _ h2
mutual
theorem Dq.reads (hS : SysIn X.K) (I : Inv X pins σ H s) : ∀ (d : PyData) (v : V) (u : Value), Dq X.K H v d → RelV v u → ∃ as, Reads s.heap u d as ∧ sysModules ∉ as
  | .none, _, _, h, r => by
    cases h
    cases r
    exact ⟨_, Reads.none, List.not_mem_nil⟩
  | .bool b, _, _, h, r => by
    cases h
    cases r
    exact ⟨_, Reads.bool b, List.not_mem_nil⟩
  | .int i, _, _, h, r => by
    cases h
    obtain ⟨t, rfl⟩ := r
    exact ⟨_, Reads.int i t, List.not_mem_nil⟩
  | .str x, _, _, h, r => by
    cases h
    obtain ⟨t, rfl⟩ := r
    exact ⟨_, Reads.str x t, List.not_mem_nil⟩
  | .list ds, _, _, h, r => by
    cases h with
    | lst hs ha =>
      cases r
      obtain ⟨its, rv, ⟨o, n, ho, hc, _, hd⟩, _⟩ := I.list hs
      obtain ⟨as, hr, hn⟩ := Dq.readsAll hS I ds _ its ha rv
      exact ⟨_, Reads.list ho hc hd hr, fun z => (List.mem_cons.mp z).elim (no_sys hS I ho hc) hn⟩
  | .tuple ds, _, _, h, r => by
    cases h with
    | tup hs ha =>
      cases r
      obtain ⟨its, rv, ⟨o, ho, hc, n, hd⟩, _⟩ := I.tuple hs
      obtain ⟨as, hr, hn⟩ := Dq.readsAll hS I ds _ its ha rv
      exact ⟨_, Reads.tuple ho hc hd hr, hn⟩
  | .dict ps, _, _, h, r => by
    cases h with
    | @dct a kvs _ hs hk ha =>
      cases r
      have x : ObjOk X.prog X.w H s.heap a (.dK kvs) := I.hok a _ hs
      obtain ⟨_, hne, vs, kv, o, es, ep, ho, hx, hd, _, hp, _⟩ := x
      obtain ⟨rv, ek⟩ := kv_vals kv
      have k1 := keys_read (h := s.heap) hp
      rw [← ek, hk] at k1
      have e2 := vals_pairs hp
      obtain ⟨bs, hr, hn⟩ := Dq.readsKv hS I ps _ _ ha rv
      rw [← e2] at hr
      refine ⟨_, Reads.dict ho hx.1 hd k1 hr, fun z => ?_⟩
      rcases List.mem_append.mp z with z | z
      · rcases List.mem_cons.mp z with z | z
        · rw [← z] at hne
          exact absurd hne (by decide)
        · exact absurd z List.not_mem_nil
      · exact hn z
theorem Dq.readsAll (hS : SysIn X.K) (I : Inv X pins σ H s) : ∀ (ds : List PyData) (vs : List V) (us : List Value), DqAll X.K H vs ds → Vals vs us → ∃ as, ReadsAll s.heap us ds as ∧ sysModules ∉ as
  | [], _, _, h, r => by
    cases h
    cases r
    exact ⟨_, ReadsAll.nil, List.not_mem_nil⟩
  | d :: ds, _, _, h, r => by
    cases h with
    | cons h1 h2 =>
      cases r with
      | cons r1 r2 =>
        obtain ⟨as, q1, n1⟩ := Dq.reads hS I d _ _ h1 r1
        obtain ⟨bs, q2, n2⟩ := Dq.readsAll hS I ds _ _ h2 r2
        exact ⟨_, ReadsAll.cons q1 q2, fun z => (List.mem_append.mp z).elim n1 n2⟩
theorem Dq.readsKv (hS : SysIn X.K) (I : Inv X pins σ H s) : ∀ (ps : List (PyData × PyData)) (vs : List V) (us : List Value), DqAll X.K H vs (ps.map (·.2)) → Vals vs us → ∃ as, ReadsAll s.heap us (ps.map (·.2)) as ∧ sysModules ∉ as
  | [], _, _, h, r => by
    cases h
    cases r
    exact ⟨_, ReadsAll.nil, List.not_mem_nil⟩
  | (k, d) :: ps, _, _, h, r => by
    cases h with
    | cons h1 h2 =>
      cases r with
      | cons r1 r2 =>
        obtain ⟨as, q1, n1⟩ := Dq.reads hS I d _ _ h1 r1
        obtain ⟨bs, q2, n2⟩ := Dq.readsKv hS I ps _ _ h2 r2
        exact ⟨_, ReadsAll.cons q1 q2, fun z => (List.mem_append.mp z).elim n1 n2⟩
end
/-- repr(x) -/
def rRepr (K : PySem.W.Frag) : List V → Hp → VK → Prop := fun xs H Q => ∃ (x : V) (d : PyData), xs = [x] ∧ Dq K H x d ∧ d.showable = true ∧ d.depth ≤ 60 ∧ d.shown.length ≤ sizeLine ∧ Q (.str d.shown) H
end
section
variable {X : Cx}
theorem call_reprD (hg : Still X.A) (hS : SysIn X.K) (hu : X.A.units + 64 < cLine) : CallR X (.builtin "repr") (rRepr X.K) := by
  intro pins s σ H xs us Q I r h
  obtain ⟨x, d, rfl, hd, hs, hdep, hz, q⟩ := h
  cases r with
  | @cons _ u _ ur r1 rn =>
  cases rn
  obtain ⟨as, rd, hn⟩ := Dq.reads hS I d x u hd r1
  cases rd with
  | none => exact PySem.P.repr_of_none ⟨.str _, H, I.tok _, ⟨_, rfl⟩, q⟩
  | bool b =>
    refine PySem.P.repr_of_bool ⟨.str _, H, I.tok _, ⟨_, rfl⟩, ?_⟩
    cases b <;> exact q
  | int i t => exact PySem.P.repr_of_int (by simpa [PyData.showable] using hs) ⟨.str _, H, I.tok _, ⟨_, rfl⟩, by simpa only [PyData.shown] using q⟩
  | str y t => exact PySem.P.repr_of_str ⟨.str _, H, I.tok _, ⟨_, rfl⟩, by simpa only [PyData.shown] using q⟩ (by simpa only [PyData.shown] using hz)
  | list h1 h2 h3 h4 => exact repr_of_reads' (.list h1 h2 h3 h4) hs (fun _ => hn) hg (by omega) (fun _ _ e => e) (fun h' u tk hk => ⟨.str _, H, I.kept hk, ⟨_, rfl⟩, q⟩) hz
  | tuple h1 h2 h3 h4 => exact repr_of_reads' (.tuple h1 h2 h3 h4) hs (fun _ => hn) hg (by omega) (fun _ _ e => e) (fun h' u tk hk => ⟨.str _, H, I.kept hk, ⟨_, rfl⟩, q⟩) hz
  | dict h1 h2 h3 h4 h5 => exact repr_of_reads' (.dict h1 h2 h3 h4 h5) hs (fun _ => hn) hg (by omega) (fun _ _ e => e) (fun h' u tk hk => ⟨.str _, H, I.kept hk, ⟨_, rfl⟩, q⟩) hz
end
end AP

set_option Elab.async false
set_option linter.all false
set_option maxRecDepth 100000
set_option maxHeartbeats 4000000
/-! Own exceptions as values: made (by position, by keywords), their fields read, isinstance of them. -/
namespace AP
section
open PySem PySem.HandSPX
section
variable {M : Model} {A : Around} {E : Value → Shared → Prop} {h : Heap} {g : Array GenState} {d : Drawn} {t : Nat} {os : OsState}
variable {nm q : Str} {C N : Addr} {bs bm bmB : List Value} {hdct : Bool} {sn : List Str} {sub : List Value} {ab : Bool} {col : Option Bool} {dd : Option Addr} {k0 k1 k2 k3 k5 : Option Value} {B newId initId : String}
theorem new_checkK (F : ExcBaseFacts B newId initId bmB) (hT : ∀ X : String, bm.contains (.type X) = bmB.contains (.type X)) {rest : List Value} {kw : List (Str × Value)} {Q : Unit → Shared → Prop}
    (hC : h.get? C = some (excClassObj nm q C N bs bm hdct sn sub ab col dd k0 k1 k2 k3 k5 newId)) (hq : Q () ⟨h, g, d, t, os⟩) :
    wpAny M A (checkBuiltinCall newId ⟨.ref C :: rest, kw⟩) Q E ⟨h, g, d, t, os⟩ := by
  have hB1 : (Value.ref C :: bm).contains (.type B) = true := by
    rw [List.contains_cons, hT, F.hasB, Bool.or_true]
  have hst := F.noStar
  simp only [checkBuiltinCall, F.newKind, F.newSplit, F.newRow]
  repeat (first | refine wpAny_loadPart_at hC ?_ | (refine wpAny_isSubtype_exc hC ?_; rw [hB1]) | refine wpAny_staticBase_exc hC ?_ | refine wpAny_madeBy_exc hC ?_ | simp only [bne_self_eq_false, Bool.false_eq_true, if_false] | wp_step)
  exact hq
end
section
variable {prog : Program} {w : World} {A : Around} {E : Value → Shared → Prop} {R : Result → Shared → Prop} {h : Heap} {g : Array GenState} {d : Drawn} {t : Nat} {os : OsState}
variable {nm q : Str} {C N : Addr} {bs bm bmB : List Value} {hdct : Bool} {sn : List Str} {sub : List Value} {ab : Bool} {col : Option Bool} {dd : Option Addr} {k0 k1 k2 k3 k5 : Option Value} {B newId initId : String}
theorem new_ownK (F : ExcBaseFacts B newId initId bmB) (hT : ∀ X : String, bm.contains (.type X) = bmB.contains (.type X)) {rest : List Value} {kw : List (Str × Value)}
    (hC : h.get? C = some (excClassObj nm q C N bs bm hdct sn sub ab col dd k0 k1 k2 k3 k5 newId))
    (hq : R (.ok (.ret (.ref (h.objs.size + 1)))) ⟨(h.push { cls := .type "tuple", data := .seq rest.toArray }).push { cls := .ref C, data := .fields #[.ref h.objs.size, .none, .none, .none, .bool false, .none] }, g, d, t, os⟩)
    (hrest : rest.length ≤ sizeLine) : codeAny (model prog w) A (.builtin newId ⟨.ref C :: rest, kw⟩) R ⟨h, g, d, t, os⟩ := by
  have hends := F.ends
  have hB1 : (Value.ref C :: bm).contains (.type B) = true := by
    rw [List.contains_cons, hT, F.hasB, Bool.or_true]
  have hA1 : (Value.ref C :: bm).contains (.type "AttributeError") = false := by
    rw [List.contains_cons, hT, F.noAttr]; rfl
  have hN1 : (Value.ref C :: bm).contains (.type "NameError") = false := by
    rw [List.contains_cons, hT, F.noName]; rfl
  refine codeAny_builtinAt F.entry ?_
  unfold Builtin.«BaseException.__new__»
  refine wpAt_bind ?_
  show wpAt _ _ _ (stack >>= _) _ _ _
  refine wpAt_bind (wpAt_stack fun p below => wpAt_of_wpAny ?_)
  wp_walk
  refine wpAt_of_wpAny ?_
  rw [F.owner]
  repeat (first | with_reducible refine wpAny_madeHere_exc F.canon hC ?_ | with_reducible refine wpAny_loadPart_at hC ?_ | (with_reducible refine wpAny_isSubtype_exc hC ?_; first | rw [hB1] | rw [hA1] | rw [hN1]) | wp_step)
  show R _ _
  rw [Heap.size_push]
  exact hq
theorem type_call_ownK (F : ExcBaseFacts B newId initId bmB) (hT : ∀ X : String, bm.contains (.type X) = bmB.contains (.type X)) {rest : List Value} {kw : List (Str × Value)} {fI : Addr} {Q : Fin → Shared → Prop}
    (hC : h.get? C = some (excClassObj nm q C N bs bm hdct sn sub ab col dd k0 k1 k2 k3 k5 newId))
    (hi : W.Looks (model prog w) h (typeLookup (.ref C) "__init__") (some (.ref fI))) (hb : ∀ self, W.Looks (model prog w) h (bindSpecial (.ref fI) self) (.ref fI, [self])) (hrest : rest.length ≤ sizeLine)
    (hq : codeAny (model prog w) A (.call (.ref fI) ⟨.ref (h.objs.size + 1) :: rest, kw⟩)
      (fun r s' => match r with | .ok (.ret v) => v = .none ∧ Q (.done (.ret (.ref (h.objs.size + 1)))) s' | .ok _ => False | .error e => E e s')
      ⟨(h.push (W.kdv_tup rest)).push (excO C h.objs.size), g, d, t, os⟩) :
    wpAny (model prog w) A (Builtin.«type.__call__» ⟨.ref C :: rest, kw⟩) Q E ⟨h, g, d, t, os⟩ := by
  repeat (first | with_reducible refine wpAny_loadPart_at hC ?_ | with_reducible refine wpAny_madeBy_exc hC ?_ | wp_step)
  refine codeAny_call_builtin_code (Code.quiet_builtin _ F.quiet) (new_checkK F hT hC ?_)
  refine new_ownK F hT hC ?_ hrest
  show wpAny _ _ _ _ _ _
  have kp : ∀ b o, h.get? b = some o → ((h.push (W.kdv_tup rest)).push (excO C h.objs.size)).get? b = some o := fun b o e => Heap.get?_push_of_some _ (Heap.get?_push_of_some _ e)
  have hC1 := kp _ _ hC
  have hgt : ((h.push (W.kdv_tup rest)).push (excO C h.objs.size)).get? (h.objs.size + 1) = some (excO C h.objs.size) := by heap_get
  have hcC : (Value.ref C :: bm).contains (.ref C) = true := by simp
  have i1 := hi.keeps kp
  have b1 := (hb (.ref (h.objs.size + 1))).keeps kp
  unfold isInstance
  repeat (first | with_reducible refine wpAny_loadPart_at hgt ?_ | (with_reducible refine wpAny_isSubtype_exc hC1 ?_; rw [hcC]) | wp_step)
  show wpAny _ _ (typeLookup (.ref C) _) _ _ _
  refine i1.at (wpAny_holding (wpAny_bind (b1.at (wpAny_bind (wpAny_call (codeAny_mono hq fun r s' z => ?_))))))
  rcases r with e | (v | _ | _ | _) <;> first | exact z | exact z.elim | skip
  obtain ⟨rfl, z⟩ := z
  first
    | exact wpAny_pure (wpAny_pure z)
    | (wp_walk; exact z)
theorem call_ownK (F : ExcBaseFacts B newId initId bmB) (hT : ∀ X : String, bm.contains (.type X) = bmB.contains (.type X)) {rest : List Value} {kw : List (Str × Value)} {fI : Addr}
    (hC : h.get? C = some (excClassObj nm q C N bs bm hdct sn sub ab col dd k0 k1 k2 k3 k5 newId))
    (hi : W.Looks (model prog w) h (typeLookup (.ref C) "__init__") (some (.ref fI))) (hb : ∀ self, W.Looks (model prog w) h (bindSpecial (.ref fI) self) (.ref fI, [self])) (hrest : rest.length ≤ sizeLine)
    (hq : codeAny (model prog w) (A.under (.builtin "type.__call__" ⟨.ref C :: rest, kw⟩)) (.call (.ref fI) ⟨.ref (h.objs.size + 1) :: rest, kw⟩) (W.InitBack (h.objs.size + 1) R)
      ⟨(h.push (W.kdv_tup rest)).push (excO C h.objs.size), g, d, t, os⟩) :
    codeAny (model prog w) A (.call (.ref C) ⟨rest, kw⟩) R ⟨h, g, d, t, os⟩ := by
  have f1 := tc_lookup
  have f2 := tc_bind (.ref C)
  have hTy : (⟨h, g, d, t, os⟩ : Shared).TypeIs (.ref C) "type" := ⟨_, hC, rfl⟩
  refine codeAny_of_tree ?_
  show wpAny _ _ (callAny (.ref C) _) _ _ _
  repeat (any_goals (first | assumption | with_reducible refine wpAny_loadPart_at hC ?_ | wp_step))
  refine ⟨rfl, ?_⟩
  refine codeAny_call_builtin_at (Code.quiet_builtin _ (by decide +kernel)) entry_typeCall ?_
  refine (wpAny_check_type_call_sub hC (type_call_ownK F hT hC hi hb hrest ?_))
  refine codeAny_mono hq fun r s' z => ?_
  rcases r with e | (v | _ | _ | _) <;> exact z
end
end
end AP

set_option Elab.async false
set_option linter.all false
set_option maxRecDepth 100000
set_option maxHeartbeats 4000000
/-! Own exceptions as values, over the layer. -/
namespace AP
section
open PySem PySem.W PySem.Spec PySem.Calls PyProof.Rows
variable {prog : Program} {w : World} {A : Around} {E : Value → Shared → Prop} {s : Shared} {K : Frag} {x D : Addr} {ox : Obj} {od : Option Obj}
theorem find_data {C : Addr} {name : Str} {a g : Value} (hc : (clsIn K C).isSome = true) (ha : findIn K (.ref C) name = some (some a)) (hg : specialIn K a "__get__" = some (some g)) (ht : takesIn K a = some true) :
    findObj K C od name = some (.bind g a) := by
  obtain ⟨cd, hc⟩ := Option.isSome_iff_exists.mp hc
  unfold findObj
  rw [hc, Option.bind_some, ha, Option.bind_some]
  simp [hg, ht]
/-- e.__class__ of an own exception -/
theorem exc_class (T : L2.ExcC K D) {Q : Option Value → Shared → Prop} (X : K.In s.heap) (I : InstAt s.heap x ox D od) (h : Q (some (.ref D)) { s with toks := s.toks + 1 }) :
    wpAny (model prog w) A (getAttr? (.ref x) "__class__") Q E s := by
  have hf : findObj K D od "__class__" = some (.bind (.builtin "getset_descriptor.__get__") (.builtin "object.__class__")) :=
    find_data (by obtain ⟨cd, hc, _⟩ := any_some T.hd; rw [hc]; rfl) T.ha T.hn T.ht
  obtain ⟨hp, g, d, t, os⟩ := s
  have L0 := I.type (M := model prog w)
  have L1 := looks_findIn (M := model prog w) X T.hg
  have L2 := looks_findIn (M := model prog w) X T.hk
  have L3 := looks_find (M := model prog w) X I hf
  have sub : Looks (model prog w) hp (isInstance (.ref x) (.type "BaseException")) true := L0.andThen (looks_subIn X T.hs)
  have z0 : (false && onTheHeap (Value.builtin "BaseException.__getattribute__")) = false := rfl
  have z2 : (Value.builtin "BaseException.__getattribute__" == Value.builtin "object.__getattribute__") = false := by decide +kernel
  have z1 : (onTheHeap (Value.ref D) && Value.builtin "BaseException.__getattribute__" == Value.builtin "object.__getattribute__") = false := by
    rw [z2]; rfl
  unfold getAttr? getAttrBy? getAttrBy
  refine wpAny_bind (wpAny_mkText (wpAny_bind (wpAny_attempt (wpAny_holding (wpAny_bind (L0.at (wpAny_bind (L1.at ?_))))))))
  show wpAny _ _ (if (onTheHeap (Value.ref D) && Value.builtin "BaseException.__getattribute__" == Value.builtin "object.__getattribute__") = true then _ else _) _ _ _
  rw [z1, if_neg Bool.false_ne_true]
  unfold getAttrByItsOwn hookBefore
  refine wpAny_bind ?_
  rw [if_pos (show onTheHeap (Value.ref D) = true from rfl)]
  refine L2.at (wpAny_bind (wpAny_attempt (wpAny_holding ?_)))
  unfold callGetattribute
  rw [z0, if_neg Bool.false_ne_true]
  unfold boundAndCalled
  rw [PySem.F.excAttr_ValueError.ga.bind (.ref x)]
  refine wpAny_bind (wpAny_pure ?_)
  show wpAny _ _ (call (.builtin "BaseException.__getattribute__") [.ref x, .str "__class__" t]) _ _ _
  refine wpAny_call (codeAny_call_builtin PySem.F.excAttr_ValueError.ga.plain PySem.F.entry_bexc_ga ?_)
  refine @check_slot (model prog w) _ _ ⟨hp, g, d, t + 1, os⟩ "BaseException.__getattribute__" "BaseException" "__getattribute__" (.ref x) [.str "__class__" t] [] _ (by decide +kernel) (by decide +kernel) sub
    (PySem.F.args_bexc_ga (.ref x) (.str "__class__" t)) ?_
  unfold Builtin.«object.__getattribute__»
  refine wpAny_bind (wpAny_of_eq (a := ((Value.ref x : Value), [Value.str "__class__" t])) (by first | rfl | (simp only [slotArgs]; rfl)) ?_)
  refine wpAny_bind (wpAny_pure (wpAny_bind (L0.at (wpAny_bind (L3.at ?_)))))
  show wpAny _ _ (holding [Value.builtin "object.__class__"] (call (.builtin "getset_descriptor.__get__") [.builtin "object.__class__", .ref x, .ref D]) >>= ret) _ _ _
  refine wpAny_bind (wpAny_holding (wpAny_call (class_get (s := ⟨hp, g, d, t + 1, os⟩) (ox := ox) (od := od) X I T.hm ?_)))
  refine wpAny_pure ?_
  show wpAny _ _ (handedOut (.ref D)) _ _ _
  rw [handedOut_of (v := .ref D) rfl]
  first
    | exact wpAny_pure (wpAny_pure h)
    | exact wpAny_pure h
    | exact wpAny_pure (wpAny_bind (wpAny_pure (wpAny_pure h)))
theorem kitx_excv (T : L2.ExcC K D) : KitX K (.ref x) (.ref D) (fun h => InstAt h x ox D od) where
  ty := fun _ _ _ I => I.type
  it := fun _ _ X _ => by
    obtain ⟨cdD, hcD, _⟩ := any_some T.hd
    unfold clsIn at hcD
    split at hcD
    · rename_i c' d' cd' sl' ho
      intro A' Q' E' s' k q
      unfold isType loadHead
      exact wpAny_bind (wpAny_loadPart (k _ _ (X _ _ ho)) (wpAny_pure q))
    · cases hcD
  ne := fun h tp dd its n sl X htp => by
    obtain ⟨cdD, hcD, _⟩ := any_some T.hd
    refine Bool.eq_false_iff.mpr fun q => ?_
    obtain rfl : D = tp := Value.ref.inj (beq_iff_eq.mp q)
    unfold clsIn at hcD
    split at hcD
    · rename_i c' d' cd' sl' ho
      exact nomatch ((X _ _ ho).symm.trans htp)
    · cases hcD
  ca := fun X I k => exc_class T X I k
end
open PySem PySem.Spec PyProof.Rows L2
section
variable {X : Cx} {pins : List (Addr × Obj)} {σ : L2.St} {H : Hp} {s : Shared}
/-- an exception with its fields: at a, its own dict at d -/
def Exv (H : Hp) (a C d : Addr) (fs : List (Str × V)) : Prop := H a = some (exo a C (some d)) ∧ H d = some (exd d fs)
theorem Exv.same {H H' : Hp} {a C d : Addr} {fs : List (Str × V)} (e : Same H H') (h : Exv H a C d fs) : Exv H' a C d fs := ⟨e _ _ h.1, e _ _ h.2⟩
theorem exo_inst (I : Inv X pins σ H s) {a C : Addr} {d : Option Addr} (h : H a = some (exo a C d)) (hd : ∀ dx, d = some dx → ∃ fs, H dx = some (exd dx fs)) : ∃ (oe : Obj) (od : Option Obj), PySem.W.InstAt s.heap a oe C od := by
  obtain ⟨t1, ho⟩ := exo_at I.hok h
  cases d with
  | none => exact ⟨_, none, ho, rfl, rfl, trivial⟩
  | some dx =>
    obtain ⟨fs, hx⟩ := hd dx rfl
    obtain ⟨mA, hn, _⟩ := exd_at I.hok hx
    obtain ⟨o, es, ep, e1, _⟩ := hn
    exact ⟨_, some o, ho, rfl, rfl, e1⟩
/-- isinstance(e, c), e an own exception held as a value -/
def rIsX (K : PySem.W.Frag) : List V → Hp → VK → Prop := fun xs H Q => ∃ (a C : Addr) (d : Option Addr) (c : V) (u : Value) (b : Bool), xs = [.ref a, c] ∧ H a = some (exo a C d) ∧ (∀ dx, d = some dx → ∃ fs, H dx = some (exd dx fs)) ∧ ExcC K C ∧ ClsV c u ∧
  PySem.W.kitOne K (.ref C) u = some b ∧ Q (.bl b) H
theorem call_isX : CallR X (.builtin "isinstance") (rIsX X.K) := by
  intro pins s σ H xs us Q I r h
  obtain ⟨a, C, d, c, u, b, rfl, ha, hd, T, k, e, q⟩ := h
  obtain ⟨u1, u2, rfl, r1, r2⟩ := vals2 r
  obtain rfl := k.eq r2
  cases (show u1 = Value.ref a from r1)
  obtain ⟨oe, od, J⟩ := exo_inst I ha hd
  exact PySem.W.kia_one (kitx_excv T) I.kIn J e (fun z => nomatch z) fun tk => ⟨.bl b, H, I.tok tk, rfl, q⟩
/-- isinstance(e, (c1, ..)) -/
def rIsXT (K : PySem.W.Frag) : List V → Hp → VK → Prop := fun xs H Q => ∃ (a C : Addr) (d : Option Addr) (tp : Addr) (cs : List V) (us : List Value) (b : Bool), xs = [.ref a, .ref tp] ∧ H a = some (exo a C d) ∧ (∀ dx, d = some dx → ∃ fs, H dx = some (exd dx fs)) ∧ ExcC K C ∧
  H tp = some (.tup cs) ∧ Paired ClsV cs us ∧ PySem.W.kitAny K (.ref C) us = some b ∧ Q (.bl b) H
theorem call_isXT : CallR X (.builtin "isinstance") (rIsXT X.K) := by
  intro pins s σ H xs us Q I r h
  obtain ⟨a, C, d, tp, cs, ws, b, rfl, ha, hd, T, hT, k, e, q⟩ := h
  obtain ⟨u1, u2, rfl, r1, r2⟩ := vals2 r
  cases (show u1 = Value.ref a from r1)
  cases (show u2 = Value.ref tp from r2)
  obtain ⟨oe, od, J⟩ := exo_inst I ha hd
  obtain ⟨_, its, rv, o, h1, h2, n, h3⟩ := (show ObjOk X.prog X.w H s.heap tp (.tup cs) from I.hok tp _ hT)
  obtain rfl := ClsV.all k rv
  obtain ⟨oc, od, dt, sl⟩ := o
  simp only at h2 h3
  subst h2 h3
  exact PySem.W.kia_tup (kitx_excv T) I.kIn J h1 e (fun z => nomatch z) fun tk => ⟨.bl b, H, I.tok tk, rfl, q⟩
/-- e.f of such a value -/
def tXv (K : PySem.W.Frag) (f : Str) (te : TE) : TE := fun σ H Q => te σ H fun x H1 => ∃ (a C d : Addr) (fs : List (Str × V)) (v : V), x = .ref a ∧ Exv H1 a C d fs ∧ XfC K C ∧ PySem.W.findIn K (.ref C) f = some none ∧ fs.lookup f = some v ∧ Q v H1
theorem pe_xv {e : Expr} {te : TE} {pos : Pos} {n : Str} (he : PE X e te) (hb : attributeBase e n X.env (eval e X.env) = eval e X.env := by rfl) : PE X (.Attribute e n pos) (tXv X.K n te) := by
  constructor
  intro pins s σ H Q I h
  refine attr_of hb (thn (he.run pins s σ H _ I h) fun u s1 hh => ?_)
  obtain ⟨x, H1, I1, rx, a, C, d, fs, v, rfl, ⟨ea, ed⟩, T, hno, l, q⟩ := hh
  obtain rfl : u = Value.ref a := rx
  obtain ⟨t1, ho⟩ := exo_at I1.hok ea
  obtain ⟨mA, hns, hr⟩ := exd_at I1.hok ed
  obtain ⟨o, es, ep, e1, e2⟩ := id hns
  obtain ⟨od, ho', hl⟩ := lookIn_ns hns
  obtain ⟨u, hu, ru⟩ := RelO.some_of (v := v) (o := mA n) (by rw [← l]; exact hr n)
  have J : PySem.W.InstAt s1.heap a _ C (some od) := ⟨ho, rfl, rfl, ho'⟩
  exact HandSPX.exc_get I1.kIn J T.ga T.gg T.exC (PySem.W.findObj_own T.hdC hno rfl (by rw [hl, hu])) (handed_of ru) ⟨v, H1, I1.tok _, ru, q⟩
end
/-! ### made -/
/-- C(e, .., k = v, ..): n values, m keywords -/
def tExv (C : Addr) (n m : Nat) (sp : Sp) (gV : List V → List V → List V) (t tk : TA) : TE := fun σ H Q => t σ H fun vs H1 => tk σ H1 fun zs H2 => vs.length = n ∧ zs.length = m ∧
  ∀ a, H2 a = none → sp (gV (.ref a :: vs) zs) (upd H2 a (exo a C none)) (fun v H3 => v = .non ∧ Q (.ref a) H3) E0
section
variable {X : Cx} {CX : CXT} {k n : Nat} {f C : Addr} {fd : FuncData} {ps ks : List Str} {sp : Sp} {x : Str} {p pos : Pos} {e : Expr} {es : List Expr} {kws : List Keyword} {t tk : TA} {g : List Value → List Value → List Value} {gV : List V → List V → List V}
/-- what an own exception class with its own __init__ must say to be made -/
structure XMk (K : PySem.W.Frag) (C fI : Addr) : Prop where
  o : OexC K C
  iC : PySem.W.findIn K (.ref C) "__init__" = some (some (.ref fI))
  tI : PySem.W.typeIn K (.ref fI) = some (.type "function")
theorem run_exv {pins : List (Addr × Obj)} {σ : L2.St} {H : Hp} {s : Shared} {Q : VK} {us ws : List Value} {vs zs : List V} (T : XMk X.K C f) (F1 : FnOk X.prog X.w X.K X.mg X.base CX k f fd ps sp) (hr : Room (k + 1) X.A) (hb : KBn X.K fd ps (n + 1) ks g gV)
    (hx : Passes CX X E0) (I : Inv X pins σ H s) (r : Vals vs us) (rz : Vals zs ws) (l1 : vs.length = n) (l2 : zs.length = ks.length) (hn : n ≤ 1000)
    (h : ∀ a, H a = none → sp (gV (.ref a :: vs) zs) (upd H a (exo a C none)) (fun v H3 => v = .non ∧ Q (.ref a) H3) E0) : wpAny (model X.prog X.w) X.A (call (.ref C) us (ks.zip ws)) (EP X pins σ Q) X.xe s := by
  obtain ⟨nm, q, N, bs, bm, sn, sub, ab, col, dd, k0, k1, k2, k3, k5, hC, hbm⟩ := T.o.cls
  obtain ⟨hp, gg, dr, tk, os⟩ := s
  have hsz : hp.objs.size ≤ hp.objs.size + 1 := Nat.le_succ _
  have hq := h (hp.objs.size + 1) (I.hok.fresh hsz)
  have kk : ∀ b o, hp.get? b = some o → ((hp.push (PySem.W.kdv_tup us)).push (PySem.HandSPX.excO C hp.objs.size)).get? b = some o := fun b o e => Heap.get?_push_of_some _ (Heap.get?_push_of_some _ e)
  have hget : ((hp.push (PySem.W.kdv_tup us)).push (PySem.HandSPX.excO C hp.objs.size)).get? (hp.objs.size + 1) = some (PySem.HandSPX.excO C hp.objs.size) := by heap_get
  have I2 : Inv X pins σ (upd H (hp.objs.size + 1) (exo (hp.objs.size + 1) C none)) ⟨(hp.push (PySem.W.kdv_tup us)).push (PySem.HandSPX.excO C hp.objs.size), gg, dr, tk, os⟩ :=
    I.laid (t' := tk) (a := hp.objs.size + 1) (o := exo (hp.objs.size + 1) C none) (h' := (hp.push (PySem.W.kdv_tup us)).push (PySem.HandSPX.excO C hp.objs.size)) kk hsz (exo_ok hget)
  have r1 : Vals (V.ref (hp.objs.size + 1) :: vs) (Value.ref (hp.objs.size + 1) :: us) := .cons rfl r
  have e1 : (Value.ref (hp.objs.size + 1) :: us).length = n + 1 := r1.length.symm.trans (congrArg Nat.succ l1)
  have e2 : ws.length = ks.length := rz.length.symm.trans l2
  have hus : us.length ≤ sizeLine := by
    rw [← Paired.length r, sizeLine_eq, l1]
    omega
  refine wpAny_call (call_ownK F.excBase_ValueError (fun Y => PySem.HandSPX.refsVE_contains Y bm hbm) (I.kIn _ _ hC) (PySem.W.looks_findIn I.kIn T.iC) (fun self => PySem.W.bind_fn I.kIn self T.tI) hus
    (codeAny_mono (F1.run _ X.stack _ _ ⟨Value.ref (hp.objs.size + 1) :: us, ks.zip ws⟩ (g (Value.ref (hp.objs.size + 1) :: us) ws) _ _ E0 (hr.make C us (ks.zip ws)) (I2.env0.make C us (ks.zip ws))
      (hb.to _ (Value.ref (hp.objs.size + 1) :: us) ws I2.kIn e1 e2) (hb.rel r1 rz) hq) fun r s' hq' => ?_))
  cases r with
  | error er => exact hx pins σ _ _ er s' I2 hq'
  | ok fl =>
    cases fl with
    | ret u =>
      obtain ⟨v, H', I3, rv, rfl, q3⟩ := I2.after hq'
      exact ⟨rv, ⟨V.ref (hp.objs.size + 1), H', I3, rfl, q3⟩⟩
    | next => exact hq'.elim
    | brk => exact hq'.elim
    | cont => exact hq'.elim
/-- C(e, ..) -/
theorem pe_exv (T : XMk X.K C f) (F1 : FnOk X.prog X.w X.K X.mg X.base CX k f fd ps sp) (hr : Room (k + 1) X.A) (hb : KBn X.K fd ps (n + 1) [] g gV) (hx : Passes CX X E0) (hn : n ≤ 1000) (hg : Gl X x) (hm : X.mg x = some (.ref C)) (ha : PA X (e :: es) t)
    (hdb : (x == ("__debug__" : Str)) = false := by decide) (he : starEach (e :: es) X.env = (false, eval e X.env) :: starEach es X.env := by rfl) (hpl : (backTo pos (starEach es X.env)).any (·.1) = false := by rfl) :
    PE X (.Call (.Name x p) (e :: es) [] pos) (tExv C n 0 sp gV t tNil) := by
  constructor
  intro pins s σ H Q I h
  refine wpAny_Call_Name_kw (ld_glob I hg hm ?_ hdb)
  refine PySem.W.callWith_K (h₀ := X.base) I.ok.mod.kin T.o.kC (thn (ha.run pos pins s σ H _ I h) fun us s1 ⟨vs, H1, I1, r, l1, l2, q⟩ => ⟨I1.kIn, ?_⟩) he hpl
  exact run_exv (ws := []) (zs := []) T F1 hr hb hx I1 r .nil l1 rfl hn q
/-- C(k = v, ..) -/
theorem pe_exvK (T : XMk X.K C f) (F1 : FnOk X.prog X.w X.K X.mg X.base CX k f fd ps sp) (hr : Room (k + 1) X.A) (hb : KBn X.K fd ps 1 ks g gV) (hx : Passes CX X E0) (hg : Gl X x) (hm : X.mg x = some (.ref C)) (hkw : PK X kws tk)
    (hall : (backToKw pos (keywordEach kws X.env)).all (·.1.isSome) = true := by rfl) (hks : (backToKw pos (keywordEach kws X.env)).filterMap (·.1) = ks := by rfl) (hdb : (x == ("__debug__" : Str)) = false := by decide)
    (hpl : ((backTo pos (starEach [] X.env)).any (·.1) || (backToKw pos (keywordEach kws X.env)).any (·.1.isNone)) = false := by rfl) :
    PE X (.Call (.Name x p) [] kws pos) (tExv C 0 ks.length sp gV tNil tk) := by
  constructor
  intro pins s σ H Q I h
  refine wpAny_Call_Name_kw (ld_glob I hg hm ?_ hdb)
  refine PySem.W.callWith_KW0 (h₀ := X.base) I.ok.mod.kin T.o.kC hall (thn (hkw.run pos pins s σ H _ I h) fun ws s2 ⟨zs, H2, I2, rz, l1, l2, q2⟩ => ⟨I2.kIn, ?_⟩) hpl
  rw [hks]
  exact run_exv (us := []) (vs := []) T F1 hr hb hx I2 .nil rz rfl l2 (Nat.zero_le _) q2
/-- C() of a class without own __init__ -/
theorem pe_exn0 {bmB : List Value} {B newId initId : String} (Fb : ExcBaseFacts B newId initId bmB) (q : PySem.W.excIn X.K C bmB newId = true) (gC : X.mg x = some (.ref C)) (kC : PySem.W.keepIn X.K (.ref C) = true) (hg : Gl X x) (hdb : (x == ("__debug__" : Str)) = false := by decide) :
    PE X (.Call (.Name x p) [] [] pos) (fun σ H Q => ∀ a, H a = none → Q (.ref a) (upd H a (exo a C none))) := by
  constructor
  intro pins s σ H Q I h
  refine wpAny_Call_Name_kw (ld_glob I hg gC (PySem.W.callWith_K0 I.kIn kC ?_) hdb)
  show wpAny _ _ (call (.ref C) []) _ _ _
  obtain ⟨bm, N, nm, qn, bs, hdct, sn, sub, ab, col, dd, k0, k1, k2, k3, k5, mN, hC, hN, hni, T⟩ := exc_obj I.kIn q
  refine wpAny_call_exc_subT Fb T hC hN hni (fun h' a hm => ?_) (Nat.zero_le _)
  have hn : H a = none := I.hok.gone hm.new
  obtain ⟨t, ht, _, _⟩ := hm.there
  exact ⟨.ref a, upd H a (exo a C none), I.laidN hm.keeps hm.new hn (exo_ok ht), rfl, h a hn⟩
/-- C(e) of such a class -/
theorem pe_exn1 {bmB : List Value} {B newId initId : String} {ta : TE} (Fb : ExcBaseFacts B newId initId bmB) (q : PySem.W.excIn X.K C bmB newId = true) (gC : X.mg x = some (.ref C)) (kC : PySem.W.keepIn X.K (.ref C) = true) (hg : Gl X x)
    (he : PE X e ta) (hs : starEach [e] X.env = (false, eval e X.env) :: starEach [] X.env := by rfl) (hdb : (x == ("__debug__" : Str)) = false := by decide) :
    PE X (.Call (.Name x p) [e] [] pos) (fun σ H Q => ta σ H fun _ H1 => ∀ a, H1 a = none → Q (.ref a) (upd H1 a (exo a C none))) := by
  constructor
  intro pins s σ H Q I h
  refine wpAny_Call_Name_kw (ld_glob I hg gC (PySem.W.callWith_K (h₀ := X.base) I.ok.mod.kin kC ?_ hs (by rfl)) hdb)
  rw [hs]
  show wpAny _ _ (spliced ((false, eval e X.env) :: backTo pos (starEach [] X.env))) _ _ s
  refine Calls.spliced_cons (thn (he.run pins s σ H _ I h) fun u s1 ⟨v, H1, I1, r1, q1⟩ => Calls.spliced_nil ⟨I1.kIn, ?_⟩)
  show wpAny _ _ (call (.ref C) [u]) _ _ _
  obtain ⟨bm, N, nm, qn, bs, hdct, sn, sub, ab, col, dd, k0, k1, k2, k3, k5, mN, hC, hN, hni, T⟩ := exc_obj I1.kIn q
  refine wpAny_call_exc_subT Fb T hC hN hni (fun h' a hm => ?_) (by show 1 ≤ sizeLine; rw [sizeLine_eq]; omega)
  have hn : H1 a = none := I1.hok.gone hm.new
  obtain ⟨t, ht, _, _⟩ := hm.there
  exact ⟨.ref a, upd H1 a (exo a C none), I1.laidN hm.keeps hm.new hn (exo_ok ht), rfl, q1 a hn⟩
end
end AP

set_option Elab.async false
set_option linter.all false
set_option maxRecDepth 100000
set_option maxHeartbeats 4000000
/-! Short words for calls of the text's defs; what an expression gets; the pen that draws. -/
namespace AP
open PySem PySem.Spec PyProof.Rows L2
/-! ### defs by name -/
/-- the def x of the top keeps sp -/
structure Cal (P : Program) (w : World) (K : PySem.W.Frag) (mg : Str → Option Value) (base : Heap) (CX : CXT) (k : Nat) (x : Str) (ps : List Str) (sp : Sp) : Prop where
  ex : ∃ fd, FnOk P w K mg base CX k (He.ga K x) fd ps sp ∧ Binds K fd ps []
  gl : mg x = some (.ref (He.ga K x))
  kp : PySem.W.keepIn K (.ref (He.ga K x)) = true
structure CalG (P : Program) (w : World) (K : PySem.W.Frag) (mg : Str → Option Value) (base : Heap) (CX : CXT) (k : Nat) (x : Str) (ps : List Str) (sp : Sp) : Prop where
  ex : ∃ fd, FnG P w K mg base CX k (He.ga K x) fd ps sp ∧ Binds K fd ps []
  gl : mg x = some (.ref (He.ga K x))
  kp : PySem.W.keepIn K (.ref (He.ga K x)) = true
section
variable {X : Cx} {CX : CXT} {k : Nat} {ps : List Str} {sp : Sp} {E : XK} {x : Str} {p pos : Pos} {e : Expr} {es : List Expr} {t : TA}
theorem pe_f (C : Cal X.prog X.w X.K X.mg X.base CX k x ps sp) (hr : Room k X.A) (hx : Passes CX X E) (ha : PA X (e :: es) t) (hg : Gl X x := by rfl) (hdb : (x == ("__debug__" : Str)) = false := by decide)
    (he : starEach (e :: es) X.env = (false, eval e X.env) :: starEach es X.env := by rfl) (hpl : (backTo pos (starEach es X.env)).any (·.1) = false := by rfl) : PE X (.Call (.Name x p) (e :: es) [] pos) (tCall sp [] E t) := by
  obtain ⟨fd, F, b⟩ := C.ex
  exact pe_call F hr hg C.gl C.kp b .nil hx ha hdb he hpl
theorem pe_fG (C : CalG X.prog X.w X.K X.mg X.base CX k x ps sp) (hs : Still X.A) (hr : Room k X.A) (hx : Passes CX X E) (ha : PA X (e :: es) t) (hg : Gl X x := by rfl) (hdb : (x == ("__debug__" : Str)) = false := by decide)
    (he : starEach (e :: es) X.env = (false, eval e X.env) :: starEach es X.env := by rfl) (hpl : (backTo pos (starEach es X.env)).any (·.1) = false := by rfl) : PE X (.Call (.Name x p) (e :: es) [] pos) (tCall sp [] E t) := by
  obtain ⟨fd, F, b⟩ := C.ex
  exact pe_callG F hs hr hg C.gl C.kp b .nil hx ha hdb he hpl
end
section
variable {P : Program} {w : World} {K : PySem.W.Frag} {mg : Str → Option Value} {base : Heap} {x qual : Str} {params : Arguments} {body : List Stmt} {scope : Scope} {dvs : List V} {kws : List (Str × V)} {f : Addr} {fd : FuncData} {N ps : List Str} {k : Nat} {sp : Sp}
/-- a def that lets nothing out, by its body -/
theorem ok0 (F : FunD K x qual params body scope dvs kws f fd) (S : FnScope N ps scope) (len : ∀ vs H Q E, sp vs H Q E → vs.length = ps.length)
    (hbody : ∀ (cdv : Value) (A : Around) (outer : List Env) (s : Shared) (H : Hp) (vs : List V) (Q : VK) (E : XK), Room k (A.deeper (envOfC qual scope s.heap.objs.size f cdv)) → sp vs H Q E →
      ∃ t, PSs (cxOf CX0 P w K mg base N qual scope f cdv A outer s H E).nox body t ∧ t { nx := fun _ H' => Q .non H', rt := Q } (start N vs) H) : FnOk P w K mg base CX0 (k + 1) f fd ps sp :=
  F.ok S len fun cdv A outer s H vs Q E hr h => let ⟨t, a, b⟩ := hbody cdv A outer s H vs Q E hr h; ⟨t, a.nox, b⟩
theorem ok0G (F : FunD K x qual params body scope dvs kws f fd) (S : FnScope N ps scope) (len : ∀ vs H Q E, sp vs H Q E → vs.length = ps.length)
    (hbody : ∀ (cdv : Value) (A : Around) (outer : List Env) (s : Shared) (H : Hp) (vs : List V) (Q : VK) (E : XK), Still A → Room k (A.deeper (envOfC qual scope s.heap.objs.size f cdv)) → sp vs H Q E →
      ∃ t, PSs (cxOf CX0 P w K mg base N qual scope f cdv A outer s H E).nox body t ∧ t { nx := fun _ H' => Q .non H', rt := Q } (start N vs) H) : FnG P w K mg base CX0 (k + 1) f fd ps sp :=
  fnG_of F S len fun cdv A outer s H vs Q E hg hr h => let ⟨t, a, b⟩ := hbody cdv A outer s H vs Q E hg hr h; ⟨t, a.nox, b⟩
end
/-! ### what stays -/
/-- all that was tracked but p is as it was -/
def Kp (p : Addr) (H H' : Hp) : Prop := ∀ b o, b ≠ p → H b = some o → H' b = some o
theorem Kp.of {p : Addr} {H H' : Hp} (h : Same H H') : Kp p H H' := fun b o _ e => h b o e
theorem Kp.trans {p : Addr} {H H1 H2 : Hp} (a : Kp p H H1) (b : Kp p H1 H2) : Kp p H H2 := fun c o n e => b c o n (a c o n e)
theorem Same.new {H : Hp} {p : Addr} {o : HO} (h : H p = none) : Same H (upd H p o) := fun b u e => by
  rw [upd_ne (ne_of_none e h)]
  exact e
/-- a pen at p, its cells at c: n draws at most so far -/
def Pen (H : Hp) (p c : Addr) (n : Nat) : Prop := ∃ (ns : List Int) (t r : Int), H p = some (.lst [.ref c, .int t, .int r]) ∧ H c = some (.lst (ns.map V.int)) ∧ 0 ≤ t ∧ t ≤ n ∧ 0 ≤ r
theorem Pen.ne {H : Hp} {p c : Addr} {n : Nat} (h : Pen H p c n) : c ≠ p := by
  obtain ⟨ns, t, r, h1, h2, _⟩ := h
  rintro rfl
  rw [h1] at h2
  have z := congrArg (fun o : Option HO => match o with | some (.lst (.ref _ :: _)) => true | _ => false) h2
  cases ns <;> cases z
theorem Pen.some {H : Hp} {p c : Addr} {n : Nat} (h : Pen H p c n) : ∃ o, H p = some o := let ⟨_, _, _, h1, _⟩ := h; ⟨_, h1⟩
theorem Pen.same {H H' : Hp} {p c : Addr} {n : Nat} (e : Same H H') (h : Pen H p c n) : Pen H' p c n :=
  let ⟨ns, t, r, h1, h2, h3⟩ := h
  ⟨ns, t, r, e _ _ h1, e _ _ h2, h3⟩
theorem Pen.mono {H : Hp} {p c : Addr} {n m : Nat} (h : Pen H p c n) (l : n ≤ m) : Pen H p c m :=
  let ⟨ns, t, r, h1, h2, h3, h4, h5⟩ := h
  ⟨ns, t, r, h1, h2, h3, by omega, h5⟩
/-- nothing that was free before the pen wrote is lost -/
theorem Kp.free {p : Addr} {H H' : Hp} {o : HO} (h : Kp p H H') (hp : H' p = some o) {b : Addr} (e : H' b = none) : H b = none := by
  cases q : H b with
  | none => rfl
  | some u =>
    by_cases hb : b = p
    · rw [hb, hp] at e
      cases e
    · rw [h b u hb q] at e
      cases e
/-- the promise of a draw -/
def spDraw : Sp := fun vs H Q _ => ∃ (p c : Addr) (n : Nat) (m : Int), vs = [.ref p, .int m] ∧ Pen H p c n ∧ n ≤ 1000000 ∧ 0 < m ∧ m < 1073741824 ∧
  ∀ (H' : Hp) (r : Int), 0 ≤ r → r < m → Pen H' p c (n + 1) → Kp p H H' → Q (.int r) H'
/-- .. of a pick from a list -/
def spPick : Sp := fun vs H Q _ => ∃ (p c l : Addr) (n : Nat) (xs : List V), vs = [.ref p, .ref l] ∧ Pen H p c n ∧ n ≤ 1000000 ∧ l ≠ p ∧ H l = some (.lst xs) ∧ 0 < xs.length ∧ xs.length ≤ 1000 ∧
  ∀ (H' : Hp) (x : V), x ∈ xs → Pen H' p c (n + 1) → Kp p H H' → Q x H'
/-- .. of the pen's making -/
def spPen (K : PySem.W.Frag) : Sp := fun vs H Q _ => ∃ (a : Addr) (ns : List Int), vs = [.ref a] ∧ SqL K H a (ns.map V.int) ∧ ∀ (H' : Hp) (p c : Addr), H p = none → Pen H' p c 0 → Same H H' → Q (.ref p) H'
/-! ### what an expression gets -/
/-- e gives some v of which P holds, and nothing that stood is changed -/
def Gets (t : TE) (σ : L2.St) (H : Hp) (P : V → Hp → Prop) : Prop := ∀ Q : VK, (∀ v H', Same H H' → P v H' → Q v H') → t σ H Q
def GetsA (t : TA) (σ : L2.St) (H : Hp) (P : List V → Hp → Prop) : Prop := ∀ Q : List V → Hp → Prop, (∀ vs H', Same H H' → P vs H' → Q vs H') → t σ H Q
/-- what is said of a heap goes on holding -/
def Mn {α : Type} (P : α → Hp → Prop) : Prop := ∀ v H H', Same H H' → P v H → P v H'
section
variable {σ : L2.St} {H : Hp} {t : TE} {ta : TA} {P : V → Hp → Prop} {R : List V → Hp → Prop}
theorem Gets.imp {P' : V → Hp → Prop} (h : Gets t σ H P) (i : ∀ v H', Same H H' → P v H' → P' v H') : Gets t σ H P' := fun Q q => h Q fun v H' s p => q v H' s (i v H' s p)
theorem GetsA.imp {R' : List V → Hp → Prop} (h : GetsA ta σ H R) (i : ∀ v H', Same H H' → R v H' → R' v H') : GetsA ta σ H R' := fun Q q => h Q fun v H' s p => q v H' s (i v H' s p)
theorem g_var {i : Nat} {v : V} (h : σ[i]? = some (some v)) : Gets (tVar i) σ H (fun x _ => x = v) := fun _ q => ⟨v, h, q v H (Same.refl H) rfl⟩
theorem g_c {v : V} : Gets (tC v) σ H (fun x _ => x = v) := fun _ q => q v H (Same.refl H) rfl
theorem g_nil : GetsA tNil σ H (fun vs _ => vs = []) := fun _ q => q [] H (Same.refl H) rfl
theorem g_cons {P : V → Hp → Prop} (m : Mn P) (h : Gets t σ H P) (hr : ∀ H1, Same H H1 → GetsA ta σ H1 R) : GetsA (tCons t ta) σ H (fun vs H' => ∃ v us, vs = v :: us ∧ P v H' ∧ R us H') := fun _ q =>
  h _ fun v H1 s1 p1 => hr H1 s1 _ fun us H2 s2 p2 => q (v :: us) H2 (s1.trans s2) ⟨v, us, rfl, m v H1 H2 s2 p1, p2⟩
theorem g_tup (h : GetsA ta σ H R) (hl : ∀ vs H', R vs H' → vs.length ≤ 1000) (m : Mn R) : Gets (tTup ta) σ H (fun v H' => ∃ p xs, v = .ref p ∧ H p = none ∧ H' p = some (.tup xs) ∧ R xs H') := fun _ q =>
  h _ fun vs H1 s1 r1 => ⟨Nat.le_trans (hl vs H1 r1) (by decide), fun p hp => q _ _ (s1.trans (Same.new hp)) ⟨p, vs, rfl, s1.free hp, upd_same, m vs _ _ (Same.new hp) r1⟩⟩
theorem g_lst (h : GetsA ta σ H R) (hl : ∀ vs H', R vs H' → vs.length ≤ 1000) (m : Mn R) : Gets (tLst ta) σ H (fun v H' => ∃ p xs, v = .ref p ∧ H p = none ∧ H' p = some (.lst xs) ∧ R xs H') := fun _ q =>
  h _ fun vs H1 s1 r1 => ⟨Nat.le_trans (hl vs H1 r1) (by decide), fun p hp => q _ _ (s1.trans (Same.new hp)) ⟨p, vs, rfl, s1.free hp, upd_same, m vs _ _ (Same.new hp) r1⟩⟩
end
theorem atI_of {xs : List V} {i : Int} (h0 : 0 ≤ i) (h1 : i < xs.length) : ∃ v, atI xs i = some v ∧ v ∈ xs := by
  unfold atI ixN
  rw [if_pos h0, if_pos h1]
  have hl : i.toNat < xs.length := by omega
  exact ⟨xs[i.toNat], by simp [hl], List.getElem_mem hl⟩
theorem pow_bound {x : Int} (h0 : 0 ≤ x) (h : x < 2 ^ 60) : x.natAbs < 2 ^ 64 := by
  have : (2 : Int) ^ 60 = 1152921504606846976 := by decide
  omega
theorem mul_b {a b A B : Int} (h0 : 0 ≤ a) (h1 : a ≤ A) (h2 : 0 ≤ b) (h3 : b ≤ B) : 0 ≤ a * b ∧ a * b ≤ A * B :=
  ⟨Int.mul_nonneg h0 h2, Int.mul_le_mul h1 h3 h2 (Int.le_trans h0 h1)⟩
theorem mix_bound {x t a b c : Int} (h0 : 0 ≤ x) (h1 : x < 2147483629) (ht : 0 ≤ t) (hn : t ≤ 1000000) (a0 : 0 ≤ a) (a1 : a ≤ 1000000) (b0 : 0 ≤ b) (b1 : b ≤ 100000) (c0 : 0 ≤ c) (c1 : c ≤ 1000000) :
    (x * (2 * t + a) + b * t * t + c).natAbs < 2 ^ 64 := by
  have p1 := mul_b (a := x) (b := 2 * t + a) (A := 2147483629) (B := 3000000) h0 (by omega) (by omega) (by omega)
  have p2 := mul_b (a := b) (b := t) (A := 100000) (B := 1000000) b0 b1 ht hn
  have p3 := mul_b (a := b * t) (b := t) (A := 100000 * 1000000) (B := 1000000) p2.1 p2.2 ht hn
  exact pow_bound (by omega) (by omega)
theorem great_nonneg {x : Int} {b : Bool} (h : (10 : Int) ^ Int.toNat 18 ≤ x) : 0 ≤ 2 * (x - (10 : Int) ^ Int.toNat 18) + (if b = true then 1 else 0) := by
  have hb : (0 : Int) ≤ (if b = true then 1 else 0) := by split <;> omega
  omega
theorem cut_ints (ns : List Int) (a b : Option Int) : ∃ ms : List Int, cutV (ns.map V.int) a b = ms.map V.int := by
  unfold cutV
  exact ⟨(ns.drop _).take _, by rw [List.map_take, List.map_drop]⟩
theorem shaped_ints (ns : List Int) : SeqAt.shaped (.list (ns.map PyData.int)) = true := by
  have h1 : ∀ l : List Int, PyData.canLayAll0 (l.map PyData.int) = true := fun l => by
    induction l with
    | nil => rfl
    | cons a r ih => exact ih
  have h2 : ∀ l : List Int, PyData.depthAll (l.map PyData.int) = 0 := fun l => by
    induction l with
    | nil => rfl
    | cons a r ih =>
      show max (PyData.depth (.int a)) (PyData.depthAll (r.map PyData.int)) = 0
      rw [ih]
      rfl
  unfold SeqAt.shaped
  have e1 : PyData.canLay0 (.list (ns.map PyData.int)) = true := h1 ns
  have e2 : PyData.depth (.list (ns.map PyData.int)) ≤ 64 := by
    simp only [PyData.depth, h2]
    omega
  rw [e1, decide_eq_true e2]
  rfl
theorem dp_ints {K : PySem.W.Frag} {H : Hp} : ∀ ns : List Int, DpAll K H (ns.map V.int) (ns.map PyData.int)
  | [] => .nil
  | n :: ns => .cons (.int n) (dp_ints ns)
end AP

set_option Elab.async false
set_option linter.all false
set_option maxRecDepth 100000
set_option maxHeartbeats 4000000
/-! Displays of data, beside a pen at p (what stands at p is no data). -/
namespace AP
open PySem PySem.Spec PyProof.Rows L2
/-- the heap without what stands at S -/
def hid (S : List Addr) (H : Hp) : Hp := fun b => if b ∈ S then none else H b
theorem hid_in {S : List Addr} {H : Hp} {b : Addr} (h : b ∈ S) : hid S H b = none := if_pos h
theorem hid_out {S : List Addr} {H : Hp} {b : Addr} (h : b ∉ S) : hid S H b = H b := if_neg h
theorem same_hid {H H' : Hp} (S : List Addr) (s : Same H H') : Same (hid S H) (hid S H') := fun b o e => by
  by_cases hb : b ∈ S
  · rw [hid_in hb] at e
    cases e
  · rw [hid_out hb] at e ⊢
    exact s b o e
theorem Kp.hid {p : Addr} {H H' : Hp} (k : Kp p H H') : Same (AP.hid [p] H) (AP.hid [p] H') := fun b o e => by
  by_cases hb : b ∈ [p]
  · rw [hid_in hb] at e
    cases e
  · rw [hid_out hb] at e ⊢
    exact k b o (fun z => hb (by rw [z]; exact List.mem_cons_self)) e
theorem hid_same {H : Hp} {S : List Addr} : Same (hid S H) H := fun b o e => by
  by_cases hb : b ∈ S
  · rw [hid_in hb] at e
    cases e
  · rw [hid_out hb] at e
    exact e
theorem hid_at {H : Hp} {S : List Addr} {b : Addr} {o : HO} (hb : b ∉ S) (e : H b = some o) : hid S H b = some o := by
  rw [hid_out hb]
  exact e
/-- what stands at S stands -/
def There (S : List Addr) (H : Hp) : Prop := ∀ b ∈ S, ∃ o, H b = some o
theorem There.same {S : List Addr} {H H' : Hp} (h : There S H) (s : Same H H') : There S H' := fun b hb => (h b hb).imp fun o e => s _ _ e
theorem There.one {p : Addr} {H : Hp} {o : HO} (h : H p = some o) : There [p] H := fun b hb => by
  rw [List.mem_singleton.mp hb]
  exact ⟨o, h⟩
theorem There.new {S : List Addr} {H : Hp} {q : Addr} (h : There S H) (hq : H q = none) : q ∉ S := fun e => by
  obtain ⟨o, z⟩ := h q e
  rw [z] at hq
  cases hq
/-- data beside the pen -/
abbrev Dv (K : PySem.W.Frag) (S : List Addr) (H : Hp) (v : V) (d : PyData) : Prop := Dq K (hid S H) v d
abbrev DvA (K : PySem.W.Frag) (S : List Addr) (H : Hp) (vs : List V) (ds : List PyData) : Prop := DqAll K (hid S H) vs ds
theorem Dv.same {K : PySem.W.Frag} {S : List Addr} {H H' : Hp} {v : V} {d : PyData} (h : Dv K S H v d) (s : Same H H') : Dv K S H' v d := Dq.same (same_hid S s) d v h
theorem Dv.kp {K : PySem.W.Frag} {p : Addr} {H H' : Hp} {v : V} {d : PyData} (h : Dv K [p] H v d) (s : Kp p H H') : Dv K [p] H' v d := Dq.same s.hid d v h
theorem DvA.same {K : PySem.W.Frag} {S : List Addr} {H H' : Hp} {vs : List V} {ds : List PyData} (h : DvA K S H vs ds) (s : Same H H') : DvA K S H' vs ds := DqAll.same (same_hid S s) ds vs h
theorem DvA.kp {K : PySem.W.Frag} {p : Addr} {H H' : Hp} {vs : List V} {ds : List PyData} (h : DvA K [p] H vs ds) (s : Kp p H H') : DvA K [p] H' vs ds := DqAll.same s.hid ds vs h
theorem Dv.full {K : PySem.W.Frag} {S : List Addr} {H : Hp} {v : V} {d : PyData} (h : Dv K S H v d) : Dq K H v d := Dq.same hid_same d v h
theorem DqAll.length {K : PySem.W.Frag} {H : Hp} : ∀ {vs : List V} {ds : List PyData}, DqAll K H vs ds → vs.length = ds.length
  | _, _, .nil => rfl
  | _, _, .cons _ r => congrArg Nat.succ (DqAll.length r)
theorem DqAll.append {K : PySem.W.Frag} {H : Hp} : ∀ {vs us : List V} {ds es : List PyData}, DqAll K H vs ds → DqAll K H us es → DqAll K H (vs ++ us) (ds ++ es)
  | _, _, _, _, .nil, h => h
  | _, _, _, _, .cons a r, h => .cons a (DqAll.append r h)
theorem DqAll.mem {K : PySem.W.Frag} {H : Hp} : ∀ {vs : List V} {ds : List PyData}, DqAll K H vs ds → ∀ v ∈ vs, ∃ d ∈ ds, Dq K H v d
  | _, _, .nil, _, hv => nomatch hv
  | _, _, .cons (d := d) a r, v, hv => by
    rcases List.mem_cons.mp hv with rfl | hv
    · exact ⟨d, List.mem_cons_self, a⟩
    · obtain ⟨e, he, q⟩ := DqAll.mem r v hv
      exact ⟨e, List.mem_cons_of_mem _ he, q⟩
/-- small enough to be shown -/
def fineB (m n : Nat) (d : PyData) : Bool := d.showable && (d.leavesShort 60 && (decide (d.depth ≤ m) && decide (d.bulk ≤ n)))
theorem fine_of {m n : Nat} {d : PyData} (h : fineB m n d = true) : d.showable = true ∧ d.leavesShort 60 = true ∧ d.depth ≤ m ∧ d.bulk ≤ n := by
  obtain ⟨h1, h⟩ := Bool.and_eq_true_iff.mp h
  obtain ⟨h2, h⟩ := Bool.and_eq_true_iff.mp h
  obtain ⟨h3, h4⟩ := Bool.and_eq_true_iff.mp h
  exact ⟨h1, h2, of_decide_eq_true h3, of_decide_eq_true h4⟩
theorem of_fine {m n : Nat} {d : PyData} (h1 : d.showable = true) (h2 : d.leavesShort 60 = true) (h3 : d.depth ≤ m) (h4 : d.bulk ≤ n) : fineB m n d = true := by
  unfold fineB
  rw [h1, h2, decide_eq_true h3, decide_eq_true h4]
  rfl
theorem fine_mono {m n m' n' : Nat} {d : PyData} (h : fineB m n d = true) (hm : m ≤ m') (hn : n ≤ n') : fineB m' n' d = true := by
  obtain ⟨h1, h2, h3, h4⟩ := fine_of h
  exact of_fine h1 h2 (by omega) (by omega)
theorem fine_fits {m n : Nat} {d : PyData} (h : fineB m n d = true) (hn : n ≤ 100000) : d.shown.length ≤ sizeLine := by
  obtain ⟨h1, h2, h3, h4⟩ := fine_of h
  have q := PyData.shown_le_bulk 60 (by decide) d h2
  have e : sizeLine = 16777216 := sizeLine_eq
  have : (60 + 2) * d.bulk ≤ 62 * n := Nat.mul_le_mul_left _ h4
  omega
theorem fine_list2 {m n : Nat} {a b : PyData} (ha : fineB m n a = true) (hb : fineB m n b = true) : fineB (m + 1) (2 * n + 2) (.list [a, b]) = true := by
  obtain ⟨a1, a2, a3, a4⟩ := fine_of ha
  obtain ⟨b1, b2, b3, b4⟩ := fine_of hb
  refine of_fine ?_ ?_ ?_ ?_
  · simp only [PyData.showable, PyData.showableAll, a1, b1, Bool.and_self]
  · simp only [PyData.leavesShort, PyData.leavesShortAll, a2, b2, Bool.and_self]
  · simp only [PyData.depth, PyData.depthAll]
    omega
  · simp only [PyData.bulk, PyData.bulkAll]
    omega
theorem fine_int {i : Int} (h : i.natAbs < 10 ^ 12) : fineB 1 0 (.int i) = true := by
  refine of_fine ?_ ?_ ?_ ?_
  · have : i.natAbs.log2 < 1920 := by
      by_cases h0 : i.natAbs = 0
      · rw [h0]
        decide
      · have := (Nat.log2_lt h0 (k := 40)).mpr (by omega)
        omega
    simp only [PyData.showable, decide_eq_true this]
  · have q := PyData.shown_int_le h
    simp only [PyData.leavesShort]
    exact decide_eq_true (by omega)
  · simp only [PyData.depth]
    omega
  · simp only [PyData.bulk]
    omega
/-! ### statements, read off -/
section
variable {te : TE} {i : Nat} {ts : TS} {D : Ends} {σ : L2.St} {H : Hp}
theorem set_run (h : te σ H fun v H1 => ts D (σ.set i (some v)) H1) : tSeq (tAsg te (gName i)) ts D σ H := h
theorem tup_run {t : TA} {Q : VK} (h : t σ H fun xs H1 => xs.length ≤ sizeLine ∧ ∀ p, H1 p = none → Q (.ref p) (upd H1 p (.tup xs))) : tTup t σ H Q := h
theorem lst_run {t : TA} {Q : VK} (h : t σ H fun xs H1 => xs.length ≤ sizeLine ∧ ∀ p, H1 p = none → Q (.ref p) (upd H1 p (.lst xs))) : tLst t σ H Q := h
theorem cons_run {t : TA} {Q : List V → Hp → Prop} (h : te σ H fun x H1 => t σ H1 fun xs H2 => Q (x :: xs) H2) : tCons te t σ H Q := h
theorem op_run {tb : TE} {r : R2} {Q : VK} (h : te σ H fun x H1 => tb σ H1 fun y H2 => r x y H2 Q) : tOp r te tb σ H Q := h
theorem call_run {t : TA} {sp : Sp} {dvs : List V} {E : XK} {Q : VK} (h : t σ H fun vs H1 => sp (vs ++ dvs) H1 Q E) : tCall sp dvs E t σ H Q := h
theorem cb_run {t : TA} {r : List V → Hp → VK → Prop} {Q : VK} (h : t σ H fun vs H1 => r vs H1 Q) : tCB r t σ H Q := h
theorem seq_run {t u : TS} (h : t { D with nx := u D } σ H) : tSeq t u D σ H := h
theorem if_run {c : TT} {t u : TS} (h : c σ H fun b H1 => if b = true then t D σ H1 else u D σ H1) : tIfS c t u D σ H := h
theorem test_run {Q : Bool → Hp → Prop} (h : te σ H fun x H1 => ∃ k, x = .bl k ∧ Q k H1) : tTest te σ H Q := h
theorem par_run {j : Nat} {t : TA} (h : t σ H fun vs H1 => ∃ v w, vs = [v, w] ∧ ts D ((σ.set i (some v)).set j (some w)) H1) : tSeq (tPar i j t) ts D σ H := h
theorem ifs_run {c : TT} {t : TS} (h : c σ H fun b H1 => if b = true then t { D with nx := ts D } σ H1 else ts D σ H1) : tSeq (tIfS c t tNext) ts D σ H := h
theorem asg_run {g : TG} (h : te σ H fun x H1 => g x σ H1 (ts D)) : tSeq (tAsg te g) ts D σ H := h
theorem drop_run (h : te σ H fun _ H1 => ts D σ H1) : tSeq (tDrop te) ts D σ H := h
theorem ret_run (h : te σ H D.rt) : tRet te D σ H := h
end
/-! ### displays -/
section
variable {K : PySem.W.Frag} {S : List Addr} {σ : L2.St} {t : TE} {ta : TA} {d : PyData} {ds : List PyData}
/-- the expression gives this data, whatever stands at S -/
def EvD (K : PySem.W.Frag) (σ : L2.St) (t : TE) (d : PyData) : Prop := ∀ (S : List Addr) (H : Hp), There S H → Gets t σ H (fun v H' => Dv K S H' v d)
def EvDA (K : PySem.W.Frag) (σ : L2.St) (t : TA) (ds : List PyData) : Prop := ∀ (S : List Addr) (H : Hp), There S H → GetsA t σ H (fun vs H' => DvA K S H' vs ds)
theorem ed_non : EvD K σ (tC .non) .none := fun _ H _ Q q => q _ H (Same.refl H) .non
theorem ed_bl {b : Bool} : EvD K σ (tC (.bl b)) (.bool b) := fun _ H _ Q q => q _ H (Same.refl H) (.bl b)
theorem ed_int {i : Int} : EvD K σ (tC (.int i)) (.int i) := fun _ H _ Q q => q _ H (Same.refl H) (.int i)
theorem ed_str {x : Str} : EvD K σ (tC (.str x)) (.str x) := fun _ H _ Q q => q _ H (Same.refl H) (.str x)
theorem ed_varI {i : Nat} {n : Int} (h : σ[i]? = some (some (.int n))) : EvD K σ (tVar i) (.int n) := fun _ H _ Q q => ⟨_, h, q _ H (Same.refl H) (.int n)⟩
theorem ed_varS {i : Nat} {x : Str} (h : σ[i]? = some (some (.str x))) : EvD K σ (tVar i) (.str x) := fun _ H _ Q q => ⟨_, h, q _ H (Same.refl H) (.str x)⟩
theorem ed_neg {i : Int} : EvD K σ (tUn (rU fun i => .int (-i)) (tC (.int i))) (.int (-i)) := fun _ H _ Q q => ⟨i, rfl, q _ H (Same.refl H) (.int _)⟩
theorem ed_pow {i j : Int} (h : CPow i j) : EvD K σ (tOp (rI CPow fun i j => .int (i ^ j.toNat)) (tC (.int i)) (tC (.int j))) (.int (i ^ j.toNat)) := fun _ H _ Q q => ⟨i, j, rfl, rfl, h, q _ H (Same.refl H) (.int _)⟩
theorem eda_nil : EvDA K σ tNil [] := fun _ H _ Q q => q [] H (Same.refl H) .nil
theorem eda_cons (h : EvD K σ t d) (hr : EvDA K σ ta ds) : EvDA K σ (tCons t ta) (d :: ds) := fun S H ho Q q =>
  h S H ho _ fun v H1 s1 d1 => hr S H1 (ho.same s1) _ fun vs H2 s2 d2 => q _ H2 (s1.trans s2) (.cons (Dv.same d1 s2) d2)
theorem ed_tup (h : EvDA K σ ta ds) (hl : ds.length ≤ 1000) : EvD K σ (tTup ta) (.tuple ds) := fun S H ho Q q =>
  h S H ho _ fun vs H1 s1 d1 => ⟨Nat.le_trans (by rw [DqAll.length d1]; exact hl) (by decide : 1000 ≤ sizeLine), fun a ha => q _ _ (s1.trans (Same.new ha))
    (.tup (SqT.of (hid_at ((ho.same s1).new ha) upd_same)) (DvA.same d1 (Same.new ha)))⟩
theorem ed_lst (h : EvDA K σ ta ds) (hl : ds.length ≤ 1000) : EvD K σ (tLst ta) (.list ds) := fun S H ho Q q =>
  h S H ho _ fun vs H1 s1 d1 => ⟨Nat.le_trans (by rw [DqAll.length d1]; exact hl) (by decide : 1000 ≤ sizeLine), fun a ha => q _ _ (s1.trans (Same.new ha))
    (.lst (SqL.of (hid_at ((ho.same s1).new ha) upd_same)) (DvA.same d1 (Same.new ha)))⟩
/-- {} -/
theorem ed_dnew : EvD K σ tDNewK (.dict []) := fun S H ho Q q a ha => q _ _ (Same.new ha) (.dct (kvs := []) (hid_at (ho.new ha) upd_same) rfl .nil)
/-- {"k": e} -/
theorem ed_disp1 {x : Str} (h : EvD K σ t d) : EvD K σ (tDisp [(tC (.str x), t)]) (.dict [(.str x, d)]) := fun S H ho Q q a ha => by
  have th : There (a :: S) (upd H a (.dK [])) := fun b hb => by
    rcases List.mem_cons.mp hb with rfl | hb
    · exact ⟨_, upd_same⟩
    · exact (ho.same (Same.new ha)) b hb
  refine h (a :: S) _ th _ fun v H1 s1 d1 => ?_
  have ha1 : H1 a = some (.dK []) := s1 _ _ upd_same
  refine ⟨ha1, [(Sum.inr x, v)], rfl, (by show 1 ≤ 15; decide), q _ _ (fun b o e => ?_) ?_⟩
  · have hb := ne_of_none e ha
    rw [upd_ne hb]
    exact s1 _ _ (by rw [upd_ne hb]; exact e)
  · refine .dct (kvs := [(Sum.inr x, v)]) (hid_at (ho.new ha) upd_same) rfl (.cons ?_ .nil)
    refine Dq.same (fun b o e => ?_) d v d1
    by_cases hb : b ∈ a :: S
    · rw [hid_in hb] at e
      cases e
    · rw [hid_out hb] at e
      rw [hid_out (fun z => hb (List.mem_cons_of_mem _ z)), upd_ne (fun z => hb (by rw [z]; exact List.mem_cons_self))]
      exact e
/-- a list display, its items known -/
theorem g_lstD {H : Hp} (ho : There S H) (h : EvDA K σ ta ds) (hl : ds.length ≤ 1000) :
    Gets (tLst ta) σ H (fun v H' => ∃ a xs, v = .ref a ∧ H a = none ∧ H' a = some (.lst xs) ∧ DvA K (S) H' xs ds) := fun Q q =>
  h S H ho _ fun vs H1 s1 d1 => ⟨Nat.le_trans (by rw [DqAll.length d1]; exact hl) (by decide : 1000 ≤ sizeLine), fun a ha => q _ _ (s1.trans (Same.new ha)) ⟨a, vs, rfl, s1.free ha, upd_same, DvA.same d1 (Same.new ha)⟩⟩
end
/-! ### rules whose reading names the written part by its letter (for a comprehension's block) -/
section
variable {X : Cx} {K : PySem.W.Frag}
theorem call_reprK (hg : Still X.A) (hS : SysIn K) (hu : X.A.units + 64 < cLine) (hK : X.K = K := by rfl) : CallR X (.builtin "repr") (rRepr K) := by
  subst hK
  exact call_reprD hg hS hu
theorem ix_listK (hK : X.K = K := by rfl) : IxR X (rIxL K) := by
  subst hK
  exact ix_list
theorem ix_tupK (hK : X.K = K := by rfl) : IxR X (rIxT K) := by
  subst hK
  exact ix_tup
theorem call_lenK (hK : X.K = K := by rfl) : CallR X (.builtin "len") (fun xs H Q => ∃ x n, xs = [x] ∧ LenV K x H n ∧ Q (.int n) H) := by
  subst hK
  exact call_len
theorem call_isiK' (hK : X.K = K := by rfl) : CallR X (.builtin "isinstance") (rIsi K) := by
  subst hK
  exact call_isi
theorem op_eqDK (hu : X.A.units + 64 < cLine) (hK : X.K = K := by rfl) : OpR X (compareOp .Eq) (rEqD K) := by
  subst hK
  exact op_eqD hu
theorem op_neDK (hu : X.A.units + 64 < cLine) (hK : X.K = K := by rfl) : OpR X (compareOp .NotEq) (rNeD K) := by
  subst hK
  exact op_neD hu
end
end AP

set_option Elab.async false
set_option linter.all false
set_option maxRecDepth 100000
set_option maxHeartbeats 4000000
/-! Own exception classes: what a head tells of them, their __init__ of one or two fields, what makes them. -/
namespace AP
open PySem PySem.Spec PyProof.Rows L2
/-- an exception class over ValueError, as the head leaves it -/
def oexB (K : PySem.W.Frag) (C : Addr) : Bool := match K.lookup C with
  | some ⟨.type "type", _, .cls cd, sl⟩ => (match cd.mro, sl.toList with
    | .ref C' :: bm, [_, _, _, _, some (.builtin n), _] => C' == C && (n == "ValueError.__new__" && (!cd.hasDel && (cd.hasDict && PySem.HandSPX.refsVE bm)))
    | _, _ => false)
  | _ => false
theorem oexB_ok {K : PySem.W.Frag} {C : Addr} (q : oexB K C = true) :
    ∃ nm q N bs bm sn sub ab col dd k0 k1 k2 k3 k5, K.lookup C = some (excClassObj nm q C N bs bm true sn sub ab col dd k0 k1 k2 k3 k5 "ValueError.__new__") ∧ PySem.HandSPX.refsVE bm = true := by
  unfold oexB at q
  split at q
  · rename_i dd cd sl ho
    split at q
    · rename_i C' bm k0 k1 k2 k3 n k5 hm hs
      simp only [Bool.and_eq_true, beq_iff_eq, Bool.not_eq_true'] at q
      obtain ⟨rfl, rfl, hdel, hdct, hv⟩ := q
      obtain ⟨nm, bs, mro, ns, qn, hd, sn, sub, ab, col, del⟩ := cd
      dsimp only at hm hdel hdct
      subst hm hdel hdct
      obtain ⟨l⟩ := sl
      dsimp only at hs
      subst hs
      exact ⟨nm, qn, ns, bs, bm, sn, sub, ab, col, dd, k0, k1, k2, k3, k5, ho, hv⟩
    · cases q
  · cases q
/-- all that is asked of such a class; fs: its fields -/
structure XCl (K : PySem.W.Frag) (C : Addr) (fs : List Str) : Prop where
  o : OexC K C
  e : ExcC K C
  x : XfC K C
  no : ∀ f ∈ fs, PySem.W.findIn K (.ref C) f = some none
def xclB (K : PySem.W.Frag) (C : Addr) (fs : List Str) : Bool :=
  oexB K C && (decide (PySem.W.findIn K (.ref C) "__setattr__" = some (some (.builtin "object.__setattr__"))) && (decide (PySem.W.subIn K (.ref C) (.type "BaseException") = some true) && (decide (PySem.W.typeIn K (.ref C) = some (.type "type")) &&
  (PySem.W.keepIn K (.ref C) && (decide (PySem.W.findIn K (.ref C) "__getattribute__" = some (some (.builtin "BaseException.__getattribute__"))) && (decide (PySem.W.findIn K (.ref C) "__getattr__" = some none) && (PySem.W.hasDictIn K C &&
  (decide (PySem.W.findIn K (.ref C) "__class__" = some (some (.builtin "object.__class__"))) && (decide (PySem.W.specialIn K (.builtin "object.__class__") "__get__" = some (some (.builtin "getset_descriptor.__get__"))) &&
  (decide (PySem.W.takesIn K (.builtin "object.__class__") = some true) && (decide (PySem.W.mroIn K C (.type "object") = some true) && fs.all fun f => decide (PySem.W.findIn K (.ref C) f = some none))))))))))))
theorem xclB_ok {K : PySem.W.Frag} {C : Addr} {fs : List Str} (h : xclB K C fs = true) : XCl K C fs := by
  obtain ⟨h1, h⟩ := Bool.and_eq_true_iff.mp h
  obtain ⟨h2, h⟩ := Bool.and_eq_true_iff.mp h
  obtain ⟨h3, h⟩ := Bool.and_eq_true_iff.mp h
  obtain ⟨h4, h⟩ := Bool.and_eq_true_iff.mp h
  obtain ⟨h5, h⟩ := Bool.and_eq_true_iff.mp h
  obtain ⟨h6, h⟩ := Bool.and_eq_true_iff.mp h
  obtain ⟨h7, h⟩ := Bool.and_eq_true_iff.mp h
  obtain ⟨h8, h⟩ := Bool.and_eq_true_iff.mp h
  obtain ⟨h9, h⟩ := Bool.and_eq_true_iff.mp h
  obtain ⟨h10, h⟩ := Bool.and_eq_true_iff.mp h
  obtain ⟨h11, h⟩ := Bool.and_eq_true_iff.mp h
  obtain ⟨h12, h13⟩ := Bool.and_eq_true_iff.mp h
  exact ⟨⟨oexB_ok h1, of_decide_eq_true h2, of_decide_eq_true h3, of_decide_eq_true h4, h5⟩, ⟨of_decide_eq_true h6, of_decide_eq_true h7, of_decide_eq_true h3, h8, of_decide_eq_true h9, of_decide_eq_true h10, of_decide_eq_true h11, of_decide_eq_true h12⟩,
    ⟨of_decide_eq_true h6, of_decide_eq_true h7, of_decide_eq_true h3, h8⟩, fun f hf => of_decide_eq_true (List.all_eq_true.mp h13 f hf)⟩
/-- its __init__ -/
def iniB (K : PySem.W.Frag) (C : Addr) : Bool := He.eqO (PySem.W.findIn K (.ref C) "__init__") (some (some (.ref (He.ma K C "__init__")))) && decide (PySem.W.typeIn K (.ref (He.ma K C "__init__")) = some (.type "function"))
theorem iniB_ok {K : PySem.W.Frag} {C : Addr} {fs : List Str} (c : XCl K C fs) (h : iniB K C = true) : XMk K C (He.ma K C "__init__") := by
  obtain ⟨h1, h2⟩ := Bool.and_eq_true_iff.mp h
  exact ⟨c.o, He.eqO_ok h1, of_decide_eq_true h2⟩
/-! ### promises -/
/-- __init__(self, f): self.f = f -/
def spI1 (C : Addr) (f : Str) : Sp := fun vs H Q _ => ∃ (a : Addr) (v : V), vs = [.ref a, v] ∧ H a = some (exo a C none) ∧ ∀ (d : Addr) (H' : Hp), H d = none → Exv H' a C d [(f, v)] → Kp a H H' → Q .non H'
/-- __init__(self, f, g): self.f = f; self.g = g -/
def spI2 (C : Addr) (f g : Str) : Sp := fun vs H Q _ => ∃ (a : Addr) (v u : V), vs = [.ref a, v, u] ∧ H a = some (exo a C none) ∧ ∀ (d : Addr) (H' : Hp), H d = none → Exv H' a C d [(g, u), (f, v)] → Kp a H H' → Q .non H'
section
variable {P : Program} {w : World} {K : PySem.W.Frag} {mg : Str → Option Value} {base : Heap} {C : Addr} {f g : Str}
theorem read_I1 {Q : VK} {H : Hp} {a : Addr} {v : V} {fs : List Str} (T : XCl K C fs) (hf : f ∈ fs) (ha : H a = some (exo a C none)) (k : ∀ (d : Addr) (H' : Hp), H d = none → Exv H' a C d [(f, v)] → Kp a H H' → Q .non H') {σ : L2.St} {D : Ends} (h0 : σ[0]? = some (some (.ref a))) (h1 : σ[1]? = some (some v))
    (hD : ∀ σ' H', Q .non H' → D.nx σ' H') : tOst K f (tVar 0) (tVar 1) D σ H := by
  refine ⟨_, h1, _, h0, a, C, rfl, T.o, T.no f hf, .inl ⟨ha, fun d hd hda => hD _ _ (k d _ hd ⟨?_, ?_⟩ fun b o hb e => ?_)⟩⟩
  · exact upd_same
  · rw [upd_ne hda]
    exact upd_same
  · rw [upd_ne hb, upd_ne (ne_of_none e hd)]
    exact e
theorem read_I2 {Q : VK} {H : Hp} {a : Addr} {v u : V} {fs : List Str} (T : XCl K C fs) (hf : f ∈ fs) (hg : g ∈ fs) (ha : H a = some (exo a C none)) (k : ∀ (d : Addr) (H' : Hp), H d = none → Exv H' a C d [(g, u), (f, v)] → Kp a H H' → Q .non H') {σ : L2.St} {D : Ends} (h0 : σ[0]? = some (some (.ref a)))
    (h1 : σ[1]? = some (some v)) (h2 : σ[2]? = some (some u)) (hD : ∀ σ' H', Q .non H' → D.nx σ' H') : tSeq (tOst K f (tVar 0) (tVar 1)) (tOst K g (tVar 0) (tVar 2)) D σ H := by
  refine ⟨_, h1, _, h0, a, C, rfl, T.o, T.no f hf, .inl ⟨ha, fun d hd hda => ?_⟩⟩
  refine ⟨_, h2, _, h0, a, C, rfl, T.o, T.no g hg, .inr ⟨d, [(f, v)], upd_same, by rw [upd_ne hda]; exact upd_same, (by show 1 ≤ 900; decide), hD _ _ (k d _ hd ⟨?_, upd_same⟩ fun b o hb e => ?_)⟩⟩
  · rw [upd_ne (Ne.symm hda)]
    exact upd_same
  · rw [upd_ne (ne_of_none e hd), upd_ne hb, upd_ne (ne_of_none e hd)]
    exact e
end
/-! ### making -/
section
variable {σ : L2.St} {H : Hp} {ta tk : TA} {C : Addr} {f g : Str} {P : V → Hp → Prop}
theorem xv_run {t : TE} {K : PySem.W.Frag} {Q : VK} (h : t σ H fun x H1 => ∃ (a C d : Addr) (fs : List (Str × V)) (v : V), x = .ref a ∧ Exv H1 a C d fs ∧ XfC K C ∧ PySem.W.findIn K (.ref C) f = some none ∧ fs.lookup f = some v ∧ Q v H1) : tXv K f t σ H Q := h
/-- e.f -/
theorem g_xv {t : TE} {K : PySem.W.Frag} {fs : List (Str × V)} {gs : List Str} {R : V → Hp → Prop} (T : XCl K C gs) (hf : f ∈ gs) (h : Gets t σ H (fun x H' => ∃ a d fs v, x = .ref a ∧ Exv H' a C d fs ∧ fs.lookup f = some v ∧ R v H')) :
    Gets (tXv K f t) σ H R := fun Q q => h _ fun x H1 s1 ⟨a, d, fs, v, e, X, l, r⟩ => ⟨a, C, d, fs, v, e, X, T.x, T.no f hf, l, q v H1 s1 r⟩
end
theorem vals_rev : ∀ {xs : List V} {us : List Value}, Vals xs us → Vals xs.reverse us.reverse
  | _, _, .nil => .nil
  | _, _, .cons (a := x) (b := u) r t => by
    rw [List.reverse_cons, List.reverse_cons]
    exact (vals_rev t).append (.cons r .nil)
/-! ### by name -/
theorem kbn_of {K : PySem.W.Frag} {x qual : Str} {params : Arguments} {body : List Stmt} {scope : Scope} {kws : List (Str × V)} {f : Addr} {fd : FuncData} {ps ks : List Str} {n : Nat} {g : List Value → List Value → List Value} {gV : List V → List V → List V}
    (F : FunD K x qual params body scope [] kws f fd)
    (h : ∀ (kV doc pm : Value) (an : Option Addr) (cdv ct : Value) (us ws : List Value), us.length = n → ws.length = ks.length → bindArgs (PySem.W.fnOf x qual params body scope .none kV doc pm an cdv ct) ⟨us, ks.zip ws⟩ = pure (ps.zip (g us ws)))
    (hrel : ∀ {vs : List V} {us : List Value} {zs : List V} {ws : List Value}, Vals vs us → Vals zs ws → Vals (gV vs zs) (g us ws)) : KBn K fd ps n ks g gV := by
  obtain ⟨oc, od, dV, kV, doc, pm, an, cdv, ct, osl, rfl, lk, hcd, hD, hK⟩ := F.ex
  rcases hD with ⟨_, rfl⟩ | ⟨e, _⟩
  · exact ⟨fun s us ws _ l1 l2 => .of_eq (h kV doc pm an cdv ct us ws l1 l2), hrel⟩
  · exact absurd rfl e
/-- the exception class x of the top, with one field -/
structure CalX1 (P : Program) (w : World) (K : PySem.W.Frag) (mg : Str → Option Value) (base : Heap) (x f : Str) : Prop where
  cl : XCl K (He.ga K x) [f]
  mkr : XMk K (He.ga K x) (He.ma K (He.ga K x) "__init__")
  gl : mg x = some (.ref (He.ga K x))
  ex : ∃ fd, FnOk P w K mg base CX0 1 (He.ma K (He.ga K x) "__init__") fd ["self", f] (spI1 (He.ga K x) f) ∧ KBn K fd ["self", f] 2 [] (fun us _ => us) (fun vs _ => vs) ∧ KBn K fd ["self", f] 1 [f] (fun us ws => us ++ ws) (fun vs zs => vs ++ zs)
/-- .. with two -/
structure CalX2 (P : Program) (w : World) (K : PySem.W.Frag) (mg : Str → Option Value) (base : Heap) (x f g : Str) : Prop where
  cl : XCl K (He.ga K x) [f, g]
  mkr : XMk K (He.ga K x) (He.ma K (He.ga K x) "__init__")
  gl : mg x = some (.ref (He.ga K x))
  ex : ∃ fd, FnOk P w K mg base CX0 1 (He.ma K (He.ga K x) "__init__") fd ["self", f, g] (spI2 (He.ga K x) f g) ∧ KBn K fd ["self", f, g] 3 [] (fun us _ => us) (fun vs _ => vs) ∧ KBn K fd ["self", f, g] 1 [g, f] (fun us ws => us ++ ws.reverse) (fun vs zs => vs ++ zs.reverse)
section
variable {X : Cx} {x f g : Str} {p pos : Pos} {e : Expr} {es : List Expr} {kws : List Keyword} {t tk : TA}
/-- x(e) -/
theorem pe_x1 (C : CalX1 X.prog X.w X.K X.mg X.base x f) (hr : Room 2 X.A) (ha : PA X (e :: es) t) (hg : Gl X x := by rfl) (hdb : (x == ("__debug__" : Str)) = false := by decide)
    (he : starEach (e :: es) X.env = (false, eval e X.env) :: starEach es X.env := by rfl) (hpl : (backTo pos (starEach es X.env)).any (·.1) = false := by rfl) :
    PE X (.Call (.Name x p) (e :: es) [] pos) (tExv (He.ga X.K x) 1 0 (spI1 (He.ga X.K x) f) (fun vs _ => vs) t tNil) := by
  obtain ⟨fd, F, b, _⟩ := C.ex
  exact pe_exv C.mkr F hr b pass0 (by decide) hg C.gl ha hdb he hpl
/-- x(f = e) -/
theorem pe_x1K (C : CalX1 X.prog X.w X.K X.mg X.base x f) (hr : Room 2 X.A) (hkw : PK X kws tk) (hg : Gl X x := by rfl)
    (hall : (backToKw pos (keywordEach kws X.env)).all (·.1.isSome) = true := by rfl) (hks : (backToKw pos (keywordEach kws X.env)).filterMap (·.1) = [f] := by rfl) (hdb : (x == ("__debug__" : Str)) = false := by decide)
    (hpl : ((backTo pos (starEach [] X.env)).any (·.1) || (backToKw pos (keywordEach kws X.env)).any (·.1.isNone)) = false := by rfl) :
    PE X (.Call (.Name x p) [] kws pos) (tExv (He.ga X.K x) 0 1 (spI1 (He.ga X.K x) f) (fun vs zs => vs ++ zs) tNil tk) := by
  obtain ⟨fd, F, _, b⟩ := C.ex
  exact pe_exvK C.mkr F hr b pass0 hg C.gl hkw hall hks hdb hpl
/-- x(d, e) -/
theorem pe_x2 (C : CalX2 X.prog X.w X.K X.mg X.base x f g) (hr : Room 2 X.A) (ha : PA X (e :: es) t) (hg : Gl X x := by rfl) (hdb : (x == ("__debug__" : Str)) = false := by decide)
    (he : starEach (e :: es) X.env = (false, eval e X.env) :: starEach es X.env := by rfl) (hpl : (backTo pos (starEach es X.env)).any (·.1) = false := by rfl) :
    PE X (.Call (.Name x p) (e :: es) [] pos) (tExv (He.ga X.K x) 2 0 (spI2 (He.ga X.K x) f g) (fun vs _ => vs) t tNil) := by
  obtain ⟨fd, F, b, _⟩ := C.ex
  exact pe_exv C.mkr F hr b pass0 (by decide) hg C.gl ha hdb he hpl
/-- x(g = d, f = e) -/
theorem pe_x2K (C : CalX2 X.prog X.w X.K X.mg X.base x f g) (hr : Room 2 X.A) (hkw : PK X kws tk) (hg : Gl X x := by rfl)
    (hall : (backToKw pos (keywordEach kws X.env)).all (·.1.isSome) = true := by rfl) (hks : (backToKw pos (keywordEach kws X.env)).filterMap (·.1) = [g, f] := by rfl) (hdb : (x == ("__debug__" : Str)) = false := by decide)
    (hpl : ((backTo pos (starEach [] X.env)).any (·.1) || (backToKw pos (keywordEach kws X.env)).any (·.1.isNone)) = false := by rfl) :
    PE X (.Call (.Name x p) [] kws pos) (tExv (He.ga X.K x) 0 2 (spI2 (He.ga X.K x) f g) (fun vs zs => vs ++ zs.reverse) tNil tk) := by
  obtain ⟨fd, F, _, b⟩ := C.ex
  exact pe_exvK C.mkr F hr b pass0 hg C.gl hkw hall hks hdb hpl
end
/-! ### what the making gets -/
section
variable {σ : L2.St} {H : Hp} {C : Addr} {f g : Str} {v u : V}
theorem mk_out {H' : Hp} {a d : Addr} {o : HO} {S : List Addr} {fs : List (Str × V)} (th : There S H) (ha : H a = none) (hd : upd H a o d = none) (X : Exv H' a C d fs) : Exv (hid S H') a C d fs := by
  have hda : d ≠ a := fun z => by
    rw [z, upd_same] at hd
    cases hd
  rw [upd_ne hda] at hd
  exact ⟨hid_at (th.new ha) X.1, hid_at (th.new hd) X.2⟩
theorem mk_same {H' : Hp} {a : Addr} {o : HO} (ha : H a = none) (kp : Kp a (upd H a o) H') : Same H H' := fun b u e => kp b u (ne_of_none e ha) (by rw [upd_ne (ne_of_none e ha)]; exact e)
/-- x(e), e giving v: out of reach of S -/
theorem made1 {t : TE} {S : List Addr} (th : There S H) (h : ∀ Q : VK, Q v H → t σ H Q) : Gets (tExv C 1 0 (spI1 C f) (fun vs _ => vs) (tCons t tNil) tNil) σ H (fun x H' => ∃ a d, x = .ref a ∧ Exv (hid S H') a C d [(f, v)]) := fun Q q =>
  h _ ⟨rfl, rfl, fun a ha => ⟨a, v, rfl, upd_same, fun d H' hd x kp => ⟨rfl, q _ _ (mk_same ha kp) ⟨a, d, rfl, mk_out th ha hd x⟩⟩⟩⟩
theorem made1K {t : TE} {S : List Addr} (th : There S H) (h : ∀ Q : VK, Q v H → t σ H Q) : Gets (tExv C 0 1 (spI1 C f) (fun vs zs => vs ++ zs) tNil (tCons t tNil)) σ H (fun x H' => ∃ a d, x = .ref a ∧ Exv (hid S H') a C d [(f, v)]) := fun Q q =>
  h _ ⟨rfl, rfl, fun a ha => ⟨a, v, rfl, upd_same, fun d H' hd x kp => ⟨rfl, q _ _ (mk_same ha kp) ⟨a, d, rfl, mk_out th ha hd x⟩⟩⟩⟩
theorem made2 {t t' : TE} {S : List Addr} (th : There S H) (h : ∀ Q : VK, Q v H → t σ H Q) (h' : ∀ Q : VK, Q u H → t' σ H Q) :
    Gets (tExv C 2 0 (spI2 C f g) (fun vs _ => vs) (tCons t (tCons t' tNil)) tNil) σ H (fun x H' => ∃ a d, x = .ref a ∧ Exv (hid S H') a C d [(g, u), (f, v)]) := fun Q q =>
  h _ (h' _ ⟨rfl, rfl, fun a ha => ⟨a, v, u, rfl, upd_same, fun d H' hd x kp => ⟨rfl, q _ _ (mk_same ha kp) ⟨a, d, rfl, mk_out th ha hd x⟩⟩⟩⟩)
theorem made2K {t t' : TE} {S : List Addr} (th : There S H) (h : ∀ Q : VK, Q u H → t σ H Q) (h' : ∀ Q : VK, Q v H → t' σ H Q) :
    Gets (tExv C 0 2 (spI2 C f g) (fun vs zs => vs ++ zs.reverse) tNil (tCons t (tCons t' tNil))) σ H (fun x H' => ∃ a d, x = .ref a ∧ Exv (hid S H') a C d [(g, u), (f, v)]) := fun Q q =>
  h _ (h' _ ⟨rfl, rfl, fun a ha => ⟨a, v, u, rfl, upd_same, fun d H' hd x kp => ⟨rfl, q _ _ (mk_same ha kp) ⟨a, d, rfl, mk_out th ha hd x⟩⟩⟩⟩)
end
end AP

set_option Elab.async false
set_option linter.all false
set_option maxRecDepth 100000
set_option maxHeartbeats 4000000
/-! A head that tells defs, names and any further truths of the written part. -/
namespace AP
open PySem PySem.Spec PyProof.Rows L2 He
def obsX (n : Nat) (fa : List Fa) (fn : List DefD) (fx : PySem.W.Frag → Bool) (g : Addr → Option Obj) : AlD × Bool := (obsD fa fn (frG g (sysModules :: asD g n)), fx (frG g (sysModules :: asD g n)))
def SaysX (fa : List Fa) (fn : List DefD) (fx : PySem.W.Frag → Bool) (K : PySem.W.Frag) : Prop := SaysD fa fn K ∧ fx K = true
def hookX (n : Nat) (fa : List Fa) (fn : List DefD) (fx : PySem.W.Frag → Bool) : PySem.W.Hook where
  α := AlD × Bool
  obs := fun s => obsX n fa fn fx s.heap.get?
  val := fun _ => (valD fn, true)
  says := fun _ h => ∃ K : PySem.W.Frag, K.In h ∧ SaysX fa fn fx K
  of := fun _ _ e => ⟨_, frG_in, congrArg Prod.fst e, congrArg Prod.snd e⟩
  keeps := fun _ _ _ ⟨K, hK, c⟩ k => ⟨K, PySem.W.Frag.In.keeps hK k, c⟩
theorem obsX_eq {n : Nat} {fa : List Fa} {fn : List DefD} {fx : PySem.W.Frag → Bool} {g : Addr → Option Obj} {s : Shared} (h : ∀ a, g a = s.heap.get? a) : obsX n fa fn fx g = (hookX n fa fn fx).obs s := by
  have e : g = s.heap.get? := funext h
  rw [e]
  rfl
def sysB (K : PySem.W.Frag) : Bool := match K.lookup sysModules with
  | some o => decide (o.cls = .type "dict")
  | none => false
theorem sysB_ok {K : PySem.W.Frag} (h : sysB K = true) : SysIn K := by
  unfold sysB at h
  cases q : K.lookup sysModules with
  | none =>
    rw [q] at h
    cases h
  | some o =>
    rw [q] at h
    exact ⟨o, q, of_decide_eq_true h⟩
/-- a def of the top that keeps sp -/
theorem cal_of {P : Program} {w : World} {K : PySem.W.Frag} {mg : Str → Option Value} {base : Heap} {CX : CXT} {k : Nat} {x : Str} {params : Arguments} {body : List Stmt} {scope : Scope} {kws : List (Str × V)} {ps : List Str} {sp : Sp} {fd : FuncData}
    (F : FunD K x x params body scope [] kws (ga K x) fd) (ok : FnOk P w K mg base CX k (ga K x) fd ps sp) (gl : mg x = some (.ref (ga K x)))
    (h : ∀ (kV doc pm : Value) (an : Option Addr) (cdv ct : Value) (us : List Value), us.length = ps.length → bindArgs (PySem.W.fnOf x x params body scope .none kV doc pm an cdv ct) ⟨us, []⟩ = pure (ps.zip us)) : Cal P w K mg base CX k x ps sp :=
  ⟨⟨fd, ok, F.bindsN h⟩, gl, F.kp⟩
theorem calG_of {P : Program} {w : World} {K : PySem.W.Frag} {mg : Str → Option Value} {base : Heap} {CX : CXT} {k : Nat} {x : Str} {params : Arguments} {body : List Stmt} {scope : Scope} {kws : List (Str × V)} {ps : List Str} {sp : Sp} {fd : FuncData}
    (F : FunD K x x params body scope [] kws (ga K x) fd) (ok : FnG P w K mg base CX k (ga K x) fd ps sp) (gl : mg x = some (.ref (ga K x)))
    (h : ∀ (kV doc pm : Value) (an : Option Addr) (cdv ct : Value) (us : List Value), us.length = ps.length → bindArgs (PySem.W.fnOf x x params body scope .none kV doc pm an cdv ct) ⟨us, []⟩ = pure (ps.zip us)) : CalG P w K mg base CX k x ps sp :=
  ⟨⟨fd, ok, F.bindsN h⟩, gl, F.kp⟩
end AP

set_option Elab.async false
set_option linter.all false
set_option maxRecDepth 100000
set_option maxHeartbeats 4000000
namespace K8
open PySem PySem.Spec PyProof.Rows L2 AP
def top (i : Nat) : Stmt := PySem.Challenge.pw_anypads_k08_errors_of_all_classes.main.body.getD i (.Pass ⟨0, 0, 0, 0⟩)
abbrev s_law_pen : Stmt := top 26
abbrev s_law_draw : Stmt := top 27
abbrev s_law_pick : Stmt := top 28
structure Tx (K : PySem.W.Frag) (mg : Str → Option Value) : Prop where
  int : mg "int" = none
  len : mg "len" = none
  abs : mg "abs" = none
  list : mg "list" = none
abbrev FnT (K : PySem.W.Frag) (x : Str) (st : Stmt) (fd : FuncData) : Prop := FunD K x x (defArgs st) (defBody st) (defScope st) [] [] (He.ga K x) fd
section
variable {P : Program} {w : World} {K : PySem.W.Frag} {mg : Str → Option Value} {base : Heap}
theorem sc_draw : FnScope ["_law_pen_here", "_law_many", "_law_digit", "_law_taken", "_law_cell", "_law_great", "_law_mixed"] ["_law_pen_here", "_law_many"] (defScope s_law_draw) := ⟨rfl, rfl, rfl, by decide +kernel, rfl, by decide +kernel, by decide +kernel⟩
theorem ok_draw (T : Tx K mg) {fd : FuncData} (F : FnT K "_law_draw" s_law_draw fd) : FnOk P w K mg base CX0 1 (He.ga K "_law_draw") fd ["_law_pen_here", "_law_many"] spDraw := by
  have sc := sc_draw
  refine ok0 F sc (fun vs H Q E h => ?_) (fun cdv A outer s H vs Q E hr h => ?_)
  · obtain ⟨p, c, n, m, rfl, _⟩ := h
    rfl
  obtain ⟨p, c, n, m, rfl, pen, hn, hm, hm2, k⟩ := h
  have hne := pen.ne
  obtain ⟨ns, t, r, hp, hc, ht, htn, hr0⟩ := pen
  refine ⟨_, (pss_cons (ps_if (pt_cmpR op_gt (pe_ix ix_list (pv 0) pe_int (fun _ _ => rfl)) pe_int (nomark _))
  (pss_cons (ps_set (i := 2) sc.nd rfl (Or.inl rfl) (pe_op op_mod (pe_callTy call_int1 (by rfl) T.int (by decide +kernel) (pa_cons (pe_ix ix_list (pv 0) pe_int (fun _ _ => rfl)) pa_nil)) (pv 1)))
  (pss_cons (ps_asg (pe_op op_fdiv (pe_callTy call_int1 (by rfl) T.int (by decide +kernel) (pa_cons (pe_ix ix_list (pv 0) pe_int (fun _ _ => rfl)) pa_nil)) (pv 1)) (pg_sub (pv 0) pe_int set_list))
  (pss_one (ps_ret (pv 2)))))
  pss_nil)
  (pss_cons (ps_set (i := 3) sc.nd rfl (Or.inl rfl) (pe_ix ix_list (pv 0) pe_int (fun _ _ => rfl)))
  (pss_cons (ps_asg (pe_op op_add (pv 3) pe_int) (pg_sub (pv 0) pe_int set_list))
  (pss_cons (ps_set (i := 4) sc.nd rfl (Or.inl rfl) (pe_op op_add (pe_op op_mul pe_int (pv 3)) pe_int))
  (pss_cons (ps_if (pt_cmpR (op_neD hr.units) (pe_ix ix_list (pv 0) pe_int (fun _ _ => rfl)) (pe_lst pa_nil) (nomark _))
  (pss_one (ps_set (i := 4) sc.nd rfl (Or.inl rfl) (pe_ix ix_list (pe_ix ix_list (pv 0) pe_int (fun _ _ => rfl)) (pe_op op_mod (pe_callTy call_int1 (by rfl) T.int (by decide +kernel) (pa_cons (pv 3) pa_nil)) (pe_callB call_len (by rfl) T.len (by decide +kernel) (pa_cons (pe_ix ix_list (pv 0) pe_int (fun _ _ => rfl)) pa_nil))) (fun _ _ => rfl))))
  pss_nil)
  (pss_cons (ps_if (PW.pt (pw_and (pt_cmpR op_lt (pv 3) (pe_callB call_len (by rfl) T.len (by decide +kernel) (pa_cons (pe_ix ix_list (pv 0) pe_int (fun _ _ => rfl)) pa_nil)) (nomark _)) (pw_and1 (pt_cmpR op_ge (pe_callB call_abs (by rfl) T.abs (by decide +kernel) (pa_cons (pv 4) pa_nil)) (pe_op op_pow pe_int pe_int) (nomark _)))))
  (pss_cons (ps_set (i := 5) sc.nd rfl (Or.inl rfl) (pe_op op_add (pe_op op_mul pe_int (pe_op op_sub (pe_callB call_abs (by rfl) T.abs (by decide +kernel) (pa_cons (pv 4) pa_nil)) (pe_op op_pow pe_int pe_int))) (pe_callTy call_int1 (by rfl) T.int (by decide +kernel) (pa_cons (pe_cmpR op_lt (pv 4) pe_int (nomark _)) pa_nil))))
  (pss_cons (ps_asg (pe_op op_fdiv (pe_callTy call_int1 (by rfl) T.int (by decide +kernel) (pa_cons (pv 5) pa_nil)) (pv 1)) (pg_sub (pv 0) pe_int set_list))
  (pss_one (ps_ret (pe_op op_mod (pe_callTy call_int1 (by rfl) T.int (by decide +kernel) (pa_cons (pv 5) pa_nil)) (pv 1))))))
  pss_nil)
  (pss_cons (ps_set (i := 6) sc.nd rfl (Or.inl rfl) (pe_op op_mod (pe_callTy call_int1 (by rfl) T.int (by decide +kernel) (pa_cons (pe_op op_pow (pe_op op_add (pe_op op_add (pe_op op_mod (pe_callTy call_int1 (by rfl) T.int (by decide +kernel) (pa_cons (pv 4) pa_nil)) pe_int) (pe_op op_mul pe_int (pv 3))) pe_int) pe_int) pa_nil)) pe_int))
  (pss_cons (ps_set (i := 6) sc.nd rfl (Or.inl rfl) (pe_op op_mod (pe_callTy call_int1 (by rfl) T.int (by decide +kernel) (pa_cons (pe_op op_pow (pe_op op_add (pe_op op_add (pe_op op_mul (pv 6) (pe_op op_add (pe_op op_mul pe_int (pv 3)) pe_int)) (pe_op op_mul (pe_op op_mul pe_int (pv 3)) (pv 3))) pe_int) pe_int) pa_nil)) pe_int))
  (pss_one (ps_ret (pe_op op_mod (pe_callTy call_int1 (by rfl) T.int (by decide +kernel) (pa_cons (pe_op op_fdiv (pv 6) pe_int) pa_nil)) (pv 1)))))))))))), ?_⟩
  refine ⟨_, rfl, p, _, _, _, rfl, rfl, SqL.of hp, rfl, _, _, rfl, rfl, _, rfl, ?_⟩
  refine ite2 (fun hpos => ?_) (fun hneg => ?_)
  · have hrp : 0 < r := of_decide_eq_true hpos
    refine ⟨_, rfl, p, _, _, _, rfl, rfl, SqL.of hp, rfl, .inl ⟨_, rfl, _, rfl, _, _, rfl, rfl, hm, ?_⟩⟩
    refine ⟨_, rfl, p, _, _, _, rfl, rfl, SqL.of hp, rfl, .inl ⟨_, rfl, _, rfl, _, _, rfl, rfl, ⟨hm, hm2⟩, ?_⟩⟩
    refine ⟨_, rfl, p, _, _, _, rfl, rfl, hp, rfl, _, rfl, ?_⟩
    refine k _ _ (Int.emod_nonneg _ (by omega)) (Int.emod_lt_of_pos _ hm) ⟨ns, t, r / m, upd_same, by rw [upd_ne hne]; exact hc, ht, by omega, Int.ediv_nonneg hr0 (by omega)⟩ fun b o hb e => by rw [upd_ne hb]; exact e
  · have hp1 : upd H p (.lst [.ref c, .int (t + 1), .int r]) p = some (.lst [.ref c, .int (t + 1), .int r]) := upd_same
    have hc1 : upd H p (.lst [.ref c, .int (t + 1), .int r]) c = some (.lst (ns.map V.int)) := by rw [upd_ne hne]; exact hc
    have kp1 : Kp p H (upd H p (.lst [.ref c, .int (t + 1), .int r])) := fun b o hb e => by rw [upd_ne hb]; exact e
    refine ⟨_, rfl, p, _, _, _, rfl, rfl, SqL.of hp, rfl, _, rfl, _, _, rfl, rfl, _, rfl, p, _, _, _, rfl, rfl, hp, rfl, ?_⟩
    refine ⟨_, rfl, _, _, rfl, rfl, .inl ⟨by decide, by decide⟩, _, _, rfl, rfl, ?_⟩
    refine ⟨_, rfl, p, _, _, _, rfl, rfl, SqL.of hp1, rfl, by decide, fun l hl => ⟨.list (ns.map PyData.int), .list [], .lst (SqL.of ((Same.new hl) _ _ hc1)) (dp_ints ns), .lst (SqL.of upd_same) .nil, shaped_ints ns, rfl, _, rfl, ?_⟩⟩
    have s2 : Same (upd H p (.lst [.ref c, .int (t + 1), .int r])) (upd (upd H p (.lst [.ref c, .int (t + 1), .int r])) l (.lst [])) := Same.new hl
    have hp2 := s2 _ _ hp1
    have hc2 := s2 _ _ hc1
    have kp2 : Kp p H (upd (upd H p (.lst [.ref c, .int (t + 1), .int r])) l (.lst [])) := kp1.trans (Kp.of s2)
    have fin : ∀ (r' x : Int), 0 ≤ r' → 0 ≤ x → x < m → Q (.int x) (upd (upd (upd H p (.lst [.ref c, .int (t + 1), .int r])) l (.lst [])) p (.lst [.ref c, .int (t + 1), .int r'])) := fun r' x h0 h1 h2 =>
      k _ x h1 h2 ⟨ns, t + 1, r', upd_same, by rw [upd_ne hne]; exact hc2, by omega, by omega, h0⟩ (kp2.trans fun b o hb e => by rw [upd_ne hb]; exact e)
    have fin2 : ∀ x : Int, 0 ≤ x → x < m → Q (.int x) (upd (upd H p (.lst [.ref c, .int (t + 1), .int r])) l (.lst [])) := fun x h1 h2 => k _ x h1 h2 ⟨ns, t + 1, r, hp2, hc2, by omega, by omega, hr0⟩ kp2
    refine ite2 (fun hemp => ?_) (fun hemp => ?_)
    · have hlen : 0 < ns.length := by
        cases ns with
        | nil => cases hemp
        | cons a l => exact Nat.succ_pos _
      have hix : ∃ v, atI (ns.map V.int) (t % ((ns.map V.int).length : Int)) = some (V.int v) := by
        have hl' : ((ns.map V.int).length : Int) = ns.length := by rw [List.length_map]
        obtain ⟨v, h1, h2⟩ := atI_of (xs := ns.map V.int) (i := t % ((ns.map V.int).length : Int)) (Int.emod_nonneg _ (by omega)) (Int.emod_lt_of_pos _ (by omega))
        obtain ⟨z, _, rfl⟩ := List.mem_map.mp h2
        exact ⟨z, h1⟩
      obtain ⟨z, hz⟩ := hix
      refine ⟨_, rfl, p, _, _, _, rfl, rfl, SqL.of hp2, rfl, _, rfl, .inl ⟨_, rfl, _, rfl, p, _, _, _, rfl, rfl, SqL.of hp2, rfl, _, _, rfl, .inl ⟨_, SqL.of hc2, rfl⟩, _, _, rfl, rfl, (by rw [List.length_map]; omega), c, _, _, _, rfl, rfl, SqL.of hc2, hz, ?_⟩⟩
      refine ⟨_, rfl, _, rfl, p, _, _, _, rfl, rfl, SqL.of hp2, rfl, _, _, rfl, .inl ⟨_, SqL.of hc2, rfl⟩, _, _, rfl, rfl, _, rfl, ?_⟩
      refine ite2 (fun _ => ?_) (fun _ => ?_)
      · refine ⟨_, rfl, _, rfl, _, _, rfl, rfl, ⟨by decide, by decide, by decide⟩, _, _, rfl, rfl, _, rfl, ?_⟩
        refine ite2 (fun hbig => ?_) (fun _ => ?_)
        · refine ⟨_, rfl, _, rfl, _, _, rfl, rfl, ⟨by decide, by decide, by decide⟩, _, _, rfl, rfl, _, _, rfl, rfl, .inl ⟨by decide, by decide⟩, _, rfl, _, _, rfl, rfl, .inr ⟨_, rfl, _, _, rfl, rfl, ?_⟩⟩
          refine ⟨_, rfl, .inl ⟨_, rfl, _, rfl, _, _, rfl, rfl, ⟨hm, hm2⟩, ?_⟩⟩
          refine ⟨_, rfl, p, _, _, _, rfl, rfl, hp2, rfl, _, rfl, .inl ⟨_, rfl, _, rfl, _, _, rfl, rfl, hm, ?_⟩⟩
          exact fin _ _ (Int.ediv_nonneg (great_nonneg (of_decide_eq_true hbig)) (by omega)) (Int.emod_nonneg _ (by omega)) (Int.emod_lt_of_pos _ hm)
        · have hn' : t ≤ 1000000 := by omega
          refine ⟨_, rfl, .inl ⟨_, rfl, _, _, rfl, rfl, (by show (0 : Int) < 2147483563; decide), _, rfl, _, _, rfl, rfl, .inl ⟨by decide, by decide⟩, _, _, rfl, rfl, _, _, rfl, rfl, _, _, rfl, rfl, ⟨by decide, by decide, pow_bound (by omega) (by omega)⟩, .inl ⟨_, rfl, _, _, rfl, rfl, (by show (0 : Int) < 2147483629; decide), ?_⟩⟩⟩
          refine ⟨_, rfl, _, rfl, _, _, rfl, rfl, .inl ⟨by decide, by decide⟩, _, _, rfl, rfl, _, _, rfl, rfl, .inl ⟨by omega, by omega⟩, _, rfl, _, _, rfl, rfl, .inl ⟨by decide, by decide⟩, _, rfl, _, _, rfl, rfl, .inl ⟨by omega, by omega⟩, _, _, rfl, rfl, _, _, rfl, rfl, _, _, rfl, rfl, ⟨by decide, by decide, ?pb⟩, .inl ⟨_, rfl, _, _, rfl, rfl, (by show (0 : Int) < 2147483587; decide), ?_⟩⟩
          case pb => exact mix_bound (Int.emod_nonneg _ (by decide)) (Int.emod_lt_of_pos _ (by decide)) ht hn' (by decide) (by decide) (by decide) (by decide) (by decide) (by decide)
          refine ⟨_, rfl, _, _, rfl, rfl, ⟨by decide, by decide⟩, .inl ⟨_, rfl, _, rfl, _, _, rfl, rfl, hm, ?_⟩⟩
          exact fin2 _ (Int.emod_nonneg _ (by omega)) (Int.emod_lt_of_pos _ hm)
      · have hn' : t ≤ 1000000 := by omega
        refine ⟨_, rfl, .inl ⟨_, rfl, _, _, rfl, rfl, (by show (0 : Int) < 2147483563; decide), _, rfl, _, _, rfl, rfl, .inl ⟨by decide, by decide⟩, _, _, rfl, rfl, _, _, rfl, rfl, _, _, rfl, rfl, ⟨by decide, by decide, pow_bound (by omega) (by omega)⟩, .inl ⟨_, rfl, _, _, rfl, rfl, (by show (0 : Int) < 2147483629; decide), ?_⟩⟩⟩
        refine ⟨_, rfl, _, rfl, _, _, rfl, rfl, .inl ⟨by decide, by decide⟩, _, _, rfl, rfl, _, _, rfl, rfl, .inl ⟨by omega, by omega⟩, _, rfl, _, _, rfl, rfl, .inl ⟨by decide, by decide⟩, _, rfl, _, _, rfl, rfl, .inl ⟨by omega, by omega⟩, _, _, rfl, rfl, _, _, rfl, rfl, _, _, rfl, rfl, ⟨by decide, by decide, ?pb⟩, .inl ⟨_, rfl, _, _, rfl, rfl, (by show (0 : Int) < 2147483587; decide), ?_⟩⟩
        case pb => exact mix_bound (Int.emod_nonneg _ (by decide)) (Int.emod_lt_of_pos _ (by decide)) ht hn' (by decide) (by decide) (by decide) (by decide) (by decide) (by decide)
        refine ⟨_, rfl, _, _, rfl, rfl, ⟨by decide, by decide⟩, .inl ⟨_, rfl, _, rfl, _, _, rfl, rfl, hm, ?_⟩⟩
        exact fin2 _ (Int.emod_nonneg _ (by omega)) (Int.emod_lt_of_pos _ hm)
    · refine ⟨_, rfl, _, rfl, p, _, _, _, rfl, rfl, SqL.of hp2, rfl, _, _, rfl, .inl ⟨_, SqL.of hc2, rfl⟩, _, _, rfl, rfl, _, rfl, ?_⟩
      refine ite2 (fun _ => ?_) (fun _ => ?_)
      · refine ⟨_, rfl, _, rfl, _, _, rfl, rfl, ⟨by decide, by decide, by decide⟩, _, _, rfl, rfl, _, rfl, ?_⟩
        refine ite2 (fun hbig => ?_) (fun _ => ?_)
        · refine ⟨_, rfl, _, rfl, _, _, rfl, rfl, ⟨by decide, by decide, by decide⟩, _, _, rfl, rfl, _, _, rfl, rfl, .inl ⟨by decide, by decide⟩, _, rfl, _, _, rfl, rfl, .inr ⟨_, rfl, _, _, rfl, rfl, ?_⟩⟩
          refine ⟨_, rfl, .inl ⟨_, rfl, _, rfl, _, _, rfl, rfl, ⟨hm, hm2⟩, ?_⟩⟩
          refine ⟨_, rfl, p, _, _, _, rfl, rfl, hp2, rfl, _, rfl, .inl ⟨_, rfl, _, rfl, _, _, rfl, rfl, hm, ?_⟩⟩
          exact fin _ _ (Int.ediv_nonneg (great_nonneg (of_decide_eq_true hbig)) (by omega)) (Int.emod_nonneg _ (by omega)) (Int.emod_lt_of_pos _ hm)
        · have hn' : t ≤ 1000000 := by omega
          refine ⟨_, rfl, .inl ⟨_, rfl, _, _, rfl, rfl, (by show (0 : Int) < 2147483563; decide), _, rfl, _, _, rfl, rfl, .inl ⟨by decide, by decide⟩, _, _, rfl, rfl, _, _, rfl, rfl, _, _, rfl, rfl, ⟨by decide, by decide, pow_bound (by omega) (by omega)⟩, .inl ⟨_, rfl, _, _, rfl, rfl, (by show (0 : Int) < 2147483629; decide), ?_⟩⟩⟩
          refine ⟨_, rfl, _, rfl, _, _, rfl, rfl, .inl ⟨by decide, by decide⟩, _, _, rfl, rfl, _, _, rfl, rfl, .inl ⟨by omega, by omega⟩, _, rfl, _, _, rfl, rfl, .inl ⟨by decide, by decide⟩, _, rfl, _, _, rfl, rfl, .inl ⟨by omega, by omega⟩, _, _, rfl, rfl, _, _, rfl, rfl, _, _, rfl, rfl, ⟨by decide, by decide, ?pb⟩, .inl ⟨_, rfl, _, _, rfl, rfl, (by show (0 : Int) < 2147483587; decide), ?_⟩⟩
          case pb => exact mix_bound (Int.emod_nonneg _ (by decide)) (Int.emod_lt_of_pos _ (by decide)) ht hn' (by decide) (by decide) (by decide) (by decide) (by decide) (by decide)
          refine ⟨_, rfl, _, _, rfl, rfl, ⟨by decide, by decide⟩, .inl ⟨_, rfl, _, rfl, _, _, rfl, rfl, hm, ?_⟩⟩
          exact fin2 _ (Int.emod_nonneg _ (by omega)) (Int.emod_lt_of_pos _ hm)
      · have hn' : t ≤ 1000000 := by omega
        refine ⟨_, rfl, .inl ⟨_, rfl, _, _, rfl, rfl, (by show (0 : Int) < 2147483563; decide), _, rfl, _, _, rfl, rfl, .inl ⟨by decide, by decide⟩, _, _, rfl, rfl, _, _, rfl, rfl, _, _, rfl, rfl, ⟨by decide, by decide, pow_bound (by omega) (by omega)⟩, .inl ⟨_, rfl, _, _, rfl, rfl, (by show (0 : Int) < 2147483629; decide), ?_⟩⟩⟩
        refine ⟨_, rfl, _, rfl, _, _, rfl, rfl, .inl ⟨by decide, by decide⟩, _, _, rfl, rfl, _, _, rfl, rfl, .inl ⟨by omega, by omega⟩, _, rfl, _, _, rfl, rfl, .inl ⟨by decide, by decide⟩, _, rfl, _, _, rfl, rfl, .inl ⟨by omega, by omega⟩, _, _, rfl, rfl, _, _, rfl, rfl, _, _, rfl, rfl, ⟨by decide, by decide, ?pb⟩, .inl ⟨_, rfl, _, _, rfl, rfl, (by show (0 : Int) < 2147483587; decide), ?_⟩⟩
        case pb => exact mix_bound (Int.emod_nonneg _ (by decide)) (Int.emod_lt_of_pos _ (by decide)) ht hn' (by decide) (by decide) (by decide) (by decide) (by decide) (by decide)
        refine ⟨_, rfl, _, _, rfl, rfl, ⟨by decide, by decide⟩, .inl ⟨_, rfl, _, rfl, _, _, rfl, rfl, hm, ?_⟩⟩
        exact fin2 _ (Int.emod_nonneg _ (by omega)) (Int.emod_lt_of_pos _ hm)
theorem sc_pen : FnScope ["_law_script"] ["_law_script"] (defScope s_law_pen) := ⟨rfl, rfl, rfl, by decide +kernel, rfl, by decide +kernel, by decide +kernel⟩
theorem ok_pen (T : Tx K mg) {fd : FuncData} (F : FnT K "_law_pen" s_law_pen fd) : FnOk P w K mg base CX0 1 (He.ga K "_law_pen") fd ["_law_script"] (spPen K) := by
  have sc := sc_pen
  refine ok0 F sc (fun vs H Q E h => ?_) (fun cdv A outer s H vs Q E hr h => ?_)
  · obtain ⟨a, ns, rfl, _⟩ := h
    rfl
  obtain ⟨a, ns, rfl, hS, k⟩ := h
  refine ⟨_, (pss_one (ps_ret (pe_lst (pa_cons (pe_callTy call_list_of (by rfl) T.list (by decide +kernel) (pa_cons (pe_slice sl_list (pv 0) po_none (po_some pe_int)) pa_nil)) (pa_cons pe_int (pa_cons pe_int pa_nil)))))), ?_⟩
  obtain ⟨ms, hms⟩ := cut_ints ns none (some 63)
  refine ⟨_, rfl, _, rfl, a, _, rfl, hS, fun q hq => ⟨q, _, rfl, .inl (SqL.of upd_same), fun l hl => ⟨(by show 3 ≤ sizeLine; decide), fun p hp => ?_⟩⟩⟩
  have s1 := Same.new (o := .lst (cutV (ns.map V.int) none (some 63))) hq
  have s2 := Same.new (o := .lst (cutV (ns.map V.int) none (some 63))) hl
  have s3 := Same.new (o := .lst [.ref l, .int 0, .int 0]) hp
  exact k _ p l (s1.free (s2.free hp)) ⟨ms, 0, 0, upd_same, s3 _ _ (by rw [upd_same, hms]), by decide, by decide, by decide⟩ ((s1.trans s2).trans s3)
theorem sc_pick : FnScope ["_law_pen_here", "_law_some"] ["_law_pen_here", "_law_some"] (defScope s_law_pick) := ⟨rfl, rfl, rfl, by decide +kernel, rfl, by decide +kernel, by decide +kernel⟩
theorem ok_pick (T : Tx K mg) (C__law_draw : Cal P w K mg base CX0 1 "_law_draw" ["_law_pen_here", "_law_many"] spDraw) {fd : FuncData} (F : FnT K "_law_pick" s_law_pick fd) : FnOk P w K mg base CX0 2 (He.ga K "_law_pick") fd ["_law_pen_here", "_law_some"] spPick := by
  have sc := sc_pick
  refine ok0 F sc (fun vs H Q E h => ?_) (fun cdv A outer s H vs Q E hr h => ?_)
  · obtain ⟨p, c, l, n, xs, rfl, _⟩ := h
    rfl
  obtain ⟨p, c, l, n, xs, rfl, pen, hn, hlp, hl, h0, h1, k⟩ := h
  refine ⟨_, (pss_one (ps_ret (pe_ix ix_list (pv 1) (pe_f C__law_draw (hr.mono (by decide)) pass0 (pa_cons (pv 0) (pa_cons (pe_callB call_len (by rfl) T.len (by decide +kernel) (pa_cons (pv 1) pa_nil)) pa_nil))) (fun _ _ => rfl)))), ?_⟩
  refine ⟨_, rfl, _, rfl, _, rfl, _, _, rfl, .inl ⟨_, SqL.of hl, rfl⟩, p, c, n, _, rfl, pen, hn, by omega, by omega, fun H' r hr0 hr1 pen' kp => ?_⟩
  obtain ⟨x, hx, hm⟩ := atI_of hr0 hr1
  exact ⟨l, xs, r, x, rfl, rfl, SqL.of (kp l _ hlp hl), hx, k H' x hm pen' kp⟩
end
end K8

set_option Elab.async false
set_option linter.all false
set_option maxRecDepth 100000
set_option maxHeartbeats 400000
namespace K8
open PySem PySem.Spec PyProof.Rows L2 AP
abbrev s_law_value : Stmt := top 29
def spVal (K : PySem.W.Frag) : Sp := fun vs H Q _ => ∃ (p c : Addr) (n : Nat), vs = [.ref p] ∧ Pen H p c n ∧ n ≤ 999990 ∧
  ∀ (H' : Hp) (v : V) (d : PyData), Dv K [p] H' v d → fineB 3 60 d = true → Pen H' p c (n + 2) → Kp p H H' → Q v H'
abbrev ds1 : List PyData := [.none, .bool true, .bool false, .int 0, .int (-3), .int ((10 : Int) ^ (40 : Int).toNat), .str "", .str "size int", .str "a.b", .tuple [], .tuple [.str "p", .str "q"], .list [.int 1, .none], .dict [(.str "a", .tuple [.int 1, .int 2])]]
abbrev ds2 : List PyData := [.list [.list [], .dict []], .str "~", .tuple [.str "byte", .str "align k", .int (-1)]]
theorem fine1 : ∀ d ∈ ds1, fineB 3 60 d = true := List.all_eq_true.mp (by decide +kernel : (ds1.all fun d => fineB 3 60 d) = true)
theorem fine2 : ∀ d ∈ ds2, fineB 3 60 d = true := List.all_eq_true.mp (by decide +kernel : (ds2.all fun d => fineB 3 60 d) = true)
section
variable {P : Program} {w : World} {K : PySem.W.Frag} {mg : Str → Option Value} {base : Heap}
theorem sc_value : FnScope ["_law_pen_here", "_law_some"] ["_law_pen_here"] (defScope s_law_value) := ⟨rfl, rfl, rfl, by decide +kernel, rfl, by decide +kernel, by decide +kernel⟩
theorem ok_value (T : Tx K mg) (C__law_draw : Cal P w K mg base CX0 1 "_law_draw" ["_law_pen_here", "_law_many"] spDraw) (C__law_pick : Cal P w K mg base CX0 2 "_law_pick" ["_law_pen_here", "_law_some"] spPick) {fd : FuncData} (F : FnT K "_law_value" s_law_value fd) :
    FnOk P w K mg base CX0 3 (He.ga K "_law_value") fd ["_law_pen_here"] (spVal K) := by
  have sc := sc_value
  refine ok0 F sc (fun vs H Q E h => ?_) (fun cdv A outer s H vs Q E hr h => ?_)
  · obtain ⟨p, c, n, rfl, _⟩ := h
    rfl
  obtain ⟨p, c, n, rfl, pen, hn, k⟩ := h
  refine ⟨_, (pss_cons (ps_set (i := 1) sc.nd rfl (Or.inl rfl) (pe_lst (pa_cons pe_non (pa_cons pe_bl (pa_cons pe_bl (pa_cons pe_int (pa_cons (pe_un un_neg pe_int) (pa_cons (pe_op op_pow pe_int pe_int) (pa_cons pe_str (pa_cons pe_str (pa_cons pe_str (pa_cons (pe_tup pa_nil) (pa_cons (pe_tup (pa_cons pe_str (pa_cons pe_str pa_nil))) (pa_cons (pe_lst (pa_cons pe_int (pa_cons pe_non pa_nil))) (pa_cons (pe_disp (pps_cons pe_str (pe_tup (pa_cons pe_int (pa_cons pe_int pa_nil))) pps_nil) (by rfl) (by rfl) (fun z => by cases z) (by decide)) pa_nil)))))))))))))))
  (pss_one (ps_ret (pe_f C__law_pick (hr.mono (by decide)) pass0 (pa_cons (pv 0) (pa_cons (pe_op op_cat (pv 1) (pe_lst (pa_cons (pe_f C__law_draw (hr.mono (by decide)) pass0 (pa_cons (pv 0) (pa_cons (pe_op op_pow pe_int pe_int) pa_nil))) (pa_cons (pe_lst (pa_cons (pe_lst pa_nil) (pa_cons pe_dnewK pa_nil))) (pa_cons pe_str (pa_cons (pe_tup (pa_cons pe_str (pa_cons pe_str (pa_cons (pe_un un_neg pe_int) pa_nil)))) pa_nil)))))) pa_nil)))))), ?_⟩
  have th : There [p] H := let ⟨o, e⟩ := pen.some; There.one e
  refine set_run (g_lstD (K := K) (ds := ds1) th (eda_cons ed_non (eda_cons ed_bl (eda_cons ed_bl (eda_cons ed_int (eda_cons ed_neg (eda_cons (ed_pow ⟨by decide, by decide, by decide⟩) (eda_cons ed_str (eda_cons ed_str (eda_cons ed_str
    (eda_cons (ed_tup eda_nil (by decide)) (eda_cons (ed_tup (eda_cons ed_str (eda_cons ed_str eda_nil)) (by decide)) (eda_cons (ed_lst (eda_cons ed_int (eda_cons ed_non eda_nil)) (by decide)) (eda_cons (ed_disp1 (ed_tup (eda_cons ed_int (eda_cons ed_int eda_nil)) (by decide))) eda_nil))))))))))))) (by decide) _ fun v H1 s1 hv => ?_)
  obtain ⟨l, xs, rfl, hl0, hl, hxs⟩ := hv
  have pen1 := pen.same s1
  have hlp : l ≠ p := fun e => by
    obtain ⟨o, z⟩ := pen.some
    rw [e, z] at hl0
    cases hl0
  refine ⟨_, rfl, _, rfl, _, rfl, _, _, rfl, rfl, ⟨by decide, by decide, by decide⟩, p, c, n, _, rfl, pen1, by omega, by decide, by decide, fun H2 r hr0 hr1 pen2 kp2 => ?_⟩
  have th2 : There [p] H2 := let ⟨o, e⟩ := pen2.some; There.one e
  have e2 : EvDA K [some (V.ref p), some (V.ref l)] _ ds2 := eda_cons (ed_lst (eda_cons (ed_lst eda_nil (by decide)) (eda_cons ed_dnew eda_nil)) (by decide)) (eda_cons ed_str (eda_cons (ed_tup (eda_cons ed_str (eda_cons ed_str (eda_cons ed_neg eda_nil))) (by decide)) eda_nil))
  refine e2 [p] H2 th2 _ fun ys H3 s3 hys => ?_
  have hy3 : ys.length = 3 := DqAll.length hys
  have hx13 : xs.length = 13 := DqAll.length hxs
  refine ⟨(by show ys.length + 1 ≤ sizeLine; rw [hy3]; decide), fun q hq => ⟨l, q, xs, _, rfl, rfl, Same.new hq _ _ (s3 _ _ (kp2 _ _ hlp hl)), upd_same, (by show xs.length + (ys.length + 1) ≤ sizeLine; rw [hy3, hx13]; decide), fun q2 hq2 => ?_⟩⟩
  have s4 := Same.new (o := .lst (.int r :: ys)) hq
  have s5 := Same.new (o := .lst (xs ++ .int r :: ys)) hq2
  have pen5 := ((pen2.same s3).same s4).same s5
  have hq2p : q2 ≠ p := fun e => by
    obtain ⟨o, z⟩ := ((pen2.same s3).same s4).some
    rw [e, z] at hq2
    cases hq2
  refine ⟨p, c, q2, n + 1, _, rfl, pen5, by omega, hq2p, upd_same, (by rw [List.length_append]; show 0 < xs.length + (ys.length + 1); omega), (by rw [List.length_append]; show xs.length + (ys.length + 1) ≤ 1000; omega), fun H6 x hx pen6 kp6 => ?_⟩
  have kpA : Kp p H H6 := ((((Kp.of s1).trans kp2).trans (Kp.of s3)).trans (Kp.of s4)).trans ((Kp.of s5).trans kp6)
  have dx : ∃ d, Dv K [p] H6 x d ∧ fineB 3 60 d = true := by
    rcases List.mem_append.mp hx with hx | hx
    · obtain ⟨d, hd, q⟩ := DqAll.mem hxs x hx
      exact ⟨d, Dv.kp q (((kp2.trans (Kp.of s3)).trans (Kp.of s4)).trans ((Kp.of s5).trans kp6)), fine1 d hd⟩
    · rcases List.mem_cons.mp hx with rfl | hx
      · exact ⟨.int r, .int r, fine_mono (fine_int (by
          have e6 : (10 : Int) ^ Int.toNat 6 = 1000000 := by decide
          omega)) (by decide) (by decide)⟩
      · obtain ⟨d, hd, q⟩ := DqAll.mem hys x hx
        exact ⟨d, Dv.kp q ((Kp.of s4).trans ((Kp.of s5).trans kp6)), fine2 d hd⟩
  obtain ⟨d, h1, h2⟩ := dx
  exact k H6 x d h1 h2 pen6 kpA
end
end K8

set_option Elab.async false
set_option linter.all false
set_option maxRecDepth 100000
set_option maxHeartbeats 1000000
namespace K8
open PySem PySem.Spec PyProof.Rows L2 AP
abbrev s_BadName : Stmt := inClass (top 2) 0
theorem sc_BadName : FnScope ["self", "name"] ["self", "name"] (defScope s_BadName) := ⟨rfl, rfl, rfl, by decide +kernel, rfl, by decide +kernel, by decide +kernel⟩
theorem ok_BadName {P : Program} {w : World} {K : PySem.W.Frag} {mg : Str → Option Value} {base : Heap} (c : XCl K (He.ga K "BadName") ["name"]) (m : XMk K (He.ga K "BadName") (He.ma K (He.ga K "BadName") "__init__")) (g : mg "BadName" = some (.ref (He.ga K "BadName"))) {fd : FuncData}
    (F : FunD K "__init__" "BadName.__init__" (defArgs s_BadName) (defBody s_BadName) (defScope s_BadName) [] [] (He.ma K (He.ga K "BadName") "__init__") fd) : CalX1 P w K mg base "BadName" "name" := by
  refine ⟨c, m, g, fd, ?_, kbn_of F (fun _ _ _ _ _ _ us ws l1 l2 => match us, ws, l1, l2 with | [_, _], [], _, _ => rfl) (fun r _ => r), kbn_of F (fun _ _ _ _ _ _ us ws l1 l2 => match us, ws, l1, l2 with | [_], [_], _, _ => rfl) (fun r1 r2 => r1.append r2)⟩
  have sc := sc_BadName
  refine ok0 F sc (fun vs H Q E h => ?_) (fun cdv A outer s H vs Q E hr h => ?_)
  · obtain ⟨a, v, rfl, _⟩ := h
    rfl
  obtain ⟨a, v, rfl, ha, k⟩ := h
  exact ⟨_, pss_one (ps_ost (pv 0) (pv 1)), read_I1 c (by decide +kernel) ha k rfl rfl fun _ _ q => q⟩
abbrev s_BadTimes : Stmt := inClass (top 3) 0
theorem sc_BadTimes : FnScope ["self", "value"] ["self", "value"] (defScope s_BadTimes) := ⟨rfl, rfl, rfl, by decide +kernel, rfl, by decide +kernel, by decide +kernel⟩
theorem ok_BadTimes {P : Program} {w : World} {K : PySem.W.Frag} {mg : Str → Option Value} {base : Heap} (c : XCl K (He.ga K "BadTimes") ["value"]) (m : XMk K (He.ga K "BadTimes") (He.ma K (He.ga K "BadTimes") "__init__")) (g : mg "BadTimes" = some (.ref (He.ga K "BadTimes"))) {fd : FuncData}
    (F : FunD K "__init__" "BadTimes.__init__" (defArgs s_BadTimes) (defBody s_BadTimes) (defScope s_BadTimes) [] [] (He.ma K (He.ga K "BadTimes") "__init__") fd) : CalX1 P w K mg base "BadTimes" "value" := by
  refine ⟨c, m, g, fd, ?_, kbn_of F (fun _ _ _ _ _ _ us ws l1 l2 => match us, ws, l1, l2 with | [_, _], [], _, _ => rfl) (fun r _ => r), kbn_of F (fun _ _ _ _ _ _ us ws l1 l2 => match us, ws, l1, l2 with | [_], [_], _, _ => rfl) (fun r1 r2 => r1.append r2)⟩
  have sc := sc_BadTimes
  refine ok0 F sc (fun vs H Q E h => ?_) (fun cdv A outer s H vs Q E hr h => ?_)
  · obtain ⟨a, v, rfl, _⟩ := h
    rfl
  obtain ⟨a, v, rfl, ha, k⟩ := h
  exact ⟨_, pss_one (ps_ost (pv 0) (pv 1)), read_I1 c (by decide +kernel) ha k rfl rfl fun _ _ q => q⟩
abbrev s_BadParts : Stmt := inClass (top 4) 0
theorem sc_BadParts : FnScope ["self", "at"] ["self", "at"] (defScope s_BadParts) := ⟨rfl, rfl, rfl, by decide +kernel, rfl, by decide +kernel, by decide +kernel⟩
theorem ok_BadParts {P : Program} {w : World} {K : PySem.W.Frag} {mg : Str → Option Value} {base : Heap} (c : XCl K (He.ga K "BadParts") ["at"]) (m : XMk K (He.ga K "BadParts") (He.ma K (He.ga K "BadParts") "__init__")) (g : mg "BadParts" = some (.ref (He.ga K "BadParts"))) {fd : FuncData}
    (F : FunD K "__init__" "BadParts.__init__" (defArgs s_BadParts) (defBody s_BadParts) (defScope s_BadParts) [] [] (He.ma K (He.ga K "BadParts") "__init__") fd) : CalX1 P w K mg base "BadParts" "at" := by
  refine ⟨c, m, g, fd, ?_, kbn_of F (fun _ _ _ _ _ _ us ws l1 l2 => match us, ws, l1, l2 with | [_, _], [], _, _ => rfl) (fun r _ => r), kbn_of F (fun _ _ _ _ _ _ us ws l1 l2 => match us, ws, l1, l2 with | [_], [_], _, _ => rfl) (fun r1 r2 => r1.append r2)⟩
  have sc := sc_BadParts
  refine ok0 F sc (fun vs H Q E h => ?_) (fun cdv A outer s H vs Q E hr h => ?_)
  · obtain ⟨a, v, rfl, _⟩ := h
    rfl
  obtain ⟨a, v, rfl, ha, k⟩ := h
  exact ⟨_, pss_one (ps_ost (pv 0) (pv 1)), read_I1 c (by decide +kernel) ha k rfl rfl fun _ _ q => q⟩
abbrev s_NoPath : Stmt := inClass (top 5) 0
theorem sc_NoPath : FnScope ["self", "path", "at"] ["self", "path", "at"] (defScope s_NoPath) := ⟨rfl, rfl, rfl, by decide +kernel, rfl, by decide +kernel, by decide +kernel⟩
theorem ok_NoPath {P : Program} {w : World} {K : PySem.W.Frag} {mg : Str → Option Value} {base : Heap} (c : XCl K (He.ga K "NoPath") ["path", "at"]) (m : XMk K (He.ga K "NoPath") (He.ma K (He.ga K "NoPath") "__init__")) (g : mg "NoPath" = some (.ref (He.ga K "NoPath"))) {fd : FuncData}
    (F : FunD K "__init__" "NoPath.__init__" (defArgs s_NoPath) (defBody s_NoPath) (defScope s_NoPath) [] [] (He.ma K (He.ga K "NoPath") "__init__") fd) : CalX2 P w K mg base "NoPath" "path" "at" := by
  refine ⟨c, m, g, fd, ?_, kbn_of F (fun _ _ _ _ _ _ us ws l1 l2 => match us, ws, l1, l2 with | [_, _, _], [], _, _ => rfl) (fun r _ => r), kbn_of F (fun _ _ _ _ _ _ us ws l1 l2 => match us, ws, l1, l2 with | [_], [_, _], _, _ => rfl) (fun r1 r2 => r1.append (vals_rev r2))⟩
  have sc := sc_NoPath
  refine ok0 F sc (fun vs H Q E h => ?_) (fun cdv A outer s H vs Q E hr h => ?_)
  · obtain ⟨a, v, u, rfl, _⟩ := h
    rfl
  obtain ⟨a, v, u, rfl, ha, k⟩ := h
  exact ⟨_, pss_cons (ps_ost (pv 0) (pv 1)) (pss_one (ps_ost (pv 0) (pv 2))), read_I2 c (by decide +kernel) (by decide +kernel) ha k rfl rfl rfl fun _ _ q => q⟩
abbrev s_NoName : Stmt := inClass (top 6) 0
theorem sc_NoName : FnScope ["self", "name"] ["self", "name"] (defScope s_NoName) := ⟨rfl, rfl, rfl, by decide +kernel, rfl, by decide +kernel, by decide +kernel⟩
theorem ok_NoName {P : Program} {w : World} {K : PySem.W.Frag} {mg : Str → Option Value} {base : Heap} (c : XCl K (He.ga K "NoName") ["name"]) (m : XMk K (He.ga K "NoName") (He.ma K (He.ga K "NoName") "__init__")) (g : mg "NoName" = some (.ref (He.ga K "NoName"))) {fd : FuncData}
    (F : FunD K "__init__" "NoName.__init__" (defArgs s_NoName) (defBody s_NoName) (defScope s_NoName) [] [] (He.ma K (He.ga K "NoName") "__init__") fd) : CalX1 P w K mg base "NoName" "name" := by
  refine ⟨c, m, g, fd, ?_, kbn_of F (fun _ _ _ _ _ _ us ws l1 l2 => match us, ws, l1, l2 with | [_, _], [], _, _ => rfl) (fun r _ => r), kbn_of F (fun _ _ _ _ _ _ us ws l1 l2 => match us, ws, l1, l2 with | [_], [_], _, _ => rfl) (fun r1 r2 => r1.append r2)⟩
  have sc := sc_NoName
  refine ok0 F sc (fun vs H Q E h => ?_) (fun cdv A outer s H vs Q E hr h => ?_)
  · obtain ⟨a, v, rfl, _⟩ := h
    rfl
  obtain ⟨a, v, rfl, ha, k⟩ := h
  exact ⟨_, pss_one (ps_ost (pv 0) (pv 1)), read_I1 c (by decide +kernel) ha k rfl rfl fun _ _ q => q⟩
abbrev s_Taken : Stmt := inClass (top 7) 0
theorem sc_Taken : FnScope ["self", "name"] ["self", "name"] (defScope s_Taken) := ⟨rfl, rfl, rfl, by decide +kernel, rfl, by decide +kernel, by decide +kernel⟩
theorem ok_Taken {P : Program} {w : World} {K : PySem.W.Frag} {mg : Str → Option Value} {base : Heap} (c : XCl K (He.ga K "Taken") ["name"]) (m : XMk K (He.ga K "Taken") (He.ma K (He.ga K "Taken") "__init__")) (g : mg "Taken" = some (.ref (He.ga K "Taken"))) {fd : FuncData}
    (F : FunD K "__init__" "Taken.__init__" (defArgs s_Taken) (defBody s_Taken) (defScope s_Taken) [] [] (He.ma K (He.ga K "Taken") "__init__") fd) : CalX1 P w K mg base "Taken" "name" := by
  refine ⟨c, m, g, fd, ?_, kbn_of F (fun _ _ _ _ _ _ us ws l1 l2 => match us, ws, l1, l2 with | [_, _], [], _, _ => rfl) (fun r _ => r), kbn_of F (fun _ _ _ _ _ _ us ws l1 l2 => match us, ws, l1, l2 with | [_], [_], _, _ => rfl) (fun r1 r2 => r1.append r2)⟩
  have sc := sc_Taken
  refine ok0 F sc (fun vs H Q E h => ?_) (fun cdv A outer s H vs Q E hr h => ?_)
  · obtain ⟨a, v, rfl, _⟩ := h
    rfl
  obtain ⟨a, v, rfl, ha, k⟩ := h
  exact ⟨_, pss_one (ps_ost (pv 0) (pv 1)), read_I1 c (by decide +kernel) ha k rfl rfl fun _ _ q => q⟩
abbrev s_Ring : Stmt := inClass (top 8) 0
theorem sc_Ring : FnScope ["self", "way"] ["self", "way"] (defScope s_Ring) := ⟨rfl, rfl, rfl, by decide +kernel, rfl, by decide +kernel, by decide +kernel⟩
theorem ok_Ring {P : Program} {w : World} {K : PySem.W.Frag} {mg : Str → Option Value} {base : Heap} (c : XCl K (He.ga K "Ring") ["way"]) (m : XMk K (He.ga K "Ring") (He.ma K (He.ga K "Ring") "__init__")) (g : mg "Ring" = some (.ref (He.ga K "Ring"))) {fd : FuncData}
    (F : FunD K "__init__" "Ring.__init__" (defArgs s_Ring) (defBody s_Ring) (defScope s_Ring) [] [] (He.ma K (He.ga K "Ring") "__init__") fd) : CalX1 P w K mg base "Ring" "way" := by
  refine ⟨c, m, g, fd, ?_, kbn_of F (fun _ _ _ _ _ _ us ws l1 l2 => match us, ws, l1, l2 with | [_, _], [], _, _ => rfl) (fun r _ => r), kbn_of F (fun _ _ _ _ _ _ us ws l1 l2 => match us, ws, l1, l2 with | [_], [_], _, _ => rfl) (fun r1 r2 => r1.append r2)⟩
  have sc := sc_Ring
  refine ok0 F sc (fun vs H Q E h => ?_) (fun cdv A outer s H vs Q E hr h => ?_)
  · obtain ⟨a, v, rfl, _⟩ := h
    rfl
  obtain ⟨a, v, rfl, ha, k⟩ := h
  exact ⟨_, pss_one (ps_ost (pv 0) (pv 1)), read_I1 c (by decide +kernel) ha k rfl rfl fun _ _ q => q⟩
abbrev s_InUse : Stmt := inClass (top 9) 0
theorem sc_InUse : FnScope ["self", "name"] ["self", "name"] (defScope s_InUse) := ⟨rfl, rfl, rfl, by decide +kernel, rfl, by decide +kernel, by decide +kernel⟩
theorem ok_InUse {P : Program} {w : World} {K : PySem.W.Frag} {mg : Str → Option Value} {base : Heap} (c : XCl K (He.ga K "InUse") ["name"]) (m : XMk K (He.ga K "InUse") (He.ma K (He.ga K "InUse") "__init__")) (g : mg "InUse" = some (.ref (He.ga K "InUse"))) {fd : FuncData}
    (F : FunD K "__init__" "InUse.__init__" (defArgs s_InUse) (defBody s_InUse) (defScope s_InUse) [] [] (He.ma K (He.ga K "InUse") "__init__") fd) : CalX1 P w K mg base "InUse" "name" := by
  refine ⟨c, m, g, fd, ?_, kbn_of F (fun _ _ _ _ _ _ us ws l1 l2 => match us, ws, l1, l2 with | [_, _], [], _, _ => rfl) (fun r _ => r), kbn_of F (fun _ _ _ _ _ _ us ws l1 l2 => match us, ws, l1, l2 with | [_], [_], _, _ => rfl) (fun r1 r2 => r1.append r2)⟩
  have sc := sc_InUse
  refine ok0 F sc (fun vs H Q E h => ?_) (fun cdv A outer s H vs Q E hr h => ?_)
  · obtain ⟨a, v, rfl, _⟩ := h
    rfl
  obtain ⟨a, v, rfl, ha, k⟩ := h
  exact ⟨_, pss_one (ps_ost (pv 0) (pv 1)), read_I1 c (by decide +kernel) ha k rfl rfl fun _ _ q => q⟩
abbrev s_Unresolved : Stmt := inClass (top 10) 0
theorem sc_Unresolved : FnScope ["self", "name"] ["self", "name"] (defScope s_Unresolved) := ⟨rfl, rfl, rfl, by decide +kernel, rfl, by decide +kernel, by decide +kernel⟩
theorem ok_Unresolved {P : Program} {w : World} {K : PySem.W.Frag} {mg : Str → Option Value} {base : Heap} (c : XCl K (He.ga K "Unresolved") ["name"]) (m : XMk K (He.ga K "Unresolved") (He.ma K (He.ga K "Unresolved") "__init__")) (g : mg "Unresolved" = some (.ref (He.ga K "Unresolved"))) {fd : FuncData}
    (F : FunD K "__init__" "Unresolved.__init__" (defArgs s_Unresolved) (defBody s_Unresolved) (defScope s_Unresolved) [] [] (He.ma K (He.ga K "Unresolved") "__init__") fd) : CalX1 P w K mg base "Unresolved" "name" := by
  refine ⟨c, m, g, fd, ?_, kbn_of F (fun _ _ _ _ _ _ us ws l1 l2 => match us, ws, l1, l2 with | [_, _], [], _, _ => rfl) (fun r _ => r), kbn_of F (fun _ _ _ _ _ _ us ws l1 l2 => match us, ws, l1, l2 with | [_], [_], _, _ => rfl) (fun r1 r2 => r1.append r2)⟩
  have sc := sc_Unresolved
  refine ok0 F sc (fun vs H Q E h => ?_) (fun cdv A outer s H vs Q E hr h => ?_)
  · obtain ⟨a, v, rfl, _⟩ := h
    rfl
  obtain ⟨a, v, rfl, ha, k⟩ := h
  exact ⟨_, pss_one (ps_ost (pv 0) (pv 1)), read_I1 c (by decide +kernel) ha k rfl rfl fun _ _ q => q⟩
abbrev s_NoMachine : Stmt := inClass (top 11) 0
theorem sc_NoMachine : FnScope ["self", "scale"] ["self", "scale"] (defScope s_NoMachine) := ⟨rfl, rfl, rfl, by decide +kernel, rfl, by decide +kernel, by decide +kernel⟩
theorem ok_NoMachine {P : Program} {w : World} {K : PySem.W.Frag} {mg : Str → Option Value} {base : Heap} (c : XCl K (He.ga K "NoMachine") ["scale"]) (m : XMk K (He.ga K "NoMachine") (He.ma K (He.ga K "NoMachine") "__init__")) (g : mg "NoMachine" = some (.ref (He.ga K "NoMachine"))) {fd : FuncData}
    (F : FunD K "__init__" "NoMachine.__init__" (defArgs s_NoMachine) (defBody s_NoMachine) (defScope s_NoMachine) [] [] (He.ma K (He.ga K "NoMachine") "__init__") fd) : CalX1 P w K mg base "NoMachine" "scale" := by
  refine ⟨c, m, g, fd, ?_, kbn_of F (fun _ _ _ _ _ _ us ws l1 l2 => match us, ws, l1, l2 with | [_, _], [], _, _ => rfl) (fun r _ => r), kbn_of F (fun _ _ _ _ _ _ us ws l1 l2 => match us, ws, l1, l2 with | [_], [_], _, _ => rfl) (fun r1 r2 => r1.append r2)⟩
  have sc := sc_NoMachine
  refine ok0 F sc (fun vs H Q E h => ?_) (fun cdv A outer s H vs Q E hr h => ?_)
  · obtain ⟨a, v, rfl, _⟩ := h
    rfl
  obtain ⟨a, v, rfl, ha, k⟩ := h
  exact ⟨_, pss_one (ps_ost (pv 0) (pv 1)), read_I1 c (by decide +kernel) ha k rfl rfl fun _ _ q => q⟩
abbrev s_BadValue : Stmt := inClass (top 12) 0
theorem sc_BadValue : FnScope ["self", "path"] ["self", "path"] (defScope s_BadValue) := ⟨rfl, rfl, rfl, by decide +kernel, rfl, by decide +kernel, by decide +kernel⟩
theorem ok_BadValue {P : Program} {w : World} {K : PySem.W.Frag} {mg : Str → Option Value} {base : Heap} (c : XCl K (He.ga K "BadValue") ["path"]) (m : XMk K (He.ga K "BadValue") (He.ma K (He.ga K "BadValue") "__init__")) (g : mg "BadValue" = some (.ref (He.ga K "BadValue"))) {fd : FuncData}
    (F : FunD K "__init__" "BadValue.__init__" (defArgs s_BadValue) (defBody s_BadValue) (defScope s_BadValue) [] [] (He.ma K (He.ga K "BadValue") "__init__") fd) : CalX1 P w K mg base "BadValue" "path" := by
  refine ⟨c, m, g, fd, ?_, kbn_of F (fun _ _ _ _ _ _ us ws l1 l2 => match us, ws, l1, l2 with | [_, _], [], _, _ => rfl) (fun r _ => r), kbn_of F (fun _ _ _ _ _ _ us ws l1 l2 => match us, ws, l1, l2 with | [_], [_], _, _ => rfl) (fun r1 r2 => r1.append r2)⟩
  have sc := sc_BadValue
  refine ok0 F sc (fun vs H Q E h => ?_) (fun cdv A outer s H vs Q E hr h => ?_)
  · obtain ⟨a, v, rfl, _⟩ := h
    rfl
  obtain ⟨a, v, rfl, ha, k⟩ := h
  exact ⟨_, pss_one (ps_ost (pv 0) (pv 1)), read_I1 c (by decide +kernel) ha k rfl rfl fun _ _ q => q⟩
abbrev s_TooLarge : Stmt := inClass (top 13) 0
theorem sc_TooLarge : FnScope ["self", "what", "most"] ["self", "what", "most"] (defScope s_TooLarge) := ⟨rfl, rfl, rfl, by decide +kernel, rfl, by decide +kernel, by decide +kernel⟩
theorem ok_TooLarge {P : Program} {w : World} {K : PySem.W.Frag} {mg : Str → Option Value} {base : Heap} (c : XCl K (He.ga K "TooLarge") ["what", "most"]) (m : XMk K (He.ga K "TooLarge") (He.ma K (He.ga K "TooLarge") "__init__")) (g : mg "TooLarge" = some (.ref (He.ga K "TooLarge"))) {fd : FuncData}
    (F : FunD K "__init__" "TooLarge.__init__" (defArgs s_TooLarge) (defBody s_TooLarge) (defScope s_TooLarge) [] [] (He.ma K (He.ga K "TooLarge") "__init__") fd) : CalX2 P w K mg base "TooLarge" "what" "most" := by
  refine ⟨c, m, g, fd, ?_, kbn_of F (fun _ _ _ _ _ _ us ws l1 l2 => match us, ws, l1, l2 with | [_, _, _], [], _, _ => rfl) (fun r _ => r), kbn_of F (fun _ _ _ _ _ _ us ws l1 l2 => match us, ws, l1, l2 with | [_], [_, _], _, _ => rfl) (fun r1 r2 => r1.append (vals_rev r2))⟩
  have sc := sc_TooLarge
  refine ok0 F sc (fun vs H Q E h => ?_) (fun cdv A outer s H vs Q E hr h => ?_)
  · obtain ⟨a, v, u, rfl, _⟩ := h
    rfl
  obtain ⟨a, v, u, rfl, ha, k⟩ := h
  exact ⟨_, pss_cons (ps_ost (pv 0) (pv 1)) (pss_one (ps_ost (pv 0) (pv 2))), read_I2 c (by decide +kernel) (by decide +kernel) ha k rfl rfl rfl fun _ _ q => q⟩
abbrev s_NoScale : Stmt := inClass (top 14) 0
theorem sc_NoScale : FnScope ["self", "scale"] ["self", "scale"] (defScope s_NoScale) := ⟨rfl, rfl, rfl, by decide +kernel, rfl, by decide +kernel, by decide +kernel⟩
theorem ok_NoScale {P : Program} {w : World} {K : PySem.W.Frag} {mg : Str → Option Value} {base : Heap} (c : XCl K (He.ga K "NoScale") ["scale"]) (m : XMk K (He.ga K "NoScale") (He.ma K (He.ga K "NoScale") "__init__")) (g : mg "NoScale" = some (.ref (He.ga K "NoScale"))) {fd : FuncData}
    (F : FunD K "__init__" "NoScale.__init__" (defArgs s_NoScale) (defBody s_NoScale) (defScope s_NoScale) [] [] (He.ma K (He.ga K "NoScale") "__init__") fd) : CalX1 P w K mg base "NoScale" "scale" := by
  refine ⟨c, m, g, fd, ?_, kbn_of F (fun _ _ _ _ _ _ us ws l1 l2 => match us, ws, l1, l2 with | [_, _], [], _, _ => rfl) (fun r _ => r), kbn_of F (fun _ _ _ _ _ _ us ws l1 l2 => match us, ws, l1, l2 with | [_], [_], _, _ => rfl) (fun r1 r2 => r1.append r2)⟩
  have sc := sc_NoScale
  refine ok0 F sc (fun vs H Q E h => ?_) (fun cdv A outer s H vs Q E hr h => ?_)
  · obtain ⟨a, v, rfl, _⟩ := h
    rfl
  obtain ⟨a, v, rfl, ha, k⟩ := h
  exact ⟨_, pss_one (ps_ost (pv 0) (pv 1)), read_I1 c (by decide +kernel) ha k rfl rfl fun _ _ q => q⟩
abbrev s_BadBound : Stmt := inClass (top 15) 0
theorem sc_BadBound : FnScope ["self", "value"] ["self", "value"] (defScope s_BadBound) := ⟨rfl, rfl, rfl, by decide +kernel, rfl, by decide +kernel, by decide +kernel⟩
theorem ok_BadBound {P : Program} {w : World} {K : PySem.W.Frag} {mg : Str → Option Value} {base : Heap} (c : XCl K (He.ga K "BadBound") ["value"]) (m : XMk K (He.ga K "BadBound") (He.ma K (He.ga K "BadBound") "__init__")) (g : mg "BadBound" = some (.ref (He.ga K "BadBound"))) {fd : FuncData}
    (F : FunD K "__init__" "BadBound.__init__" (defArgs s_BadBound) (defBody s_BadBound) (defScope s_BadBound) [] [] (He.ma K (He.ga K "BadBound") "__init__") fd) : CalX1 P w K mg base "BadBound" "value" := by
  refine ⟨c, m, g, fd, ?_, kbn_of F (fun _ _ _ _ _ _ us ws l1 l2 => match us, ws, l1, l2 with | [_, _], [], _, _ => rfl) (fun r _ => r), kbn_of F (fun _ _ _ _ _ _ us ws l1 l2 => match us, ws, l1, l2 with | [_], [_], _, _ => rfl) (fun r1 r2 => r1.append r2)⟩
  have sc := sc_BadBound
  refine ok0 F sc (fun vs H Q E h => ?_) (fun cdv A outer s H vs Q E hr h => ?_)
  · obtain ⟨a, v, rfl, _⟩ := h
    rfl
  obtain ⟨a, v, rfl, ha, k⟩ := h
  exact ⟨_, pss_one (ps_ost (pv 0) (pv 1)), read_I1 c (by decide +kernel) ha k rfl rfl fun _ _ q => q⟩
abbrev s_NoTerm : Stmt := inClass (top 16) 0
theorem sc_NoTerm : FnScope ["self", "at"] ["self", "at"] (defScope s_NoTerm) := ⟨rfl, rfl, rfl, by decide +kernel, rfl, by decide +kernel, by decide +kernel⟩
theorem ok_NoTerm {P : Program} {w : World} {K : PySem.W.Frag} {mg : Str → Option Value} {base : Heap} (c : XCl K (He.ga K "NoTerm") ["at"]) (m : XMk K (He.ga K "NoTerm") (He.ma K (He.ga K "NoTerm") "__init__")) (g : mg "NoTerm" = some (.ref (He.ga K "NoTerm"))) {fd : FuncData}
    (F : FunD K "__init__" "NoTerm.__init__" (defArgs s_NoTerm) (defBody s_NoTerm) (defScope s_NoTerm) [] [] (He.ma K (He.ga K "NoTerm") "__init__") fd) : CalX1 P w K mg base "NoTerm" "at" := by
  refine ⟨c, m, g, fd, ?_, kbn_of F (fun _ _ _ _ _ _ us ws l1 l2 => match us, ws, l1, l2 with | [_, _], [], _, _ => rfl) (fun r _ => r), kbn_of F (fun _ _ _ _ _ _ us ws l1 l2 => match us, ws, l1, l2 with | [_], [_], _, _ => rfl) (fun r1 r2 => r1.append r2)⟩
  have sc := sc_NoTerm
  refine ok0 F sc (fun vs H Q E h => ?_) (fun cdv A outer s H vs Q E hr h => ?_)
  · obtain ⟨a, v, rfl, _⟩ := h
    rfl
  obtain ⟨a, v, rfl, ha, k⟩ := h
  exact ⟨_, pss_one (ps_ost (pv 0) (pv 1)), read_I1 c (by decide +kernel) ha k rfl rfl fun _ _ q => q⟩
abbrev s_NoClaim : Stmt := inClass (top 17) 0
theorem sc_NoClaim : FnScope ["self", "at"] ["self", "at"] (defScope s_NoClaim) := ⟨rfl, rfl, rfl, by decide +kernel, rfl, by decide +kernel, by decide +kernel⟩
theorem ok_NoClaim {P : Program} {w : World} {K : PySem.W.Frag} {mg : Str → Option Value} {base : Heap} (c : XCl K (He.ga K "NoClaim") ["at"]) (m : XMk K (He.ga K "NoClaim") (He.ma K (He.ga K "NoClaim") "__init__")) (g : mg "NoClaim" = some (.ref (He.ga K "NoClaim"))) {fd : FuncData}
    (F : FunD K "__init__" "NoClaim.__init__" (defArgs s_NoClaim) (defBody s_NoClaim) (defScope s_NoClaim) [] [] (He.ma K (He.ga K "NoClaim") "__init__") fd) : CalX1 P w K mg base "NoClaim" "at" := by
  refine ⟨c, m, g, fd, ?_, kbn_of F (fun _ _ _ _ _ _ us ws l1 l2 => match us, ws, l1, l2 with | [_, _], [], _, _ => rfl) (fun r _ => r), kbn_of F (fun _ _ _ _ _ _ us ws l1 l2 => match us, ws, l1, l2 with | [_], [_], _, _ => rfl) (fun r1 r2 => r1.append r2)⟩
  have sc := sc_NoClaim
  refine ok0 F sc (fun vs H Q E h => ?_) (fun cdv A outer s H vs Q E hr h => ?_)
  · obtain ⟨a, v, rfl, _⟩ := h
    rfl
  obtain ⟨a, v, rfl, ha, k⟩ := h
  exact ⟨_, pss_one (ps_ost (pv 0) (pv 1)), read_I1 c (by decide +kernel) ha k rfl rfl fun _ _ q => q⟩
abbrev s_NotRecord : Stmt := inClass (top 18) 0
theorem sc_NotRecord : FnScope ["self", "name"] ["self", "name"] (defScope s_NotRecord) := ⟨rfl, rfl, rfl, by decide +kernel, rfl, by decide +kernel, by decide +kernel⟩
theorem ok_NotRecord {P : Program} {w : World} {K : PySem.W.Frag} {mg : Str → Option Value} {base : Heap} (c : XCl K (He.ga K "NotRecord") ["name"]) (m : XMk K (He.ga K "NotRecord") (He.ma K (He.ga K "NotRecord") "__init__")) (g : mg "NotRecord" = some (.ref (He.ga K "NotRecord"))) {fd : FuncData}
    (F : FunD K "__init__" "NotRecord.__init__" (defArgs s_NotRecord) (defBody s_NotRecord) (defScope s_NotRecord) [] [] (He.ma K (He.ga K "NotRecord") "__init__") fd) : CalX1 P w K mg base "NotRecord" "name" := by
  refine ⟨c, m, g, fd, ?_, kbn_of F (fun _ _ _ _ _ _ us ws l1 l2 => match us, ws, l1, l2 with | [_, _], [], _, _ => rfl) (fun r _ => r), kbn_of F (fun _ _ _ _ _ _ us ws l1 l2 => match us, ws, l1, l2 with | [_], [_], _, _ => rfl) (fun r1 r2 => r1.append r2)⟩
  have sc := sc_NotRecord
  refine ok0 F sc (fun vs H Q E h => ?_) (fun cdv A outer s H vs Q E hr h => ?_)
  · obtain ⟨a, v, rfl, _⟩ := h
    rfl
  obtain ⟨a, v, rfl, ha, k⟩ := h
  exact ⟨_, pss_one (ps_ost (pv 0) (pv 1)), read_I1 c (by decide +kernel) ha k rfl rfl fun _ _ q => q⟩
abbrev s_Endless : Stmt := inClass (top 20) 0
theorem sc_Endless : FnScope ["self", "scale"] ["self", "scale"] (defScope s_Endless) := ⟨rfl, rfl, rfl, by decide +kernel, rfl, by decide +kernel, by decide +kernel⟩
theorem ok_Endless {P : Program} {w : World} {K : PySem.W.Frag} {mg : Str → Option Value} {base : Heap} (c : XCl K (He.ga K "Endless") ["scale"]) (m : XMk K (He.ga K "Endless") (He.ma K (He.ga K "Endless") "__init__")) (g : mg "Endless" = some (.ref (He.ga K "Endless"))) {fd : FuncData}
    (F : FunD K "__init__" "Endless.__init__" (defArgs s_Endless) (defBody s_Endless) (defScope s_Endless) [] [] (He.ma K (He.ga K "Endless") "__init__") fd) : CalX1 P w K mg base "Endless" "scale" := by
  refine ⟨c, m, g, fd, ?_, kbn_of F (fun _ _ _ _ _ _ us ws l1 l2 => match us, ws, l1, l2 with | [_, _], [], _, _ => rfl) (fun r _ => r), kbn_of F (fun _ _ _ _ _ _ us ws l1 l2 => match us, ws, l1, l2 with | [_], [_], _, _ => rfl) (fun r1 r2 => r1.append r2)⟩
  have sc := sc_Endless
  refine ok0 F sc (fun vs H Q E h => ?_) (fun cdv A outer s H vs Q E hr h => ?_)
  · obtain ⟨a, v, rfl, _⟩ := h
    rfl
  obtain ⟨a, v, rfl, ha, k⟩ := h
  exact ⟨_, pss_one (ps_ost (pv 0) (pv 1)), read_I1 c (by decide +kernel) ha k rfl rfl fun _ _ q => q⟩
abbrev s_NoOffer : Stmt := inClass (top 21) 0
theorem sc_NoOffer : FnScope ["self", "at"] ["self", "at"] (defScope s_NoOffer) := ⟨rfl, rfl, rfl, by decide +kernel, rfl, by decide +kernel, by decide +kernel⟩
theorem ok_NoOffer {P : Program} {w : World} {K : PySem.W.Frag} {mg : Str → Option Value} {base : Heap} (c : XCl K (He.ga K "NoOffer") ["at"]) (m : XMk K (He.ga K "NoOffer") (He.ma K (He.ga K "NoOffer") "__init__")) (g : mg "NoOffer" = some (.ref (He.ga K "NoOffer"))) {fd : FuncData}
    (F : FunD K "__init__" "NoOffer.__init__" (defArgs s_NoOffer) (defBody s_NoOffer) (defScope s_NoOffer) [] [] (He.ma K (He.ga K "NoOffer") "__init__") fd) : CalX1 P w K mg base "NoOffer" "at" := by
  refine ⟨c, m, g, fd, ?_, kbn_of F (fun _ _ _ _ _ _ us ws l1 l2 => match us, ws, l1, l2 with | [_, _], [], _, _ => rfl) (fun r _ => r), kbn_of F (fun _ _ _ _ _ _ us ws l1 l2 => match us, ws, l1, l2 with | [_], [_], _, _ => rfl) (fun r1 r2 => r1.append r2)⟩
  have sc := sc_NoOffer
  refine ok0 F sc (fun vs H Q E h => ?_) (fun cdv A outer s H vs Q E hr h => ?_)
  · obtain ⟨a, v, rfl, _⟩ := h
    rfl
  obtain ⟨a, v, rfl, ha, k⟩ := h
  exact ⟨_, pss_one (ps_ost (pv 0) (pv 1)), read_I1 c (by decide +kernel) ha k rfl rfl fun _ _ q => q⟩
abbrev s_NoOrder : Stmt := inClass (top 22) 0
theorem sc_NoOrder : FnScope ["self", "at"] ["self", "at"] (defScope s_NoOrder) := ⟨rfl, rfl, rfl, by decide +kernel, rfl, by decide +kernel, by decide +kernel⟩
theorem ok_NoOrder {P : Program} {w : World} {K : PySem.W.Frag} {mg : Str → Option Value} {base : Heap} (c : XCl K (He.ga K "NoOrder") ["at"]) (m : XMk K (He.ga K "NoOrder") (He.ma K (He.ga K "NoOrder") "__init__")) (g : mg "NoOrder" = some (.ref (He.ga K "NoOrder"))) {fd : FuncData}
    (F : FunD K "__init__" "NoOrder.__init__" (defArgs s_NoOrder) (defBody s_NoOrder) (defScope s_NoOrder) [] [] (He.ma K (He.ga K "NoOrder") "__init__") fd) : CalX1 P w K mg base "NoOrder" "at" := by
  refine ⟨c, m, g, fd, ?_, kbn_of F (fun _ _ _ _ _ _ us ws l1 l2 => match us, ws, l1, l2 with | [_, _], [], _, _ => rfl) (fun r _ => r), kbn_of F (fun _ _ _ _ _ _ us ws l1 l2 => match us, ws, l1, l2 with | [_], [_], _, _ => rfl) (fun r1 r2 => r1.append r2)⟩
  have sc := sc_NoOrder
  refine ok0 F sc (fun vs H Q E h => ?_) (fun cdv A outer s H vs Q E hr h => ?_)
  · obtain ⟨a, v, rfl, _⟩ := h
    rfl
  obtain ⟨a, v, rfl, ha, k⟩ := h
  exact ⟨_, pss_one (ps_ost (pv 0) (pv 1)), read_I1 c (by decide +kernel) ha k rfl rfl fun _ _ q => q⟩
abbrev s_BadText : Stmt := inClass (top 23) 0
theorem sc_BadText : FnScope ["self", "at"] ["self", "at"] (defScope s_BadText) := ⟨rfl, rfl, rfl, by decide +kernel, rfl, by decide +kernel, by decide +kernel⟩
theorem ok_BadText {P : Program} {w : World} {K : PySem.W.Frag} {mg : Str → Option Value} {base : Heap} (c : XCl K (He.ga K "BadText") ["at"]) (m : XMk K (He.ga K "BadText") (He.ma K (He.ga K "BadText") "__init__")) (g : mg "BadText" = some (.ref (He.ga K "BadText"))) {fd : FuncData}
    (F : FunD K "__init__" "BadText.__init__" (defArgs s_BadText) (defBody s_BadText) (defScope s_BadText) [] [] (He.ma K (He.ga K "BadText") "__init__") fd) : CalX1 P w K mg base "BadText" "at" := by
  refine ⟨c, m, g, fd, ?_, kbn_of F (fun _ _ _ _ _ _ us ws l1 l2 => match us, ws, l1, l2 with | [_, _], [], _, _ => rfl) (fun r _ => r), kbn_of F (fun _ _ _ _ _ _ us ws l1 l2 => match us, ws, l1, l2 with | [_], [_], _, _ => rfl) (fun r1 r2 => r1.append r2)⟩
  have sc := sc_BadText
  refine ok0 F sc (fun vs H Q E h => ?_) (fun cdv A outer s H vs Q E hr h => ?_)
  · obtain ⟨a, v, rfl, _⟩ := h
    rfl
  obtain ⟨a, v, rfl, ha, k⟩ := h
  exact ⟨_, pss_one (ps_ost (pv 0) (pv 1)), read_I1 c (by decide +kernel) ha k rfl rfl fun _ _ q => q⟩
end K8

set_option Elab.async false
set_option linter.all false
set_option maxRecDepth 100000
set_option maxHeartbeats 1000000
namespace K8
open PySem PySem.Spec PyProof.Rows L2 AP
/-- at e an error of the class x -/
def ExOk (K : PySem.W.Frag) (H : Hp) (e : Addr) (x : Str) : Prop := ∃ dd : Option Addr, H e = some (exo e (He.ga K x) dd) ∧ ∀ dx, dd = some dx → ∃ fs, H dx = some (exd dx fs)
theorem ExOk.same {K : PySem.W.Frag} {H H' : Hp} {e : Addr} {x : Str} (s : Same H H') (h : ExOk K H e x) : ExOk K H' e x :=
  let ⟨dd, h1, h2⟩ := h
  ⟨dd, s _ _ h1, fun dx q => (h2 dx q).imp fun fs z => s _ _ z⟩
/-- a row: an error of the class x, what it tells, what it must tell -/
def Tr (K : PySem.W.Frag) (H : Hp) (v : V) (x : Str) : Prop := ∃ (t e : Addr) (a b : V) (d : PyData), v = .ref t ∧ H t = some (.tup [.ref e, a, b]) ∧ ExOk K H e x ∧ Dq K H a d ∧ Dq K H b d ∧ fineB 5 200 d = true
theorem Tr.same {K : PySem.W.Frag} {H H' : Hp} {v : V} {x : Str} (s : Same H H') (h : Tr K H v x) : Tr K H' v x :=
  let ⟨t, e, a, b, d, h1, h2, h3, h4, h5, h6⟩ := h
  ⟨t, e, a, b, d, h1, s _ _ h2, h3.same s, Dq.same s _ _ h4, Dq.same s _ _ h5, h6⟩
/-- rows of these classes -/
abbrev Trs (K : PySem.W.Frag) (H : Hp) : List V → List Str → Prop := Paired (Tr K H)
theorem Trs.same {K : PySem.W.Frag} {H H' : Hp} (s : Same H H') : ∀ {vs : List V} {xs : List Str}, Trs K H vs xs → Trs K H' vs xs
  | _, _, .nil => .nil
  | _, _, .cons h r => .cons (h.same s) (Trs.same s r)
theorem Trs.append {K : PySem.W.Frag} {H : Hp} : ∀ {vs us : List V} {xs ys : List Str}, Trs K H vs xs → Trs K H us ys → Trs K H (vs ++ us) (xs ++ ys)
  | _, _, _, _, .nil, h => h
  | _, _, _, _, .cons a r, h => .cons a (Trs.append r h)
/-- a list of rows, none of which hangs on the list -/
def RowsL (K : PySem.W.Frag) (H : Hp) (l : Addr) (xs : List Str) : Prop := ∃ vs, H l = some (.lst vs) ∧ Trs K (hid [l] H) vs xs
theorem RowsL.same {K : PySem.W.Frag} {H H' : Hp} {l : Addr} {xs : List Str} (s : Same H H') (h : RowsL K H l xs) : RowsL K H' l xs :=
  let ⟨vs, h1, h2⟩ := h
  ⟨vs, s _ _ h1, h2.same (same_hid _ s)⟩
section
variable {K : PySem.W.Frag} {S : List Addr} {σ : L2.St} {H : Hp} {x f g : Str} {v u : V} {d e : PyData} {i j : Nat} {C : Addr}
theorem var_run {Q : VK} (h : σ[i]? = some (some v)) (q : Q v H) : tVar i σ H Q := ⟨v, h, q⟩
theorem exok_of {a d' : Addr} {fs : List (Str × V)} (X : Exv H a (He.ga K x) d' fs) : ExOk K H a x := ⟨some d', X.1, fun dx q => by cases q; exact ⟨fs, X.2⟩⟩
theorem lk1 : List.lookup f [(f, v)] = some v := by simp [List.lookup]
/-- (x(e), x(e).f, e) -/
theorem row1 (T : XCl K (He.ga K x) [f]) (hi : σ[i]? = some (some v)) (th : There S H) (hd : Dq K (hid S H) v d) (hf : fineB 3 60 d = true) :
    Gets (tTup (tCons (tExv (He.ga K x) 1 0 (spI1 (He.ga K x) f) (fun vs _ => vs) (tCons (tVar i) tNil) tNil) (tCons (tXv K f (tExv (He.ga K x) 1 0 (spI1 (He.ga K x) f) (fun vs _ => vs) (tCons (tVar i) tNil) tNil)) (tCons (tVar i) tNil)))) σ H
      (fun r H' => Tr K (hid S H') r x) := fun Q q => by
  refine tup_run (cons_run (made1 (C := He.ga K x) (f := f) th (fun Q => var_run hi) _ fun y H1 s1 ⟨a, d1, ey, X1⟩ => ?_))
  subst ey
  refine cons_run (xv_run (made1 (C := He.ga K x) (f := f) (th.same s1) (fun Q => var_run hi) _ fun y H2 s2 ⟨a2, d2, ey, X2⟩ => ?_))
  subst ey
  refine ⟨a2, He.ga K x, d2, _, v, rfl, X2.same hid_same, T.x, T.no f List.mem_cons_self, lk1, v, hi, (by show 3 ≤ sizeLine; decide), fun t ht => ?_⟩
  have s3 : Same H2 (upd H2 t (.tup [.ref a, v, v])) := Same.new ht
  have dv := Dq.same (same_hid S ((s1.trans s2).trans s3)) d v hd
  exact q _ _ ((s1.trans s2).trans s3) ⟨t, a, v, v, d, rfl, hid_at (((th.same s1).same s2).new ht) upd_same, exok_of (X1.same (same_hid S (s2.trans s3))), dv, dv, fine_mono hf (by decide) (by decide)⟩
theorem lk2a (h : f ≠ g) : List.lookup f [(g, u), (f, v)] = some v := by
  have e : (f == g) = false := by simpa using h
  simp [List.lookup, e]
theorem lk2b : List.lookup g [(g, u), (f, v)] = some u := by simp [List.lookup]
/-- (error, [error.f, error.g], [c, e]) -/
theorem row2 {k : Nat} {a d1 : Addr} (T : XCl K (He.ga K x) [f, g]) (hne : f ≠ g) (hk : σ[k]? = some (some (.ref a))) (X : Exv (hid S H) a (He.ga K x) d1 [(g, u), (f, v)]) (hi : σ[i]? = some (some v)) (hj : σ[j]? = some (some u)) (th : There S H)
    (hd : Dq K (hid S H) v d) (hf : fineB 3 60 d = true) (he : Dq K (hid S H) u e) (hg : fineB 3 60 e = true) :
    Gets (tTup (tCons (tVar k) (tCons (tLst (tCons (tXv K f (tVar k)) (tCons (tXv K g (tVar k)) tNil))) (tCons (tLst (tCons (tVar i) (tCons (tVar j) tNil))) tNil)))) σ H (fun r H' => Tr K (hid S H') r x) := fun Q q => by
  refine ⟨_, hk, _, hk, a, He.ga K x, d1, _, v, rfl, X.same hid_same, T.x, T.no f List.mem_cons_self, lk2a hne, _, hk, a, He.ga K x, d1, _, u, rfl, X.same hid_same, T.x, T.no g (List.mem_cons_of_mem _ List.mem_cons_self), lk2b, (by show 2 ≤ sizeLine; decide), fun l1 hl1 => ?_⟩
  refine ⟨_, hi, _, hj, (by show 2 ≤ sizeLine; decide), fun l2 hl2 => ⟨(by show 3 ≤ sizeLine; decide), fun t ht => ?_⟩⟩
  have s1 : Same H (upd H l1 (.lst [v, u])) := Same.new hl1
  have s2 : Same _ (upd (upd H l1 (.lst [v, u])) l2 (.lst [v, u])) := Same.new hl2
  have s3 := Same.new (o := .tup [.ref a, .ref l1, .ref l2]) ht
  have sA := (s1.trans s2).trans s3
  have dv := Dq.same (same_hid S sA) d v hd
  have du := Dq.same (same_hid S sA) e u he
  have h1 := (s2.trans s3) _ _ (upd_same (H := H) (a := l1) (o := .lst [v, u]))
  have h2 := s3 _ _ (upd_same (H := upd H l1 (.lst [v, u])) (a := l2) (o := .lst [v, u]))
  exact q _ _ sA ⟨t, a, .ref l1, .ref l2, .list [d, e], rfl, hid_at (((th.same s1).same s2).new ht) upd_same, exok_of (X.same (same_hid S sA)),
    .lst (SqL.of (hid_at (th.new hl1) h1)) (.cons dv (.cons du .nil)), .lst (SqL.of (hid_at ((th.same s1).new hl2) h2)) (.cons dv (.cons du .nil)), fine_mono (fine_list2 hf hg) (by decide) (by decide)⟩
/-- rows and rows -/
theorem rows_cat {l : Addr} {xs ys : List Str} {ta : TA} (hi : σ[i]? = some (some (.ref l))) (R : RowsL K H l xs) (hx : xs.length ≤ 100) (hy : ys.length ≤ 100)
    (h : ∀ H1, Same H H1 → GetsA ta σ H1 (fun vs H' => Trs K (hid [l] H') vs ys)) :
    Gets (tOp rCat (tVar i) (tLst ta)) σ H (fun r H' => ∃ a, r = .ref a ∧ H a = none ∧ RowsL K H' a (xs ++ ys)) := fun Q q => by
  obtain ⟨vs, hl, hvs⟩ := R
  refine ⟨_, hi, h H (Same.refl H) _ fun us H1 s1 hus => ?_⟩
  have l1 : vs.length = xs.length := Paired.length hvs
  have l2 : us.length = ys.length := Paired.length hus
  have e : sizeLine = 16777216 := sizeLine_eq
  refine ⟨by omega, fun b hb => ⟨l, b, vs, us, rfl, rfl, Same.new hb _ _ (s1 _ _ hl), upd_same, by omega, fun a ha => ?_⟩⟩
  have s2 := Same.new (o := .lst us) hb
  have s3 := Same.new (o := .lst (vs ++ us)) ha
  have sA := (s1.trans s2).trans s3
  have turn : ∀ {H0 : Hp}, Same H0 _ → Same (hid [l] H0) (hid [a] (upd (upd H1 b (.lst us)) a (.lst (vs ++ us)))) := fun {H0} s c o z => by
    by_cases hc : c ∈ [l]
    · rw [hid_in hc] at z
      cases z
    · rw [hid_out hc] at z
      have z2 : upd H1 b (.lst us) c = some o := s c o z
      have hca : c ≠ a := ne_of_none z2 ha
      rw [hid_out (fun w => hca (List.mem_singleton.mp w)), upd_ne hca]
      exact z2
  exact q _ _ sA ⟨a, rfl, s1.free (s2.free ha), vs ++ us, upd_same, Trs.append (hvs.same (turn (s1.trans s2))) (hus.same (turn s2))⟩
theorem hid_nil : hid [] H = H := by
  funext b
  exact hid_out List.not_mem_nil
/-- the first rows -/
theorem rows_new {ys : List Str} {ta : TA} (hy : ys.length ≤ 100) (h : GetsA ta σ H (fun vs H' => Trs K (hid [] H') vs ys)) :
    Gets (tLst ta) σ H (fun r H' => ∃ a, r = .ref a ∧ H a = none ∧ RowsL K H' a ys) := fun Q q => h _ fun us H1 s1 hus => by
  have hus : Trs K (hid [] H1) us ys := hus
  rw [hid_nil] at hus
  have l2 : us.length = ys.length := Paired.length hus
  have e : sizeLine = 16777216 := sizeLine_eq
  refine ⟨by omega, fun a ha => ?_⟩
  have s3 := Same.new (o := .lst us) ha
  exact q _ _ (s1.trans s3) ⟨a, rfl, s1.free ha, us, upd_same, hus.same fun c o z => by
    have hca : c ≠ a := ne_of_none z ha
    rw [hid_out (fun w => hca (List.mem_singleton.mp w)), upd_ne hca]
    exact z⟩
theorem trs_nil : GetsA tNil σ H (fun vs H' => Trs K (hid S H') vs []) := fun _ q => q _ H (Same.refl H) .nil
theorem trs_cons {t : TE} {ta : TA} {ys : List Str} (h : Gets t σ H (fun r H' => Tr K (hid S H') r x)) (hr : ∀ H1, Same H H1 → GetsA ta σ H1 (fun vs H' => Trs K (hid S H') vs ys)) :
    GetsA (tCons t ta) σ H (fun vs H' => Trs K (hid S H') vs (x :: ys)) := fun _ q =>
  h _ fun r H1 s1 p1 => hr H1 s1 _ fun us H2 s2 p2 => q _ _ (s1.trans s2) (.cons (p1.same (same_hid S s2)) p2)
theorem there_nil : There [] H := fun _ h => nomatch h
theorem hid_new {H0 H1 : Hp} {l : Addr} (s : Same H0 H1) (h : H0 l = none) : Same H0 (hid [l] H1) := fun b o e => by
  rw [hid_out (fun z => ne_of_none e h (List.mem_singleton.mp z))]
  exact s b o e
/-- found.append(row) -/
theorem rows_app {l : Addr} {xs : List Str} {t : TE} {ts : TS} {D : Ends} (hi : σ[i]? = some (some (.ref l))) (R : RowsL K H l xs) (hx : xs.length ≤ 100) (h : Gets t σ H (fun r H' => Tr K (hid [l] H') r x))
    (k : ∀ H', Kp l H H' → RowsL K H' l (xs ++ [x]) → ts D σ H') : tSeq (tDrop (tBM K "list" rAppend (tVar i) (tCons t tNil))) ts D σ H := by
  obtain ⟨vs, hl, hvs⟩ := R
  have l1 : vs.length = xs.length := Paired.length hvs
  have e : sizeLine = 16777216 := sizeLine_eq
  refine ⟨_, hi, .inl ⟨rfl, _, SqL.of hl⟩, cons_run (h _ fun r H1 s1 p1 => ⟨l, vs, r, rfl, rfl, s1 _ _ hl, by omega, k _ (fun b o hb z => ?_) ⟨_, upd_same, ?_⟩⟩)⟩
  · rw [upd_ne hb]
    exact s1 _ _ z
  · have q : Same (hid [l] H1) (hid [l] (upd H1 l (.lst (vs ++ [r])))) := fun b o z => by
      by_cases hb : b ∈ [l]
      · rw [hid_in hb] at z
        cases z
      · rw [hid_out hb] at z ⊢
        rw [upd_ne (fun w => hb (by rw [w]; exact List.mem_cons_self))]
        exact z
    exact Trs.append ((hvs.same (same_hid _ s1)).same q) (.cons (p1.same q) .nil)
theorem kp_new {H0 H1 H2 : Hp} {l : Addr} (s : Same H0 H1) (h : H0 l = none) (k : Kp l H1 H2) : Same H0 H2 := fun b o e => k b o (ne_of_none e h) (s b o e)
/-- (C(), 0, 0) -/
theorem row0 (th : There S H) : Gets (tTup (tCons (fun _ H Q => ∀ a, H a = none → Q (.ref a) (upd H a (exo a (He.ga K x) none))) (tCons (tC (.int 0)) (tCons (tC (.int 0)) tNil)))) σ H (fun r H' => Tr K (hid S H') r x) := fun Q q => by
  refine tup_run (cons_run fun a ha => ⟨(by show 3 ≤ sizeLine; decide), fun t ht => ?_⟩)
  have s1 := Same.new (o := exo a (He.ga K x) none) ha
  have s2 := Same.new (o := .tup [.ref a, .int 0, .int 0]) ht
  exact q _ _ (s1.trans s2) ⟨t, a, .int 0, .int 0, .int 0, rfl, hid_at ((th.same s1).new ht) upd_same, ⟨none, hid_at (th.new ha) (s2 _ _ upd_same), fun _ z => nomatch z⟩, .int 0, .int 0, fine_mono (fine_int (by decide)) (by decide) (by decide)⟩
end
/-! ### the classes, made -/
structure Xs (P : Program) (w : World) (K : PySem.W.Frag) (mg : Str → Option Value) (base : Heap) : Prop where
  x_BadName : CalX1 P w K mg base "BadName" "name"
  x_BadTimes : CalX1 P w K mg base "BadTimes" "value"
  x_BadParts : CalX1 P w K mg base "BadParts" "at"
  x_NoPath : CalX2 P w K mg base "NoPath" "path" "at"
  x_NoName : CalX1 P w K mg base "NoName" "name"
  x_Taken : CalX1 P w K mg base "Taken" "name"
  x_Ring : CalX1 P w K mg base "Ring" "way"
  x_InUse : CalX1 P w K mg base "InUse" "name"
  x_Unresolved : CalX1 P w K mg base "Unresolved" "name"
  x_NoMachine : CalX1 P w K mg base "NoMachine" "scale"
  x_BadValue : CalX1 P w K mg base "BadValue" "path"
  x_TooLarge : CalX2 P w K mg base "TooLarge" "what" "most"
  x_NoScale : CalX1 P w K mg base "NoScale" "scale"
  x_BadBound : CalX1 P w K mg base "BadBound" "value"
  x_NoTerm : CalX1 P w K mg base "NoTerm" "at"
  x_NoClaim : CalX1 P w K mg base "NoClaim" "at"
  x_NotRecord : CalX1 P w K mg base "NotRecord" "name"
  x_Endless : CalX1 P w K mg base "Endless" "scale"
  x_NoOffer : CalX1 P w K mg base "NoOffer" "at"
  x_NoOrder : CalX1 P w K mg base "NoOrder" "at"
  x_BadText : CalX1 P w K mg base "BadText" "at"
  q_Barred : PySem.W.excIn K (He.ga K "Barred") He.veBase "ValueError.__new__" = true
  g_Barred : mg "Barred" = some (.ref (He.ga K "Barred"))
  k_Barred : PySem.W.keepIn K (.ref (He.ga K "Barred")) = true
  q_NoLine : PySem.W.excIn K (He.ga K "NoLine") He.veBase "ValueError.__new__" = true
  g_NoLine : mg "NoLine" = some (.ref (He.ga K "NoLine"))
  k_NoLine : PySem.W.keepIn K (.ref (He.ga K "NoLine")) = true
  q_PadError : PySem.W.excIn K (He.ga K "PadError") He.veBase "ValueError.__new__" = true
  g_PadError : mg "PadError" = some (.ref (He.ga K "PadError"))
  k_PadError : PySem.W.keepIn K (.ref (He.ga K "PadError")) = true
def spRows (K : PySem.W.Frag) (xs : List Str) : Sp := fun vs H Q _ => ∃ (one two : V) (d e : PyData), vs = [one, two] ∧ Dq K H one d ∧ Dq K H two e ∧ fineB 3 60 d = true ∧ fineB 3 60 e = true ∧
  ∀ (H' : Hp) (l : Addr), H l = none → Same H H' → RowsL K H' l xs → Q (.ref l) H'
abbrev xs1 : List Str := ["BadName", "BadTimes", "BadParts", "NoName", "NoPath", "Taken", "Ring", "InUse", "Unresolved", "NoMachine", "BadValue", "TooLarge"]
abbrev xs2 : List Str := ["NoScale", "BadBound", "NoTerm", "NoClaim", "NotRecord", "Endless", "NoOffer", "NoOrder", "BadText", "Barred", "NoLine"]
abbrev s_law_first_rows : Stmt := top 30
abbrev s_law_last_rows : Stmt := top 31
section
variable {P : Program} {w : World} {K : PySem.W.Frag} {mg : Str → Option Value} {base : Heap}
theorem sc_first : FnScope ["_law_one", "_law_two", "_law_found", "_law_error"] ["_law_one", "_law_two"] (defScope s_law_first_rows) := ⟨rfl, rfl, rfl, by decide +kernel, rfl, by decide +kernel, by decide +kernel⟩
theorem ok_first (Z : Xs P w K mg base) {fd : FuncData} (F : FnT K "_law_first_rows" s_law_first_rows fd) : FnOk P w K mg base CX0 3 (He.ga K "_law_first_rows") fd ["_law_one", "_law_two"] (spRows K xs1) := by
  have sc := sc_first
  refine ok0 F sc (fun vs H Q E h => ?_) (fun cdv A outer s H vs Q E hr h => ?_)
  · obtain ⟨one, two, d, e, rfl, _⟩ := h
    rfl
  obtain ⟨one, two, d, e, rfl, h1, h2, f1, f2, k⟩ := h
  refine ⟨_, (pss_cons (ps_set (i := 2) sc.nd rfl (Or.inl rfl) (pe_lst (pa_cons (pe_tup (pa_cons (pe_x1 Z.x_BadName (hr.mono (by decide)) (pa_cons (pv 0) pa_nil)) (pa_cons (pe_xv (pe_x1 Z.x_BadName (hr.mono (by decide)) (pa_cons (pv 0) pa_nil))) (pa_cons (pv 0) pa_nil)))) (pa_cons (pe_tup (pa_cons (pe_x1 Z.x_BadTimes (hr.mono (by decide)) (pa_cons (pv 1) pa_nil)) (pa_cons (pe_xv (pe_x1 Z.x_BadTimes (hr.mono (by decide)) (pa_cons (pv 1) pa_nil))) (pa_cons (pv 1) pa_nil)))) pa_nil))))
  (pss_cons (ps_set (i := 2) sc.nd rfl (Or.inl rfl) (pe_op op_cat (pv 2) (pe_lst (pa_cons (pe_tup (pa_cons (pe_x1 Z.x_BadParts (hr.mono (by decide)) (pa_cons (pv 0) pa_nil)) (pa_cons (pe_xv (pe_x1 Z.x_BadParts (hr.mono (by decide)) (pa_cons (pv 0) pa_nil))) (pa_cons (pv 0) pa_nil)))) (pa_cons (pe_tup (pa_cons (pe_x1 Z.x_NoName (hr.mono (by decide)) (pa_cons (pv 1) pa_nil)) (pa_cons (pe_xv (pe_x1 Z.x_NoName (hr.mono (by decide)) (pa_cons (pv 1) pa_nil))) (pa_cons (pv 1) pa_nil)))) pa_nil)))))
  (pss_cons (ps_set (i := 3) sc.nd rfl (Or.inl rfl) (pe_x2 Z.x_NoPath (hr.mono (by decide)) (pa_cons (pv 0) (pa_cons (pv 1) pa_nil))))
  (pss_cons (ps_expr (pe_bm PySem.F.plainAttrs_list PySem.F.slot_list_append PySem.F.type_list_append mt_append (pv 2) (pa_cons (pe_tup (pa_cons (pv 3) (pa_cons (pe_lst (pa_cons (pe_xv (pv 3)) (pa_cons (pe_xv (pv 3)) pa_nil))) (pa_cons (pe_lst (pa_cons (pv 0) (pa_cons (pv 1) pa_nil))) pa_nil)))) pa_nil)))
  (pss_cons (ps_set (i := 2) sc.nd rfl (Or.inl rfl) (pe_op op_cat (pv 2) (pe_lst (pa_cons (pe_tup (pa_cons (pe_x1 Z.x_Taken (hr.mono (by decide)) (pa_cons (pv 0) pa_nil)) (pa_cons (pe_xv (pe_x1 Z.x_Taken (hr.mono (by decide)) (pa_cons (pv 0) pa_nil))) (pa_cons (pv 0) pa_nil)))) (pa_cons (pe_tup (pa_cons (pe_x1 Z.x_Ring (hr.mono (by decide)) (pa_cons (pv 1) pa_nil)) (pa_cons (pe_xv (pe_x1 Z.x_Ring (hr.mono (by decide)) (pa_cons (pv 1) pa_nil))) (pa_cons (pv 1) pa_nil)))) pa_nil)))))
  (pss_cons (ps_set (i := 2) sc.nd rfl (Or.inl rfl) (pe_op op_cat (pv 2) (pe_lst (pa_cons (pe_tup (pa_cons (pe_x1 Z.x_InUse (hr.mono (by decide)) (pa_cons (pv 0) pa_nil)) (pa_cons (pe_xv (pe_x1 Z.x_InUse (hr.mono (by decide)) (pa_cons (pv 0) pa_nil))) (pa_cons (pv 0) pa_nil)))) (pa_cons (pe_tup (pa_cons (pe_x1 Z.x_Unresolved (hr.mono (by decide)) (pa_cons (pv 1) pa_nil)) (pa_cons (pe_xv (pe_x1 Z.x_Unresolved (hr.mono (by decide)) (pa_cons (pv 1) pa_nil))) (pa_cons (pv 1) pa_nil)))) pa_nil)))))
  (pss_cons (ps_set (i := 2) sc.nd rfl (Or.inl rfl) (pe_op op_cat (pv 2) (pe_lst (pa_cons (pe_tup (pa_cons (pe_x1 Z.x_NoMachine (hr.mono (by decide)) (pa_cons (pv 0) pa_nil)) (pa_cons (pe_xv (pe_x1 Z.x_NoMachine (hr.mono (by decide)) (pa_cons (pv 0) pa_nil))) (pa_cons (pv 0) pa_nil)))) (pa_cons (pe_tup (pa_cons (pe_x1 Z.x_BadValue (hr.mono (by decide)) (pa_cons (pv 1) pa_nil)) (pa_cons (pe_xv (pe_x1 Z.x_BadValue (hr.mono (by decide)) (pa_cons (pv 1) pa_nil))) (pa_cons (pv 1) pa_nil)))) pa_nil)))))
  (pss_cons (ps_set (i := 3) sc.nd rfl (Or.inl rfl) (pe_x2 Z.x_TooLarge (hr.mono (by decide)) (pa_cons (pv 1) (pa_cons (pv 0) pa_nil))))
  (pss_one (ps_ret (pe_op op_cat (pv 2) (pe_lst (pa_cons (pe_tup (pa_cons (pv 3) (pa_cons (pe_lst (pa_cons (pe_xv (pv 3)) (pa_cons (pe_xv (pv 3)) pa_nil))) (pa_cons (pe_lst (pa_cons (pv 1) (pa_cons (pv 0) pa_nil))) pa_nil)))) pa_nil))))))))))))), ?_⟩
  have n1 : ∀ {H1 : Hp}, Same H H1 → Dq K (hid [] H1) one d := fun {H1} s => by rw [hid_nil]; exact Dq.same s _ _ h1
  have n2 : ∀ {H1 : Hp}, Same H H1 → Dq K (hid [] H1) two e := fun {H1} s => by rw [hid_nil]; exact Dq.same s _ _ h2
  have m1 : ∀ {H1 : Hp} {l : Addr}, Same H H1 → H l = none → Dq K (hid [l] H1) one d := fun s hl => Dq.same (hid_new s hl) _ _ h1
  have m2 : ∀ {H1 : Hp} {l : Addr}, Same H H1 → H l = none → Dq K (hid [l] H1) two e := fun s hl => Dq.same (hid_new s hl) _ _ h2
  have th : ∀ {H1 : Hp} {l : Addr} {xs : List Str}, RowsL K H1 l xs → There [l] H1 := fun R => let ⟨_, z, _⟩ := R; There.one z
  refine set_run (rows_new (ys := ["BadName", "BadTimes"]) (by decide) (trs_cons (row1 Z.x_BadName.cl rfl there_nil (n1 (Same.refl H)) f1) fun H1 s1 => trs_cons (row1 Z.x_BadTimes.cl rfl there_nil (n2 s1) f2) fun _ _ => trs_nil) _ fun v Ha sa ⟨la, ev, na, Ra⟩ => ?_)
  subst ev
  refine set_run (rows_cat (ys := ["BadParts", "NoName"]) rfl Ra (by decide) (by decide) (fun H1 s1 => trs_cons (row1 Z.x_BadParts.cl rfl (th (Ra.same s1)) (m1 (sa.trans s1) na) f1) fun H2 s2 => trs_cons (row1 Z.x_NoName.cl rfl (th ((Ra.same s1).same s2)) (m2 ((sa.trans s1).trans s2) na) f2) fun _ _ => trs_nil) _ fun v Hb sb' ⟨lb, ev, nb', Rb⟩ => ?_)
  subst ev
  have sb := sa.trans sb'
  have nb := sa.free nb'
  refine set_run (made2 (th Rb) (fun Q => var_run (v := one) rfl) (fun Q => var_run (v := two) rfl) _ fun v Hc sc' ⟨ac, dc, ev, Xc⟩ => ?_)
  subst ev
  have s3 := sb.trans sc'
  refine rows_app rfl (Rb.same sc') (by decide) (row2 Z.x_NoPath.cl (by decide +kernel) rfl Xc rfl rfl (th (Rb.same sc')) (m1 s3 nb) f1 (m2 s3 nb) f2) fun Hd kd Rd => ?_
  have sd := kp_new s3 nb kd
  refine set_run (rows_cat (ys := ["Taken", "Ring"]) rfl Rd (by decide) (by decide) (fun H1 s1 => trs_cons (row1 Z.x_Taken.cl rfl (th (Rd.same s1)) (m1 (sd.trans s1) nb) f1) fun H2 s2 => trs_cons (row1 Z.x_Ring.cl rfl (th ((Rd.same s1).same s2)) (m2 ((sd.trans s1).trans s2) nb) f2) fun _ _ => trs_nil) _ fun v He tse ⟨le, ev, tne, Re⟩ => ?_)
  subst ev
  have se := sd.trans tse
  have ne := sd.free tne
  refine set_run (rows_cat (ys := ["InUse", "Unresolved"]) rfl Re (by decide) (by decide) (fun H1 s1 => trs_cons (row1 Z.x_InUse.cl rfl (th (Re.same s1)) (m1 (se.trans s1) ne) f1) fun H2 s2 => trs_cons (row1 Z.x_Unresolved.cl rfl (th ((Re.same s1).same s2)) (m2 ((se.trans s1).trans s2) ne) f2) fun _ _ => trs_nil) _ fun v Hf tsf ⟨lf, ev, tnf, Rf⟩ => ?_)
  subst ev
  have sf := se.trans tsf
  have nf := se.free tnf
  refine set_run (rows_cat (ys := ["NoMachine", "BadValue"]) rfl Rf (by decide) (by decide) (fun H1 s1 => trs_cons (row1 Z.x_NoMachine.cl rfl (th (Rf.same s1)) (m1 (sf.trans s1) nf) f1) fun H2 s2 => trs_cons (row1 Z.x_BadValue.cl rfl (th ((Rf.same s1).same s2)) (m2 ((sf.trans s1).trans s2) nf) f2) fun _ _ => trs_nil) _ fun v Hg tsg ⟨lg, ev, tng, Rg⟩ => ?_)
  subst ev
  have sg := sf.trans tsg
  have ng := sf.free tng
  refine set_run (made2 (th Rg) (fun Q => var_run (v := two) rfl) (fun Q => var_run (v := one) rfl) _ fun v Hh th' ⟨ah, dh, ev, Xh⟩ => ?_)
  subst ev
  have sh := sg.trans th'
  have Rh := Rg.same th'
  refine ret_run (rows_cat (ys := ["TooLarge"]) rfl Rh (by decide) (by decide) (fun H1 s1 => trs_cons (row2 Z.x_TooLarge.cl (by decide +kernel) rfl (Xh.same (same_hid _ s1)) rfl rfl (th (Rh.same s1)) (m2 (sh.trans s1) ng) f2 (m1 (sh.trans s1) ng) f1) fun _ _ => trs_nil) _ fun v Hi ti ⟨li, ev, ni, Ri⟩ => ?_)
  subst ev
  exact k Hi li (sh.free ni) (sh.trans ti) Ri
theorem sc_last : FnScope ["_law_one", "_law_two", "_law_found"] ["_law_one", "_law_two"] (defScope s_law_last_rows) := ⟨rfl, rfl, rfl, by decide +kernel, rfl, by decide +kernel, by decide +kernel⟩
theorem ok_last (Z : Xs P w K mg base) {fd : FuncData} (F : FnT K "_law_last_rows" s_law_last_rows fd) : FnOk P w K mg base CX0 3 (He.ga K "_law_last_rows") fd ["_law_one", "_law_two"] (spRows K xs2) := by
  have sc := sc_last
  refine ok0 F sc (fun vs H Q E h => ?_) (fun cdv A outer s H vs Q E hr h => ?_)
  · obtain ⟨one, two, d, e, rfl, _⟩ := h
    rfl
  obtain ⟨one, two, d, e, rfl, h1, h2, f1, f2, k⟩ := h
  refine ⟨_, (pss_cons (ps_set (i := 2) sc.nd rfl (Or.inl rfl) (pe_lst (pa_cons (pe_tup (pa_cons (pe_x1 Z.x_NoScale (hr.mono (by decide)) (pa_cons (pv 0) pa_nil)) (pa_cons (pe_xv (pe_x1 Z.x_NoScale (hr.mono (by decide)) (pa_cons (pv 0) pa_nil))) (pa_cons (pv 0) pa_nil)))) (pa_cons (pe_tup (pa_cons (pe_x1 Z.x_BadBound (hr.mono (by decide)) (pa_cons (pv 1) pa_nil)) (pa_cons (pe_xv (pe_x1 Z.x_BadBound (hr.mono (by decide)) (pa_cons (pv 1) pa_nil))) (pa_cons (pv 1) pa_nil)))) pa_nil))))
  (pss_cons (ps_set (i := 2) sc.nd rfl (Or.inl rfl) (pe_op op_cat (pv 2) (pe_lst (pa_cons (pe_tup (pa_cons (pe_x1 Z.x_NoTerm (hr.mono (by decide)) (pa_cons (pv 0) pa_nil)) (pa_cons (pe_xv (pe_x1 Z.x_NoTerm (hr.mono (by decide)) (pa_cons (pv 0) pa_nil))) (pa_cons (pv 0) pa_nil)))) (pa_cons (pe_tup (pa_cons (pe_x1 Z.x_NoClaim (hr.mono (by decide)) (pa_cons (pv 1) pa_nil)) (pa_cons (pe_xv (pe_x1 Z.x_NoClaim (hr.mono (by decide)) (pa_cons (pv 1) pa_nil))) (pa_cons (pv 1) pa_nil)))) pa_nil)))))
  (pss_cons (ps_set (i := 2) sc.nd rfl (Or.inl rfl) (pe_op op_cat (pv 2) (pe_lst (pa_cons (pe_tup (pa_cons (pe_x1 Z.x_NotRecord (hr.mono (by decide)) (pa_cons (pv 0) pa_nil)) (pa_cons (pe_xv (pe_x1 Z.x_NotRecord (hr.mono (by decide)) (pa_cons (pv 0) pa_nil))) (pa_cons (pv 0) pa_nil)))) (pa_cons (pe_tup (pa_cons (pe_x1 Z.x_Endless (hr.mono (by decide)) (pa_cons (pv 1) pa_nil)) (pa_cons (pe_xv (pe_x1 Z.x_Endless (hr.mono (by decide)) (pa_cons (pv 1) pa_nil))) (pa_cons (pv 1) pa_nil)))) pa_nil)))))
  (pss_cons (ps_set (i := 2) sc.nd rfl (Or.inl rfl) (pe_op op_cat (pv 2) (pe_lst (pa_cons (pe_tup (pa_cons (pe_x1 Z.x_NoOffer (hr.mono (by decide)) (pa_cons (pv 0) pa_nil)) (pa_cons (pe_xv (pe_x1 Z.x_NoOffer (hr.mono (by decide)) (pa_cons (pv 0) pa_nil))) (pa_cons (pv 0) pa_nil)))) (pa_cons (pe_tup (pa_cons (pe_x1 Z.x_NoOrder (hr.mono (by decide)) (pa_cons (pv 1) pa_nil)) (pa_cons (pe_xv (pe_x1 Z.x_NoOrder (hr.mono (by decide)) (pa_cons (pv 1) pa_nil))) (pa_cons (pv 1) pa_nil)))) pa_nil)))))
  (pss_one (ps_ret (pe_op op_cat (pv 2) (pe_lst (pa_cons (pe_tup (pa_cons (pe_x1 Z.x_BadText (hr.mono (by decide)) (pa_cons (pv 0) pa_nil)) (pa_cons (pe_xv (pe_x1 Z.x_BadText (hr.mono (by decide)) (pa_cons (pv 0) pa_nil))) (pa_cons (pv 0) pa_nil)))) (pa_cons (pe_tup (pa_cons (pe_exn0 PySem.F.excBase_ValueError Z.q_Barred Z.g_Barred Z.k_Barred (by rfl)) (pa_cons pe_int (pa_cons pe_int pa_nil)))) (pa_cons (pe_tup (pa_cons (pe_exn0 PySem.F.excBase_ValueError Z.q_NoLine Z.g_NoLine Z.k_NoLine (by rfl)) (pa_cons pe_int (pa_cons pe_int pa_nil)))) pa_nil))))))))))), ?_⟩
  have n1 : ∀ {H1 : Hp}, Same H H1 → Dq K (hid [] H1) one d := fun {H1} s => by rw [hid_nil]; exact Dq.same s _ _ h1
  have n2 : ∀ {H1 : Hp}, Same H H1 → Dq K (hid [] H1) two e := fun {H1} s => by rw [hid_nil]; exact Dq.same s _ _ h2
  have m1 : ∀ {H1 : Hp} {l : Addr}, Same H H1 → H l = none → Dq K (hid [l] H1) one d := fun s hl => Dq.same (hid_new s hl) _ _ h1
  have m2 : ∀ {H1 : Hp} {l : Addr}, Same H H1 → H l = none → Dq K (hid [l] H1) two e := fun s hl => Dq.same (hid_new s hl) _ _ h2
  have th : ∀ {H1 : Hp} {l : Addr} {xs : List Str}, RowsL K H1 l xs → There [l] H1 := fun R => let ⟨_, z, _⟩ := R; There.one z
  refine set_run (rows_new (ys := ["NoScale", "BadBound"]) (by decide) (trs_cons (row1 Z.x_NoScale.cl rfl there_nil (n1 (Same.refl H)) f1) fun H1 s1 => trs_cons (row1 Z.x_BadBound.cl rfl there_nil (n2 s1) f2) fun _ _ => trs_nil) _ fun v Ha sa ⟨la, ev, na, Ra⟩ => ?_)
  subst ev
  refine set_run (rows_cat (ys := ["NoTerm", "NoClaim"]) rfl Ra (by decide) (by decide) (fun H1 s1 => trs_cons (row1 Z.x_NoTerm.cl rfl (th (Ra.same s1)) (m1 (sa.trans s1) na) f1) fun H2 s2 => trs_cons (row1 Z.x_NoClaim.cl rfl (th ((Ra.same s1).same s2)) (m2 ((sa.trans s1).trans s2) na) f2) fun _ _ => trs_nil) _ fun v Hb tsb ⟨lb, ev, tnb, Rb⟩ => ?_)
  subst ev
  have sb := sa.trans tsb
  have nb := sa.free tnb
  refine set_run (rows_cat (ys := ["NotRecord", "Endless"]) rfl Rb (by decide) (by decide) (fun H1 s1 => trs_cons (row1 Z.x_NotRecord.cl rfl (th (Rb.same s1)) (m1 (sb.trans s1) nb) f1) fun H2 s2 => trs_cons (row1 Z.x_Endless.cl rfl (th ((Rb.same s1).same s2)) (m2 ((sb.trans s1).trans s2) nb) f2) fun _ _ => trs_nil) _ fun v Hc tsc_ ⟨lc, ev, tnc, Rc⟩ => ?_)
  subst ev
  have sc_ := sb.trans tsc_
  have nc := sb.free tnc
  refine set_run (rows_cat (ys := ["NoOffer", "NoOrder"]) rfl Rc (by decide) (by decide) (fun H1 s1 => trs_cons (row1 Z.x_NoOffer.cl rfl (th (Rc.same s1)) (m1 (sc_.trans s1) nc) f1) fun H2 s2 => trs_cons (row1 Z.x_NoOrder.cl rfl (th ((Rc.same s1).same s2)) (m2 ((sc_.trans s1).trans s2) nc) f2) fun _ _ => trs_nil) _ fun v Hd tsd ⟨ld, ev, tnd, Rd⟩ => ?_)
  subst ev
  have sd := sc_.trans tsd
  have nd := sc_.free tnd
  refine ret_run (rows_cat (ys := ["BadText", "Barred", "NoLine"]) rfl Rd (by decide) (by decide) (fun H1 s1 => trs_cons (row1 Z.x_BadText.cl rfl (th (Rd.same s1)) (m1 (sd.trans s1) nd) f1) fun H2 s2 => trs_cons (row0 (th ((Rd.same s1).same s2))) fun H3 s3 => trs_cons (row0 (th (((Rd.same s1).same s2).same s3))) fun _ _ => trs_nil) _ fun v Hi ti ⟨li, ev, ni, Ri⟩ => ?_)
  subst ev
  exact k Hi li (sd.free ni) (sd.trans ti) Ri
end
end K8

set_option Elab.async false
set_option linter.all false
set_option maxRecDepth 100000
set_option maxHeartbeats 1000000
namespace K8
open PySem PySem.Spec PyProof.Rows L2 AP
abbrev allx : List Str := xs1 ++ xs2
/-- what the head tells of the classes and one another -/
structure Xk (K : PySem.W.Frag) (mg : Str → Option Value) : Prop where
  e : ∀ x ∈ allx, ExcC K (He.ga K x)
  k : ∀ x ∈ allx, ∀ y ∈ allx, PySem.W.kitOne K (.ref (He.ga K x)) (.ref (He.ga K y)) = some (decide (y = x))
  p : ∀ x ∈ allx, PySem.W.kitOne K (.ref (He.ga K x)) (.ref (He.ga K "PadError")) = some true
  v : ∀ x ∈ allx, PySem.W.kitOne K (.ref (He.ga K x)) (.type "ValueError") = some true
  n : ∀ x ∈ allx, PySem.W.kitAny K (.ref (He.ga K x)) [.type "KeyError", .type "IndexError", .type "LookupError"] = some false
  pe : ExcC K (He.ga K "PadError")
  pv : PySem.W.kitOne K (.ref (He.ga K "PadError")) (.type "ValueError") = some true
/-- the expression gives v and changes nothing -/
def Pur (t : TE) (σ : L2.St) (H : Hp) (v : V) : Prop := ∀ Q : VK, Q v H → t σ H Q
def PurA (t : TA) (σ : L2.St) (H : Hp) (vs : List V) : Prop := ∀ Q : List V → Hp → Prop, Q vs H → t σ H Q
section
variable {K : PySem.W.Frag} {mg : Str → Option Value} {σ : L2.St} {H : Hp} {i : Nat} {x y : Str} {v : V} {t : TE} {ta : TA} {vs : List V}
theorem pur_nil : PurA tNil σ H [] := fun _ q => q
theorem pur_cons (h : Pur t σ H v) (hr : PurA ta σ H vs) : PurA (tCons t ta) σ H (v :: vs) := fun _ q => h _ (hr _ q)
theorem pur_isi {a : Addr} (T : Xk K mg) (hx : x ∈ allx) (hy : y ∈ allx) (hi : σ[i]? = some (some (.ref a))) (h : ExOk K H a x) : Pur (tCB (rIsX K) (tCons (tVar i) (tCons (tC (.ref (He.ga K y))) tNil))) σ H (.bl (decide (y = x))) := fun Q q =>
  let ⟨dd, h1, h2⟩ := h
  ⟨_, hi, a, He.ga K x, dd, _, _, _, rfl, h1, h2, T.e x hx, .own _, T.k x hx y hy, q⟩
theorem lst_new (h : PurA ta σ H vs) (hl : vs.length ≤ 100) : Gets (tLst ta) σ H (fun r H' => ∃ a, r = .ref a ∧ H a = none ∧ H' a = some (.lst vs)) := fun Q q =>
  h _ ⟨Nat.le_trans hl (by decide : 100 ≤ sizeLine), fun a ha => q _ _ (Same.new ha) ⟨a, rfl, ha, upd_same⟩⟩
theorem lst_cat {l : Addr} {us : List V} (hi : σ[i]? = some (some (.ref l))) (hl : H l = some (.lst us)) (h : PurA ta σ H vs) (l1 : us.length ≤ 100) (l2 : vs.length ≤ 100) :
    Gets (tOp rCat (tVar i) (tLst ta)) σ H (fun r H' => ∃ a, r = .ref a ∧ H a = none ∧ H' a = some (.lst (us ++ vs))) := fun Q q => by
  have e : sizeLine = 16777216 := sizeLine_eq
  refine ⟨_, hi, h _ ⟨by omega, fun b hb => ⟨l, b, us, vs, rfl, rfl, Same.new hb _ _ hl, upd_same, by omega, fun a ha => ?_⟩⟩⟩
  exact q _ _ ((Same.new hb).trans (Same.new ha)) ⟨a, rfl, (Same.new hb).free ha, upd_same⟩
end
def spMarks (K : PySem.W.Frag) : Sp := fun vs H Q _ => ∃ (a : Addr) (x : Str), vs = [.ref a] ∧ x ∈ allx ∧ ExOk K H a x ∧ ∀ (H' : Hp) (l : Addr), H l = none → Same H H' → H' l = some (.lst (allx.map fun y => V.bl (decide (y = x)))) → Q (.ref l) H'
abbrev s_law_marks : Stmt := top 33
structure Gx (mg : Str → Option Value) (K : PySem.W.Frag) : Prop where
  g_BadName : mg "BadName" = some (.ref (He.ga K "BadName"))
  g_BadTimes : mg "BadTimes" = some (.ref (He.ga K "BadTimes"))
  g_BadParts : mg "BadParts" = some (.ref (He.ga K "BadParts"))
  g_NoName : mg "NoName" = some (.ref (He.ga K "NoName"))
  g_NoPath : mg "NoPath" = some (.ref (He.ga K "NoPath"))
  g_Taken : mg "Taken" = some (.ref (He.ga K "Taken"))
  g_Ring : mg "Ring" = some (.ref (He.ga K "Ring"))
  g_InUse : mg "InUse" = some (.ref (He.ga K "InUse"))
  g_Unresolved : mg "Unresolved" = some (.ref (He.ga K "Unresolved"))
  g_NoMachine : mg "NoMachine" = some (.ref (He.ga K "NoMachine"))
  g_BadValue : mg "BadValue" = some (.ref (He.ga K "BadValue"))
  g_TooLarge : mg "TooLarge" = some (.ref (He.ga K "TooLarge"))
  g_NoScale : mg "NoScale" = some (.ref (He.ga K "NoScale"))
  g_BadBound : mg "BadBound" = some (.ref (He.ga K "BadBound"))
  g_NoTerm : mg "NoTerm" = some (.ref (He.ga K "NoTerm"))
  g_NoClaim : mg "NoClaim" = some (.ref (He.ga K "NoClaim"))
  g_NotRecord : mg "NotRecord" = some (.ref (He.ga K "NotRecord"))
  g_Endless : mg "Endless" = some (.ref (He.ga K "Endless"))
  g_NoOffer : mg "NoOffer" = some (.ref (He.ga K "NoOffer"))
  g_NoOrder : mg "NoOrder" = some (.ref (He.ga K "NoOrder"))
  g_BadText : mg "BadText" = some (.ref (He.ga K "BadText"))
  g_Barred : mg "Barred" = some (.ref (He.ga K "Barred"))
  g_NoLine : mg "NoLine" = some (.ref (He.ga K "NoLine"))
  g_PadError : mg "PadError" = some (.ref (He.ga K "PadError"))
  isinstance : mg "isinstance" = none
section
variable {P : Program} {w : World} {K : PySem.W.Frag} {mg : Str → Option Value} {base : Heap}
theorem sc_marks : FnScope ["_law_error", "_law_found"] ["_law_error"] (defScope s_law_marks) := ⟨rfl, rfl, rfl, by decide +kernel, rfl, by decide +kernel, by decide +kernel⟩
theorem ok_marks (T : Gx mg K) (Y : Xk K mg) {fd : FuncData} (F : FnT K "_law_marks" s_law_marks fd) : FnOk P w K mg base CX0 1 (He.ga K "_law_marks") fd ["_law_error"] (spMarks K) := by
  have sc := sc_marks
  refine ok0 F sc (fun vs H Q E h => ?_) (fun cdv A outer s H vs Q E hr h => ?_)
  · obtain ⟨a, x, rfl, _⟩ := h
    rfl
  obtain ⟨a, x, rfl, hx, ha, k⟩ := h
  refine ⟨_, (pss_cons (ps_set (i := 1) sc.nd rfl (Or.inl rfl) (pe_lst (pa_cons (pe_callB call_isX (by rfl) T.isinstance (by decide +kernel) (pa_cons (pv 0) (pa_cons (pe_glob (v := .ref _) (by rfl) T.g_BadName rfl) pa_nil))) (pa_cons (pe_callB call_isX (by rfl) T.isinstance (by decide +kernel) (pa_cons (pv 0) (pa_cons (pe_glob (v := .ref _) (by rfl) T.g_BadTimes rfl) pa_nil))) (pa_cons (pe_callB call_isX (by rfl) T.isinstance (by decide +kernel) (pa_cons (pv 0) (pa_cons (pe_glob (v := .ref _) (by rfl) T.g_BadParts rfl) pa_nil))) pa_nil)))))
  (pss_cons (ps_set (i := 1) sc.nd rfl (Or.inl rfl) (pe_op op_cat (pv 1) (pe_lst (pa_cons (pe_callB call_isX (by rfl) T.isinstance (by decide +kernel) (pa_cons (pv 0) (pa_cons (pe_glob (v := .ref _) (by rfl) T.g_NoName rfl) pa_nil))) (pa_cons (pe_callB call_isX (by rfl) T.isinstance (by decide +kernel) (pa_cons (pv 0) (pa_cons (pe_glob (v := .ref _) (by rfl) T.g_NoPath rfl) pa_nil))) (pa_cons (pe_callB call_isX (by rfl) T.isinstance (by decide +kernel) (pa_cons (pv 0) (pa_cons (pe_glob (v := .ref _) (by rfl) T.g_Taken rfl) pa_nil))) pa_nil))))))
  (pss_cons (ps_set (i := 1) sc.nd rfl (Or.inl rfl) (pe_op op_cat (pv 1) (pe_lst (pa_cons (pe_callB call_isX (by rfl) T.isinstance (by decide +kernel) (pa_cons (pv 0) (pa_cons (pe_glob (v := .ref _) (by rfl) T.g_Ring rfl) pa_nil))) (pa_cons (pe_callB call_isX (by rfl) T.isinstance (by decide +kernel) (pa_cons (pv 0) (pa_cons (pe_glob (v := .ref _) (by rfl) T.g_InUse rfl) pa_nil))) (pa_cons (pe_callB call_isX (by rfl) T.isinstance (by decide +kernel) (pa_cons (pv 0) (pa_cons (pe_glob (v := .ref _) (by rfl) T.g_Unresolved rfl) pa_nil))) pa_nil))))))
  (pss_cons (ps_set (i := 1) sc.nd rfl (Or.inl rfl) (pe_op op_cat (pv 1) (pe_lst (pa_cons (pe_callB call_isX (by rfl) T.isinstance (by decide +kernel) (pa_cons (pv 0) (pa_cons (pe_glob (v := .ref _) (by rfl) T.g_NoMachine rfl) pa_nil))) (pa_cons (pe_callB call_isX (by rfl) T.isinstance (by decide +kernel) (pa_cons (pv 0) (pa_cons (pe_glob (v := .ref _) (by rfl) T.g_BadValue rfl) pa_nil))) (pa_cons (pe_callB call_isX (by rfl) T.isinstance (by decide +kernel) (pa_cons (pv 0) (pa_cons (pe_glob (v := .ref _) (by rfl) T.g_TooLarge rfl) pa_nil))) pa_nil))))))
  (pss_cons (ps_set (i := 1) sc.nd rfl (Or.inl rfl) (pe_op op_cat (pv 1) (pe_lst (pa_cons (pe_callB call_isX (by rfl) T.isinstance (by decide +kernel) (pa_cons (pv 0) (pa_cons (pe_glob (v := .ref _) (by rfl) T.g_NoScale rfl) pa_nil))) (pa_cons (pe_callB call_isX (by rfl) T.isinstance (by decide +kernel) (pa_cons (pv 0) (pa_cons (pe_glob (v := .ref _) (by rfl) T.g_BadBound rfl) pa_nil))) (pa_cons (pe_callB call_isX (by rfl) T.isinstance (by decide +kernel) (pa_cons (pv 0) (pa_cons (pe_glob (v := .ref _) (by rfl) T.g_NoTerm rfl) pa_nil))) pa_nil))))))
  (pss_cons (ps_set (i := 1) sc.nd rfl (Or.inl rfl) (pe_op op_cat (pv 1) (pe_lst (pa_cons (pe_callB call_isX (by rfl) T.isinstance (by decide +kernel) (pa_cons (pv 0) (pa_cons (pe_glob (v := .ref _) (by rfl) T.g_NoClaim rfl) pa_nil))) (pa_cons (pe_callB call_isX (by rfl) T.isinstance (by decide +kernel) (pa_cons (pv 0) (pa_cons (pe_glob (v := .ref _) (by rfl) T.g_NotRecord rfl) pa_nil))) (pa_cons (pe_callB call_isX (by rfl) T.isinstance (by decide +kernel) (pa_cons (pv 0) (pa_cons (pe_glob (v := .ref _) (by rfl) T.g_Endless rfl) pa_nil))) pa_nil))))))
  (pss_cons (ps_set (i := 1) sc.nd rfl (Or.inl rfl) (pe_op op_cat (pv 1) (pe_lst (pa_cons (pe_callB call_isX (by rfl) T.isinstance (by decide +kernel) (pa_cons (pv 0) (pa_cons (pe_glob (v := .ref _) (by rfl) T.g_NoOffer rfl) pa_nil))) (pa_cons (pe_callB call_isX (by rfl) T.isinstance (by decide +kernel) (pa_cons (pv 0) (pa_cons (pe_glob (v := .ref _) (by rfl) T.g_NoOrder rfl) pa_nil))) (pa_cons (pe_callB call_isX (by rfl) T.isinstance (by decide +kernel) (pa_cons (pv 0) (pa_cons (pe_glob (v := .ref _) (by rfl) T.g_BadText rfl) pa_nil))) pa_nil))))))
  (pss_one (ps_ret (pe_op op_cat (pv 1) (pe_lst (pa_cons (pe_callB call_isX (by rfl) T.isinstance (by decide +kernel) (pa_cons (pv 0) (pa_cons (pe_glob (v := .ref _) (by rfl) T.g_Barred rfl) pa_nil))) (pa_cons (pe_callB call_isX (by rfl) T.isinstance (by decide +kernel) (pa_cons (pv 0) (pa_cons (pe_glob (v := .ref _) (by rfl) T.g_NoLine rfl) pa_nil))) pa_nil))))))))))))), ?_⟩
  refine set_run (lst_new (pur_cons (pur_isi (y := "BadName") Y hx (by decide +kernel) rfl ha) (pur_cons (pur_isi (y := "BadTimes") Y hx (by decide +kernel) rfl ha) (pur_cons (pur_isi (y := "BadParts") Y hx (by decide +kernel) rfl ha) pur_nil))) (by simp) _ fun v H1 t1 ⟨l1, ev, n1, l1h⟩ => ?_)
  subst ev
  have s1 := t1
  refine set_run (lst_cat rfl l1h (pur_cons (pur_isi (y := "NoName") Y hx (by decide +kernel) rfl (ha.same s1)) (pur_cons (pur_isi (y := "NoPath") Y hx (by decide +kernel) rfl (ha.same s1)) (pur_cons (pur_isi (y := "Taken") Y hx (by decide +kernel) rfl (ha.same s1)) pur_nil))) (by simp) (by simp) _ fun v H2 t2 ⟨l2, ev, n2, l2h⟩ => ?_)
  subst ev
  have s2 := s1.trans t2
  refine set_run (lst_cat rfl l2h (pur_cons (pur_isi (y := "Ring") Y hx (by decide +kernel) rfl (ha.same s2)) (pur_cons (pur_isi (y := "InUse") Y hx (by decide +kernel) rfl (ha.same s2)) (pur_cons (pur_isi (y := "Unresolved") Y hx (by decide +kernel) rfl (ha.same s2)) pur_nil))) (by simp) (by simp) _ fun v H3 t3 ⟨l3, ev, n3, l3h⟩ => ?_)
  subst ev
  have s3 := s2.trans t3
  refine set_run (lst_cat rfl l3h (pur_cons (pur_isi (y := "NoMachine") Y hx (by decide +kernel) rfl (ha.same s3)) (pur_cons (pur_isi (y := "BadValue") Y hx (by decide +kernel) rfl (ha.same s3)) (pur_cons (pur_isi (y := "TooLarge") Y hx (by decide +kernel) rfl (ha.same s3)) pur_nil))) (by simp) (by simp) _ fun v H4 t4 ⟨l4, ev, n4, l4h⟩ => ?_)
  subst ev
  have s4 := s3.trans t4
  refine set_run (lst_cat rfl l4h (pur_cons (pur_isi (y := "NoScale") Y hx (by decide +kernel) rfl (ha.same s4)) (pur_cons (pur_isi (y := "BadBound") Y hx (by decide +kernel) rfl (ha.same s4)) (pur_cons (pur_isi (y := "NoTerm") Y hx (by decide +kernel) rfl (ha.same s4)) pur_nil))) (by simp) (by simp) _ fun v H5 t5 ⟨l5, ev, n5, l5h⟩ => ?_)
  subst ev
  have s5 := s4.trans t5
  refine set_run (lst_cat rfl l5h (pur_cons (pur_isi (y := "NoClaim") Y hx (by decide +kernel) rfl (ha.same s5)) (pur_cons (pur_isi (y := "NotRecord") Y hx (by decide +kernel) rfl (ha.same s5)) (pur_cons (pur_isi (y := "Endless") Y hx (by decide +kernel) rfl (ha.same s5)) pur_nil))) (by simp) (by simp) _ fun v H6 t6 ⟨l6, ev, n6, l6h⟩ => ?_)
  subst ev
  have s6 := s5.trans t6
  refine set_run (lst_cat rfl l6h (pur_cons (pur_isi (y := "NoOffer") Y hx (by decide +kernel) rfl (ha.same s6)) (pur_cons (pur_isi (y := "NoOrder") Y hx (by decide +kernel) rfl (ha.same s6)) (pur_cons (pur_isi (y := "BadText") Y hx (by decide +kernel) rfl (ha.same s6)) pur_nil))) (by simp) (by simp) _ fun v H7 t7 ⟨l7, ev, n7, l7h⟩ => ?_)
  subst ev
  have s7 := s6.trans t7
  refine ret_run (lst_cat rfl l7h (pur_cons (pur_isi (y := "Barred") Y hx (by decide +kernel) rfl (ha.same s7)) (pur_cons (pur_isi (y := "NoLine") Y hx (by decide +kernel) rfl (ha.same s7)) pur_nil)) (by simp) (by simp) _ fun v H8 t8 ⟨l8, ev, n8, l8h⟩ => ?_)
  subst ev
  exact k _ l8 (s7.free n8) (s7.trans t8) l8h
end
end K8

set_option Elab.async false
set_option linter.all false
set_option maxRecDepth 100000
set_option maxHeartbeats 1000000
namespace K8
open PySem PySem.Spec PyProof.Rows L2 AP
/-- a pair of the same data -/
def Pq (K : PySem.W.Frag) (H : Hp) (v : V) : Prop := ∃ (t : Addr) (a b : V) (d : PyData), v = .ref t ∧ H t = some (.tup [a, b]) ∧ Dq K H a d ∧ Dq K H b d ∧ fineB 5 200 d = true
theorem Pq.same {K : PySem.W.Frag} {H H' : Hp} {v : V} (s : Same H H') (h : Pq K H v) : Pq K H' v :=
  let ⟨t, a, b, d, h1, h2, h4, h5, h6⟩ := h
  ⟨t, a, b, d, h1, s _ _ h2, Dq.same s _ _ h4, Dq.same s _ _ h5, h6⟩
/-- a list of such pairs, n at most -/
def Ps (K : PySem.W.Frag) (H : Hp) (l : Addr) (n : Nat) : Prop := ∃ vs : List V, H l = some (.lst vs) ∧ vs.length ≤ n ∧ ∀ v ∈ vs, Pq K H v
theorem Ps.same {K : PySem.W.Frag} {H H' : Hp} {l : Addr} {n : Nat} (s : Same H H') (h : Ps K H l n) : Ps K H' l n :=
  let ⟨vs, h1, h2, h3⟩ := h
  ⟨vs, s _ _ h1, h2, fun v hv => (h3 v hv).same s⟩
def PrA (K : PySem.W.Frag) (n : Nat) : List V → Hp → Prop := fun vs H => vs.length = n ∧ ∀ v ∈ vs, Pq K H v
section
variable {K : PySem.W.Frag} {σ : L2.St} {H : Hp} {x f g : Str} {v u : V} {d e : PyData} {i j : Nat}
/-- (x(f = e).f, e) -/
theorem kw1 (T : XCl K (He.ga K x) [f]) (hi : σ[i]? = some (some v)) (hd : Dq K H v d) (hf : fineB 3 60 d = true) :
    Gets (tTup (tCons (tXv K f (tExv (He.ga K x) 0 1 (spI1 (He.ga K x) f) (fun vs zs => vs ++ zs) tNil (tCons (tVar i) tNil))) (tCons (tVar i) tNil))) σ H (fun r H' => Pq K H' r) := fun Q q => by
  refine tup_run (cons_run (xv_run (made1K (C := He.ga K x) (f := f) (S := []) there_nil (fun Q => var_run hi) _ fun y H1 s1 ⟨a, d1, ey, X1⟩ => ?_)))
  subst ey
  refine ⟨a, He.ga K x, d1, _, v, rfl, X1.same hid_same, T.x, T.no f List.mem_cons_self, lk1, v, hi, (by show 2 ≤ sizeLine; decide), fun t ht => ?_⟩
  have s3 : Same H1 (upd H1 t (.tup [v, v])) := Same.new ht
  have dv := Dq.same (s1.trans s3) d v hd
  exact q _ _ (s1.trans s3) ⟨t, v, v, d, rfl, upd_same, dv, dv, fine_mono hf (by decide) (by decide)⟩
/-- ([error.f, error.g], [c, e]) -/
theorem kw2 {k : Nat} {a d1 : Addr} (T : XCl K (He.ga K x) [f, g]) (hne : f ≠ g) (hk : σ[k]? = some (some (.ref a))) (X : Exv H a (He.ga K x) d1 [(g, u), (f, v)]) (hi : σ[i]? = some (some v)) (hj : σ[j]? = some (some u))
    (hd : Dq K H v d) (hf : fineB 3 60 d = true) (he : Dq K H u e) (hg : fineB 3 60 e = true) :
    Gets (tTup (tCons (tLst (tCons (tXv K f (tVar k)) (tCons (tXv K g (tVar k)) tNil))) (tCons (tLst (tCons (tVar i) (tCons (tVar j) tNil))) tNil))) σ H (fun r H' => Pq K H' r) := fun Q q => by
  refine ⟨_, hk, a, He.ga K x, d1, _, v, rfl, X, T.x, T.no f List.mem_cons_self, lk2a hne, _, hk, a, He.ga K x, d1, _, u, rfl, X, T.x, T.no g (List.mem_cons_of_mem _ List.mem_cons_self), lk2b, (by show 2 ≤ sizeLine; decide), fun l1 hl1 => ?_⟩
  refine ⟨_, hi, _, hj, (by show 2 ≤ sizeLine; decide), fun l2 hl2 => ⟨(by show 2 ≤ sizeLine; decide), fun t ht => ?_⟩⟩
  have s1 : Same H (upd H l1 (.lst [v, u])) := Same.new hl1
  have s2 : Same _ (upd (upd H l1 (.lst [v, u])) l2 (.lst [v, u])) := Same.new hl2
  have s3 := Same.new (o := .tup [.ref l1, .ref l2]) ht
  have sA := (s1.trans s2).trans s3
  have dv := Dq.same sA d v hd
  have du := Dq.same sA e u he
  have h1 := (s2.trans s3) _ _ (upd_same (H := H) (a := l1) (o := .lst [v, u]))
  have h2 := s3 _ _ (upd_same (H := upd H l1 (.lst [v, u])) (a := l2) (o := .lst [v, u]))
  exact q _ _ sA ⟨t, .ref l1, .ref l2, .list [d, e], rfl, upd_same, .lst (SqL.of h1) (.cons dv (.cons du .nil)), .lst (SqL.of h2) (.cons dv (.cons du .nil)), fine_mono (fine_list2 hf hg) (by decide) (by decide)⟩
theorem pr_nil : GetsA tNil σ H (PrA K 0) := fun _ q => q _ H (Same.refl H) ⟨rfl, fun _ h => nomatch h⟩
theorem pr_cons {t : TE} {ta : TA} {n : Nat} (h : Gets t σ H (fun r H' => Pq K H' r)) (hr : ∀ H1, Same H H1 → GetsA ta σ H1 (PrA K n)) : GetsA (tCons t ta) σ H (PrA K (n + 1)) := fun _ q =>
  h _ fun r H1 s1 p1 => hr H1 s1 _ fun us H2 s2 ⟨l2, p2⟩ => q _ _ (s1.trans s2) ⟨congrArg Nat.succ l2, fun v hv => (List.mem_cons.mp hv).elim (fun z => by rw [z]; exact p1.same s2) (p2 v)⟩
theorem ps_new {n : Nat} {ta : TA} (hn : n ≤ 100) (h : GetsA ta σ H (PrA K n)) : Gets (tLst ta) σ H (fun r H' => ∃ a, r = .ref a ∧ Ps K H' a n) := fun Q q => h _ fun us H1 s1 ⟨l1, p1⟩ => by
  have e : sizeLine = 16777216 := sizeLine_eq
  refine ⟨by omega, fun a ha => ?_⟩
  have s3 := Same.new (o := .lst us) ha
  exact q _ _ (s1.trans s3) ⟨a, rfl, us, upd_same, by omega, fun v hv => (p1 v hv).same s3⟩
theorem ps_cat {m n : Nat} {l : Addr} {ta : TA} (hi : σ[i]? = some (some (.ref l))) (R : Ps K H l m) (hm : m ≤ 100) (hn : n ≤ 100) (h : GetsA ta σ H (PrA K n)) :
    Gets (tOp rCat (tVar i) (tLst ta)) σ H (fun r H' => ∃ a, r = .ref a ∧ Ps K H' a (m + n)) := fun Q q => by
  obtain ⟨vs, hl, hl2, hvs⟩ := R
  refine ⟨_, hi, h _ fun us H1 s1 hus => ?_⟩
  obtain ⟨l2, p2⟩ := hus
  have e : sizeLine = 16777216 := sizeLine_eq
  refine ⟨by omega, fun b hb => ⟨l, b, vs, us, rfl, rfl, Same.new hb _ _ (s1 _ _ hl), upd_same, by omega, fun a ha => ?_⟩⟩
  have s2 := Same.new (o := .lst us) hb
  have s3 := Same.new (o := .lst (vs ++ us)) ha
  have sA := (s1.trans s2).trans s3
  exact q _ _ sA ⟨a, rfl, vs ++ us, upd_same, by rw [List.length_append]; omega, fun v hv => (List.mem_append.mp hv).elim (fun z => (hvs v z).same sA) (fun z => (p2 v z).same (s2.trans s3))⟩
end
def spNamed (K : PySem.W.Frag) : Sp := fun vs H Q _ => ∃ (one two : V) (d e : PyData), vs = [one, two] ∧ Dq K H one d ∧ Dq K H two e ∧ fineB 3 60 d = true ∧ fineB 3 60 e = true ∧ ∀ H', Same H H' → Q (.bl true) H'
abbrev s_law_named_right : Stmt := top 32
structure Rx (K : PySem.W.Frag) (mg : Str → Option Value) : Prop where
  repr : mg "repr" = none
  sys : SysIn K
section
variable {P : Program} {w : World} {K : PySem.W.Frag} {mg : Str → Option Value} {base : Heap}
theorem sc_named : FnScope ["_law_one", "_law_two", "_law_found", "_law_error", "_law_seen", "_law_due"] ["_law_one", "_law_two"] (defScope s_law_named_right) := ⟨rfl, rfl, rfl, by decide +kernel, rfl, by decide +kernel, by decide +kernel⟩
theorem ok_named (Z : Xs P w K mg base) (T : Rx K mg) {fd : FuncData} (F : FnT K "_law_named_right" s_law_named_right fd) : FnG P w K mg base CX0 3 (He.ga K "_law_named_right") fd ["_law_one", "_law_two"] (spNamed K) := by
  have sc := sc_named
  refine ok0G F sc (fun vs H Q E h => ?_) (fun cdv A outer s H vs Q E hg hr h => ?_)
  · obtain ⟨one, two, d, e, rfl, _⟩ := h
    rfl
  obtain ⟨one, two, d, e, rfl, h1, h2, f1, f2, k⟩ := h
  refine ⟨_, (pss_cons (ps_set (i := 2) sc.nd rfl (Or.inl rfl) (pe_lst (pa_cons (pe_tup (pa_cons (pe_xv (pe_x1K Z.x_BadName (hr.mono (by decide)) (pk_cons (pv 0) pk_nil))) (pa_cons (pv 0) pa_nil))) (pa_cons (pe_tup (pa_cons (pe_xv (pe_x1K Z.x_BadTimes (hr.mono (by decide)) (pk_cons (pv 1) pk_nil))) (pa_cons (pv 1) pa_nil))) (pa_cons (pe_tup (pa_cons (pe_xv (pe_x1K Z.x_BadParts (hr.mono (by decide)) (pk_cons (pv 0) pk_nil))) (pa_cons (pv 0) pa_nil))) pa_nil)))))
  (pss_cons (ps_set (i := 2) sc.nd rfl (Or.inl rfl) (pe_op op_cat (pv 2) (pe_lst (pa_cons (pe_tup (pa_cons (pe_xv (pe_x1K Z.x_NoName (hr.mono (by decide)) (pk_cons (pv 1) pk_nil))) (pa_cons (pv 1) pa_nil))) (pa_cons (pe_tup (pa_cons (pe_xv (pe_x1K Z.x_Taken (hr.mono (by decide)) (pk_cons (pv 0) pk_nil))) (pa_cons (pv 0) pa_nil))) (pa_cons (pe_tup (pa_cons (pe_xv (pe_x1K Z.x_Ring (hr.mono (by decide)) (pk_cons (pv 1) pk_nil))) (pa_cons (pv 1) pa_nil))) pa_nil))))))
  (pss_cons (ps_set (i := 2) sc.nd rfl (Or.inl rfl) (pe_op op_cat (pv 2) (pe_lst (pa_cons (pe_tup (pa_cons (pe_xv (pe_x1K Z.x_InUse (hr.mono (by decide)) (pk_cons (pv 0) pk_nil))) (pa_cons (pv 0) pa_nil))) (pa_cons (pe_tup (pa_cons (pe_xv (pe_x1K Z.x_Unresolved (hr.mono (by decide)) (pk_cons (pv 1) pk_nil))) (pa_cons (pv 1) pa_nil))) (pa_cons (pe_tup (pa_cons (pe_xv (pe_x1K Z.x_NoMachine (hr.mono (by decide)) (pk_cons (pv 0) pk_nil))) (pa_cons (pv 0) pa_nil))) pa_nil))))))
  (pss_cons (ps_set (i := 2) sc.nd rfl (Or.inl rfl) (pe_op op_cat (pv 2) (pe_lst (pa_cons (pe_tup (pa_cons (pe_xv (pe_x1K Z.x_BadValue (hr.mono (by decide)) (pk_cons (pv 1) pk_nil))) (pa_cons (pv 1) pa_nil))) (pa_cons (pe_tup (pa_cons (pe_xv (pe_x1K Z.x_NoScale (hr.mono (by decide)) (pk_cons (pv 0) pk_nil))) (pa_cons (pv 0) pa_nil))) (pa_cons (pe_tup (pa_cons (pe_xv (pe_x1K Z.x_BadBound (hr.mono (by decide)) (pk_cons (pv 1) pk_nil))) (pa_cons (pv 1) pa_nil))) pa_nil))))))
  (pss_cons (ps_set (i := 2) sc.nd rfl (Or.inl rfl) (pe_op op_cat (pv 2) (pe_lst (pa_cons (pe_tup (pa_cons (pe_xv (pe_x1K Z.x_NoTerm (hr.mono (by decide)) (pk_cons (pv 0) pk_nil))) (pa_cons (pv 0) pa_nil))) (pa_cons (pe_tup (pa_cons (pe_xv (pe_x1K Z.x_NoClaim (hr.mono (by decide)) (pk_cons (pv 1) pk_nil))) (pa_cons (pv 1) pa_nil))) (pa_cons (pe_tup (pa_cons (pe_xv (pe_x1K Z.x_NotRecord (hr.mono (by decide)) (pk_cons (pv 0) pk_nil))) (pa_cons (pv 0) pa_nil))) pa_nil))))))
  (pss_cons (ps_set (i := 2) sc.nd rfl (Or.inl rfl) (pe_op op_cat (pv 2) (pe_lst (pa_cons (pe_tup (pa_cons (pe_xv (pe_x1K Z.x_Endless (hr.mono (by decide)) (pk_cons (pv 1) pk_nil))) (pa_cons (pv 1) pa_nil))) (pa_cons (pe_tup (pa_cons (pe_xv (pe_x1K Z.x_NoOffer (hr.mono (by decide)) (pk_cons (pv 0) pk_nil))) (pa_cons (pv 0) pa_nil))) (pa_cons (pe_tup (pa_cons (pe_xv (pe_x1K Z.x_NoOrder (hr.mono (by decide)) (pk_cons (pv 1) pk_nil))) (pa_cons (pv 1) pa_nil))) pa_nil))))))
  (pss_cons (ps_set (i := 2) sc.nd rfl (Or.inl rfl) (pe_op op_cat (pv 2) (pe_lst (pa_cons (pe_tup (pa_cons (pe_xv (pe_x1K Z.x_BadText (hr.mono (by decide)) (pk_cons (pv 0) pk_nil))) (pa_cons (pv 0) pa_nil))) pa_nil))))
  (pss_cons (ps_set (i := 3) sc.nd rfl (Or.inl rfl) (pe_x2K Z.x_NoPath (hr.mono (by decide)) (pk_cons (pv 1) (pk_cons (pv 0) pk_nil))))
  (pss_cons (ps_set (i := 2) sc.nd rfl (Or.inl rfl) (pe_op op_cat (pv 2) (pe_lst (pa_cons (pe_tup (pa_cons (pe_lst (pa_cons (pe_xv (pv 3)) (pa_cons (pe_xv (pv 3)) pa_nil))) (pa_cons (pe_lst (pa_cons (pv 0) (pa_cons (pv 1) pa_nil))) pa_nil))) pa_nil))))
  (pss_cons (ps_set (i := 3) sc.nd rfl (Or.inl rfl) (pe_x2K Z.x_TooLarge (hr.mono (by decide)) (pk_cons (pv 0) (pk_cons (pv 1) pk_nil))))
  (pss_cons (ps_set (i := 2) sc.nd rfl (Or.inl rfl) (pe_op op_cat (pv 2) (pe_lst (pa_cons (pe_tup (pa_cons (pe_lst (pa_cons (pe_xv (pv 3)) (pa_cons (pe_xv (pv 3)) pa_nil))) (pa_cons (pe_lst (pa_cons (pv 1) (pa_cons (pv 0) pa_nil))) pa_nil))) pa_nil))))
  (pss_one (ps_ret (pe_cmpR (op_eqD hr.units) (pe_lc (own := [("_law_seen", 4), ("_law_due", 5)]) (g := gTup K 2 (gCons (gName 4) (gCons (gName 5) (gNil)))) rfl sc.nd (pi_list (pv 2)) (blkOk_by (own := [("_law_seen", 4), ("_law_due", 5)]) (N := ["_law_one", "_law_two", "_law_found", "_law_error", "_law_seen", "_law_due"]) (sc := (defScope s_law_named_right)) (by decide +kernel)) (fun _ _ _ _ _ => (pg_tup rfl (pgs_cons (pg_name (i := 4) sc.nd rfl (Or.inl rfl)) (pgs_cons (pg_name (i := 5) sc.nd rfl (Or.inl rfl)) pgs_nil)))) (fun _ _ _ _ _ => (pts_one (pt_cmpR op_ne (pe_callB (call_reprK (K := K) hg T.sys hr.units) (by rfl) T.repr (by decide +kernel) (pa_cons (pv 4) pa_nil)) (pe_callB (call_reprK (K := K) hg T.sys hr.units) (by rfl) T.repr (by decide +kernel) (pa_cons (pv 5) pa_nil)) (nomark _)))) (fun _ _ _ _ _ => pe_int)) (pe_lst pa_nil) (nomark _))))))))))))))), ?_⟩
  have m1 : ∀ {H1 : Hp}, Same H H1 → Dq K H1 one d := fun s => Dq.same s _ _ h1
  have m2 : ∀ {H1 : Hp}, Same H H1 → Dq K H1 two e := fun s => Dq.same s _ _ h2
  refine set_run (ps_new (by decide) (pr_cons (kw1 Z.x_BadName.cl rfl (m1 (Same.refl H)) f1) fun G0 g0 => (pr_cons (kw1 Z.x_BadTimes.cl rfl (m2 ((Same.refl H).trans g0)) f2) fun G1 g1 => (pr_cons (kw1 Z.x_BadParts.cl rfl (m1 (((Same.refl H).trans g0).trans g1)) f1) fun G2 g2 => pr_nil))) _ fun v H1 t1 ⟨l1, ev, R1⟩ => ?_)
  subst ev
  have s1 := t1
  refine set_run (ps_cat rfl R1 (by decide) (by decide) (pr_cons (kw1 Z.x_NoName.cl rfl (m2 s1) f2) fun G0 g0 => (pr_cons (kw1 Z.x_Taken.cl rfl (m1 (s1.trans g0)) f1) fun G1 g1 => (pr_cons (kw1 Z.x_Ring.cl rfl (m2 ((s1.trans g0).trans g1)) f2) fun G2 g2 => pr_nil))) _ fun v H2 t2 ⟨l2, ev, R2⟩ => ?_)
  subst ev
  have s2 := s1.trans t2
  refine set_run (ps_cat rfl R2 (by decide) (by decide) (pr_cons (kw1 Z.x_InUse.cl rfl (m1 s2) f1) fun G0 g0 => (pr_cons (kw1 Z.x_Unresolved.cl rfl (m2 (s2.trans g0)) f2) fun G1 g1 => (pr_cons (kw1 Z.x_NoMachine.cl rfl (m1 ((s2.trans g0).trans g1)) f1) fun G2 g2 => pr_nil))) _ fun v H3 t3 ⟨l3, ev, R3⟩ => ?_)
  subst ev
  have s3 := s2.trans t3
  refine set_run (ps_cat rfl R3 (by decide) (by decide) (pr_cons (kw1 Z.x_BadValue.cl rfl (m2 s3) f2) fun G0 g0 => (pr_cons (kw1 Z.x_NoScale.cl rfl (m1 (s3.trans g0)) f1) fun G1 g1 => (pr_cons (kw1 Z.x_BadBound.cl rfl (m2 ((s3.trans g0).trans g1)) f2) fun G2 g2 => pr_nil))) _ fun v H4 t4 ⟨l4, ev, R4⟩ => ?_)
  subst ev
  have s4 := s3.trans t4
  refine set_run (ps_cat rfl R4 (by decide) (by decide) (pr_cons (kw1 Z.x_NoTerm.cl rfl (m1 s4) f1) fun G0 g0 => (pr_cons (kw1 Z.x_NoClaim.cl rfl (m2 (s4.trans g0)) f2) fun G1 g1 => (pr_cons (kw1 Z.x_NotRecord.cl rfl (m1 ((s4.trans g0).trans g1)) f1) fun G2 g2 => pr_nil))) _ fun v H5 t5 ⟨l5, ev, R5⟩ => ?_)
  subst ev
  have s5 := s4.trans t5
  refine set_run (ps_cat rfl R5 (by decide) (by decide) (pr_cons (kw1 Z.x_Endless.cl rfl (m2 s5) f2) fun G0 g0 => (pr_cons (kw1 Z.x_NoOffer.cl rfl (m1 (s5.trans g0)) f1) fun G1 g1 => (pr_cons (kw1 Z.x_NoOrder.cl rfl (m2 ((s5.trans g0).trans g1)) f2) fun G2 g2 => pr_nil))) _ fun v H6 t6 ⟨l6, ev, R6⟩ => ?_)
  subst ev
  have s6 := s5.trans t6
  refine set_run (ps_cat rfl R6 (by decide) (by decide) (pr_cons (kw1 Z.x_BadText.cl rfl (m1 s6) f1) fun G0 g0 => pr_nil) _ fun v H7 t7 ⟨l7, ev, R7⟩ => ?_)
  subst ev
  have s7 := s6.trans t7
  refine set_run (made2K (S := []) there_nil (fun Q => var_run (v := two) rfl) (fun Q => var_run (v := one) rfl) _ fun v H8 t8 ⟨a8, d8, ev, X8⟩ => ?_)
  subst ev
  have s8 := s7.trans t8
  have R8 := R7.same t8
  refine set_run (ps_cat rfl R8 (by decide) (by decide) (pr_cons (kw2 Z.x_NoPath.cl (by decide +kernel) rfl (X8.same hid_same) rfl rfl (m1 s8) f1 (m2 s8) f2) fun G0 g0 => pr_nil) _ fun v H9 t9 ⟨l9, ev, R9⟩ => ?_)
  subst ev
  have s9 := s8.trans t9
  refine set_run (made2K (S := []) there_nil (fun Q => var_run (v := one) rfl) (fun Q => var_run (v := two) rfl) _ fun v H10 t10 ⟨a10, d10, ev, X10⟩ => ?_)
  subst ev
  have s10 := s9.trans t10
  have R10 := R9.same t10
  refine set_run (ps_cat rfl R10 (by decide) (by decide) (pr_cons (kw2 Z.x_TooLarge.cl (by decide +kernel) rfl (X10.same hid_same) rfl rfl (m2 s10) f2 (m1 s10) f1) fun G0 g0 => pr_nil) _ fun v H11 t11 ⟨l11, ev, R11⟩ => ?_)
  subst ev
  have s11 := s10.trans t11
  obtain ⟨vs, hl, hlen, hvs⟩ := R11
  show tRet _ _ [some one, some two, some (V.ref l11), some (V.ref a10), none, none] _
  refine ret_run (op_run ?_)
  refine ⟨_, rfl, l11, rfl, ⟨_, SqL.of hl⟩, fun D hD => lc_list (K := K) (a := l11) (xs := vs) (fun i Hc => Same H11 Hc ∧ Hc D = some (.lst [])) ⟨Same.new hD, upd_same⟩ (fun i Hc _ ⟨z, _⟩ => SqL.of (z _ _ hl)) ?_ ?_⟩
  · rintro i y Hc hy ⟨z, hDc⟩
    obtain ⟨t, a, b, dd, rfl, ht, ha, hb, hf⟩ := hvs y (List.mem_of_getElem? hy)
    obtain ⟨g1, g2, g3, g4⟩ := fine_of hf
    have gz := fine_fits hf (by decide)
    refine ⟨t, _, rfl, SqT.of (z _ _ ht), rfl, _, _, rfl, _, _, rfl, rfl, rfl, _, rfl, a, dd, rfl, Dq.same z _ _ ha, g1, by omega, gz, _, rfl, b, dd, rfl, Dq.same z _ _ hb, g1, by omega, gz, rfl, _, rfl, ?_⟩
    rw [decide_eq_true rfl]
    exact iteF ⟨z, hDc⟩
  · rintro Hc ⟨z, hDc⟩
    refine ⟨(by show 0 ≤ sizeLine; decide), fun q hq => ⟨.list [], .list [], .lst (SqL.of (Same.new hq _ _ hDc)) .nil, .lst (SqL.of upd_same) .nil, rfl, rfl, ?_⟩⟩
    exact k _ ((s11.trans z).trans (Same.new hq))
end
end K8

set_option Elab.async false
set_option linter.all false
set_option maxRecDepth 100000
set_option maxHeartbeats 1000000
namespace K8
open PySem PySem.Spec PyProof.Rows L2 AP
theorem marks_are {i : Nat} (hi : i < 23) {x : Str} (hx : allx[i]? = some x) : (allx.map fun y => decide (y = x)) = (List.range 23).map fun (k : Nat) => decide (V.int ((0 : Int) + (k : Int)) = V.int ((0 : Int) + (i : Int))) := by
  have q : ∀ i : _root_.Fin 23, (allx.map fun y => decide (some y = allx[i.1]?)) = (List.range 23).map fun (k : Nat) => decide (V.int ((0 : Int) + (k : Int)) = V.int ((0 : Int) + (i.1 : Int))) := by decide +kernel
  have z := q ⟨i, hi⟩
  rw [← z]
  refine List.map_congr_left fun y _ => ?_
  show decide (y = x) = decide (some y = allx[i]?)
  rw [hx]
  by_cases e : y = x
  · rw [e]
    simp
  · have e2 : ¬ some y = some x := fun w => e (Option.some.inj w)
    rw [decide_eq_false e, decide_eq_false e2]
theorem trs_get {K : PySem.W.Frag} {H : Hp} : ∀ {vs : List V} {xs : List Str} {j : Nat}, Trs K H vs xs → j < vs.length → ∃ v x, vs[j]? = some v ∧ xs[j]? = some x ∧ Tr K H v x
  | _, _, _, .nil, h => absurd h (Nat.not_lt_zero _)
  | _, _, 0, .cons h _, _ => ⟨_, _, rfl, rfl, h⟩
  | _, _, j + 1, .cons _ r, h => trs_get (j := j) r (Nat.lt_of_succ_lt_succ h)
theorem atI_at {xs : List V} {j : Nat} {v : V} (h : xs[j]? = some v) : atI xs ((0 : Int) + (j : Int)) = some v := by
  have hl : j < xs.length := (List.getElem?_eq_some_iff.mp h).1
  unfold atI ixN
  rw [if_pos (by omega), if_pos (by omega)]
  have e : ((0 : Int) + (j : Int)).toNat = j := by omega
  rw [e]
  exact h
theorem dp_bools {K : PySem.W.Frag} {H : Hp} : ∀ bs : List Bool, DpAll K H (bs.map V.bl) (bs.map PyData.bool)
  | [] => .nil
  | b :: bs => .cons (.bl b) (dp_bools bs)
theorem shaped_bools (bs : List Bool) : SeqAt.shaped (.list (bs.map PyData.bool)) = true := by
  have h1 : ∀ l : List Bool, PyData.canLayAll0 (l.map PyData.bool) = true := fun l => by
    induction l with
    | nil => rfl
    | cons a r ih => exact ih
  have h2 : ∀ l : List Bool, PyData.depthAll (l.map PyData.bool) = 0 := fun l => by
    induction l with
    | nil => rfl
    | cons a r ih =>
      show max (PyData.depth (.bool a)) (PyData.depthAll (r.map PyData.bool)) = 0
      rw [ih]
      rfl
  unfold SeqAt.shaped
  have e1 : PyData.canLay0 (.list (bs.map PyData.bool)) = true := h1 bs
  have e2 : PyData.depth (.list (bs.map PyData.bool)) ≤ 64 := by
    simp only [PyData.depth, h2]
    omega
  rw [e1, decide_eq_true e2]
  rfl
theorem eqv_bools (bs : List Bool) : PyData.eqv (.list (bs.map PyData.bool)) (.list (bs.map PyData.bool)) = true := SeqAt.eqv_refl _ (Bool.and_eq_true_iff.mp (shaped_bools bs)).1
theorem yes_run {σ : L2.St} {H : Hp} {Q : Bool → Hp → Prop} (h : Q true H) : tYes σ H Q := h
def spLaw (K : PySem.W.Frag) : Sp := fun vs H Q _ => ∃ (a : Addr) (ns : List Int), vs = [.ref a] ∧ SqL K H a (ns.map V.int) ∧ ∀ H', Q (.bl true) H'
abbrev slaw : Stmt := top 34
structure Lx (K : PySem.W.Frag) (mg : Str → Option Value) : Prop where
  repr : mg "repr" = none
  sys : SysIn K
  range : mg "range" = none
  len : mg "len" = none
  isinstance : mg "isinstance" = none
  ValueError : mg "ValueError" = none
  KeyError : mg "KeyError" = none
  IndexError : mg "IndexError" = none
  LookupError : mg "LookupError" = none
  g_PadError : mg "PadError" = some (.ref (He.ga K "PadError"))
section
variable {P : Program} {w : World} {K : PySem.W.Frag} {mg : Str → Option Value} {base : Heap}
theorem sc_law : FnScope ["_law_script", "_law_pen_here", "_law_turn", "_law_one", "_law_two", "_law_rows", "_law_spot", "_law_error", "_law_seen", "_law_due", "_law_k"] ["_law_script"] (defScope slaw) := ⟨rfl, rfl, rfl, by decide +kernel, rfl, by decide +kernel, by decide +kernel⟩
theorem ok_law (Z : Xs P w K mg base) (Y : Xk K mg) (T : Lx K mg) (C__law_pen : Cal P w K mg base CX0 1 "_law_pen" ["_law_script"] (spPen K)) (C__law_value : Cal P w K mg base CX0 3 "_law_value" ["_law_pen_here"] (spVal K))
    (C__law_first_rows : Cal P w K mg base CX0 3 "_law_first_rows" ["_law_one", "_law_two"] (spRows K xs1)) (C__law_last_rows : Cal P w K mg base CX0 3 "_law_last_rows" ["_law_one", "_law_two"] (spRows K xs2))
    (C__law_named_right : CalG P w K mg base CX0 3 "_law_named_right" ["_law_one", "_law_two"] (spNamed K)) (C__law_marks : Cal P w K mg base CX0 1 "_law_marks" ["_law_error"] (spMarks K))
    {fd : FuncData} (F : FnT K "law" slaw fd) : FnG P w K mg base CX0 4 (He.ga K "law") fd ["_law_script"] (spLaw K) := by
  have sc := sc_law
  refine ok0G F sc (fun vs H Q E h => ?_) (fun cdv A outer s H vs Q E hg hr h => ?_)
  · obtain ⟨a, ns, rfl, _⟩ := h
    rfl
  obtain ⟨a, ns, rfl, hS, k⟩ := h
  refine ⟨_, (pss_cons (ps_set (i := 1) sc.nd rfl (Or.inl rfl) (pe_f C__law_pen (hr.mono (by decide)) pass0 (pa_cons (pv 0) pa_nil)))
  (pss_cons (ps_for PassesOwn.never rfl (pi_range1 (by rfl) T.range (pa_cons pe_int pa_nil)) (pg_name (i := 2) sc.nd rfl (Or.inl rfl))
  (pss_cons (ps_par (i := 3) (j := 4) (by rfl) sc.nd rfl rfl (by decide) rfl rfl (pa_cons (pe_f C__law_value (hr.mono (by decide)) pass0 (pa_cons (pv 1) pa_nil)) (pa_cons (pe_f C__law_value (hr.mono (by decide)) pass0 (pa_cons (pv 1) pa_nil)) pa_nil)) (by rfl))
  (pss_cons (ps_set (i := 5) sc.nd rfl (Or.inl rfl) (pe_op op_cat (pe_f C__law_first_rows (hr.mono (by decide)) pass0 (pa_cons (pv 3) (pa_cons (pv 4) pa_nil))) (pe_f C__law_last_rows (hr.mono (by decide)) pass0 (pa_cons (pv 3) (pa_cons (pv 4) pa_nil)))))
  (pss_cons (ps_if (pt_not (pt_val (pe_fG C__law_named_right hg (hr.mono (by decide)) pass0 (pa_cons (pv 3) (pa_cons (pv 4) pa_nil)))))
  (pss_one (ps_ret pe_bl))
  pss_nil)
  (pss_one (ps_for PassesOwn.never rfl (pi_range1 (by rfl) T.range (pa_cons (pe_callB call_len (by rfl) T.len (by decide +kernel) (pa_cons (pv 5) pa_nil)) pa_nil)) (pg_name (i := 6) sc.nd rfl (Or.inr rfl))
  (pss_cons (ps_asg (pe_ix ix_list (pv 5) (pv 6) (fun _ _ => rfl)) (pg_tup rfl (pgs_cons (pg_name (i := 7) sc.nd rfl (Or.inl rfl)) (pgs_cons (pg_name (i := 8) sc.nd rfl (Or.inl rfl)) (pgs_cons (pg_name (i := 9) sc.nd rfl (Or.inl rfl)) pgs_nil)))))
  (pss_cons (ps_if (PW.pt (pw_or (pt_cmpR op_ne (pe_callB (call_reprD hg T.sys hr.units) (by rfl) T.repr (by decide +kernel) (pa_cons (pv 8) pa_nil)) (pe_callB (call_reprD hg T.sys hr.units) (by rfl) T.repr (by decide +kernel) (pa_cons (pv 9) pa_nil)) (nomark _)) (pw_or1 (pt_cmpR (op_neD hr.units) (pe_f C__law_marks (hr.mono (by decide)) pass0 (pa_cons (pv 7) pa_nil)) (pe_lc (own := [("_law_k", 10)]) (g := gName 10) rfl sc.nd (pi_range1 (by rfl) T.range (pa_cons pe_int pa_nil)) (blkOk_by (own := [("_law_k", 10)]) (N := ["_law_script", "_law_pen_here", "_law_turn", "_law_one", "_law_two", "_law_rows", "_law_spot", "_law_error", "_law_seen", "_law_due", "_law_k"]) (sc := (defScope slaw)) (by decide +kernel)) (fun _ _ _ _ _ => (pg_name (i := 10) sc.nd rfl (Or.inl rfl))) (fun _ _ _ _ _ => pts_nil) (fun _ _ _ _ _ => (pe_cmpR op_eq (pv 10) (pv 6) (nomark _)))) (nomark _)))))
  (pss_one (ps_ret pe_bl))
  pss_nil)
  (pss_cons (ps_if (PW.pt (pw_or (pt_not (pt_val (pe_callB call_isX (by rfl) T.isinstance (by decide +kernel) (pa_cons (pv 7) (pa_cons (pe_glob (v := .ref _) (by rfl) T.g_PadError rfl) pa_nil))))) (pw_or1 (pt_not (pt_val (pe_callB call_isX (by rfl) T.isinstance (by decide +kernel) (pa_cons (pv 7) (pa_cons (pe_bltn (v := .ty "ValueError") (by rfl) T.ValueError (by decide +kernel) rfl) pa_nil))))))))
  (pss_one (ps_ret pe_bl))
  pss_nil)
  (pss_one (ps_if (pt_val (pe_callB call_isXT (by rfl) T.isinstance (by decide +kernel) (pa_cons (pv 7) (pa_cons (pe_tup (pa_cons (pe_bltn (v := .ty "KeyError") (by rfl) T.KeyError (by decide +kernel) rfl) (pa_cons (pe_bltn (v := .ty "IndexError") (by rfl) T.IndexError (by decide +kernel) rfl) (pa_cons (pe_bltn (v := .ty "LookupError") (by rfl) T.LookupError (by decide +kernel) rfl) pa_nil)))) pa_nil))))
  (pss_one (ps_ret pe_bl))
  pss_nil)))))))))))
  (pss_one (ps_ret (pe_callB call_isX (by rfl) T.isinstance (by decide +kernel) (pa_cons (pe_exn1 PySem.F.excBase_ValueError Z.q_PadError Z.g_PadError Z.k_PadError (by rfl) pe_str) (pa_cons (pe_bltn (v := .ty "ValueError") (by rfl) T.ValueError (by decide +kernel) rfl) pa_nil))))))), ?_⟩
  refine ⟨_, rfl, a, ns, rfl, hS, fun H1 p c np pen s1 => ?_⟩
  refine ⟨4, rfl, by decide, by decide, for_range (n := 4) (fun i σ Hc => ∃ (x2 x3 x4 x5 x6 x7 x8 x9 x10 : Option V), σ = [some (.ref a), some (.ref p), x2, x3, x4, x5, x6, x7, x8, x9, x10] ∧ Pen Hc p c (4 * i))
    ⟨none, none, none, none, none, none, none, none, none, rfl, pen⟩ ?_ ?_⟩
  · rintro i σ Hc hi ⟨x2, x3, x4, x5, x6, x7, x8, x9, x10, rfl, penc⟩
    refine par_run ?_
    refine ⟨_, rfl, p, c, _, rfl, penc, by omega, fun H2 one d hd hf pen2 kp2 => ⟨_, rfl, p, c, _, rfl, pen2, by omega, fun H3 two e he hfe pen3 kp3 => ⟨one, two, rfl, ?_⟩⟩⟩
    have d1 : Dq K H3 one d := (Dv.kp hd kp3).full
    have d2 : Dq K H3 two e := Dv.full he
    show tSeq _ _ _ [some (.ref a), some (.ref p), some (.int (0 + (i : Int))), some one, some two, x5, x6, x7, x8, x9, x10] H3
    refine set_run (op_run (call_run ?_))
    refine ⟨_, rfl, _, rfl, one, two, d, e, rfl, d1, d2, hf, hfe, fun H4 l1 nl1 s4 R1 => ?_⟩
    refine call_run ?_
    refine ⟨_, rfl, _, rfl, one, two, d, e, rfl, Dq.same s4 _ _ d1, Dq.same s4 _ _ d2, hf, hfe, fun H5 l2 nl2 s5 R2 => ?_⟩
    obtain ⟨vs1, hl1, t1⟩ := R1
    obtain ⟨vs2, hl2, t2⟩ := R2
    have n1 : vs1.length = 12 := Paired.length t1
    have n2 : vs2.length = 11 := Paired.length t2
    have esz : sizeLine = 16777216 := sizeLine_eq
    refine ⟨l1, l2, vs1, vs2, rfl, rfl, s5 _ _ hl1, hl2, by omega, fun l hl => ?_⟩
    have s6 : Same H5 (upd H5 l (.lst (vs1 ++ vs2))) := Same.new hl
    have h6 : upd H5 l (.lst (vs1 ++ vs2)) l = some (.lst (vs1 ++ vs2)) := upd_same
    have tr6 : Trs K (upd H5 l (.lst (vs1 ++ vs2))) (vs1 ++ vs2) allx := Trs.append ((t1.same hid_same).same (s5.trans s6)) ((t2.same hid_same).same s6)
    have s36 := (s4.trans s5).trans s6
    have nn : (vs1 ++ vs2).length = 23 := by rw [List.length_append]; omega
    clear hl s6
    generalize upd H5 l (.lst (vs1 ++ vs2)) = H6 at h6 tr6 s36 ⊢
    generalize vs1 ++ vs2 = vs at h6 tr6 nn
    have pen6 := pen3.same s36
    show tSeq _ _ _ [some (.ref a), some (.ref p), some (.int (0 + (i : Int))), some one, some two, some (.ref l), x6, x7, x8, x9, x10] H6
    refine ifs_run ?_
    refine ⟨_, rfl, _, rfl, one, two, d, e, rfl, Dq.same s36 _ _ d1, Dq.same s36 _ _ d2, hf, hfe, fun H7 s7 => ⟨true, rfl, iteF ?_⟩⟩
    have h7 := s7 _ _ h6
    have tr7 := tr6.same s7
    have pen7 := pen6.same s7
    refine ⟨_, rfl, _, _, rfl, .inl ⟨_, SqL.of h7, rfl⟩, _, rfl, by omega, by omega, for_range (fun j σ Hc => ∃ (y6 y7 y8 y9 y10 : Option V), σ = [some (.ref a), some (.ref p), some (.int (0 + (i : Int))), some one, some two, some (.ref l), y6, y7, y8, y9, y10] ∧ Same H7 Hc)
      ⟨x6, x7, x8, x9, x10, rfl, Same.refl H7⟩ ?_ ?_⟩
    · rintro j σ Hd hj ⟨y6, y7, y8, y9, y10, rfl, sd⟩
      have hj2 : j < 23 := by omega
      obtain ⟨v, x, hv, hx, hT⟩ := trs_get tr7 (j := j) (by omega)
      have hxm : x ∈ allx := List.mem_of_getElem? hx
      obtain ⟨t, er, sa, sb, dd, rfl, ht, hex, hda, hdb, hfd⟩ := hT.same sd
      obtain ⟨g1, g2, g3, g4⟩ := fine_of hfd
      have gz := fine_fits hfd (by decide)
      refine asg_run ?_
      refine ⟨_, rfl, _, rfl, l, _, _, _, rfl, rfl, SqL.of (sd _ _ h7), atI_at hv, t, _, rfl, SqT.of ht, rfl, _, _, rfl, _, _, rfl, _, _, rfl, rfl, ?_⟩
      show tSeq _ _ _ [some (.ref a), some (.ref p), some (.int (0 + (i : Int))), some one, some two, some (.ref l), some (.int (0 + (j : Int))), some (.ref er), some sa, some sb, y10] Hd
      refine ifs_run ?_
      refine ⟨_, rfl, sa, dd, rfl, hda, g1, by omega, gz, _, rfl, sb, dd, rfl, hdb, g1, by omega, gz, rfl, _, rfl, ?_⟩
      rw [decide_eq_true rfl]
      refine iteF (test_run (op_run (call_run ?_)))
      refine ⟨_, rfl, er, x, rfl, hxm, hex, fun H8 m nm s8 hm => ?_⟩
      refine ⟨23, rfl, by decide, by decide, fun D hD => lc_range (lo := 0) (n := 23) (fun n Hc => Same H8 Hc ∧ Hc D = some (.lst (((List.range n).map fun (k : Nat) => decide (V.int ((0 : Int) + (k : Int)) = V.int ((0 : Int) + (j : Int)))).map V.bl))) ⟨Same.new hD, upd_same⟩ ?_ ?_⟩
      · rintro n Hc hn ⟨z, hDc⟩
        refine ⟨rfl, yes_run ?_⟩
        refine iteT ?_
        refine ⟨_, rfl, _, rfl, rfl, _, hDc, (by rw [List.length_map, List.length_map, List.length_range]; omega), fun b o e => ?_, ?_⟩
        · rw [upd_ne (ne_of_none e hD)]
          exact z b o e
        · rw [upd_same, List.range_succ, List.map_append, List.map_append]
          rfl
      · rintro Hc ⟨z, hDc⟩
        have hm2 : Hc m = some (.lst ((allx.map fun y => decide (y = x)).map V.bl)) := by
          rw [List.map_map]
          exact z _ _ hm
        rw [marks_are hj2 hx] at hm2
        refine ⟨_, _, .lst (SqL.of hm2) (dp_bools _), .lst (SqL.of hDc) (dp_bools _), shaped_bools _, shaped_bools _, _, rfl, ?_⟩
        rw [eqv_bools]
        refine iteF ?_
        have hexc := hex.same (s8.trans z)
        obtain ⟨dd2, e1, e2⟩ := hexc
        show tSeq _ _ _ [some (.ref a), some (.ref p), some (.int (0 + (i : Int))), some one, some two, some (.ref l), some (.int (0 + (j : Int))), some (.ref er), some sa, some sb, y10] Hc
        refine ifs_run ?_
        refine ⟨_, rfl, er, _, dd2, _, _, true, rfl, e1, e2, Y.e x hxm, .own _, Y.p x hxm, true, rfl, iteF ⟨_, rfl, er, _, dd2, _, _, true, rfl, e1, e2, Y.e x hxm, .ty _, Y.v x hxm, true, rfl, iteF ?_⟩⟩
        refine if_run ?_
        refine ⟨_, rfl, (by show 3 ≤ sizeLine; decide), fun tp htp => ⟨er, _, dd2, tp, _, _, false, rfl, Same.new htp _ _ e1, (fun dx q => (e2 dx q).imp fun fs z => Same.new htp _ _ z), Y.e x hxm, upd_same, .cons (.ty _) (.cons (.ty _) (.cons (.ty _) .nil)), Y.n x hxm, false, rfl, iteF ?_⟩⟩
        exact ⟨_, _, _, _, _, rfl, ((sd.trans s8).trans z).trans (Same.new htp)⟩
    · rintro σ Hd ⟨y6, y7, y8, y9, y10, rfl, sd⟩
      exact ⟨_, _, _, _, _, _, _, _, _, rfl, (pen7.same sd).mono (by omega)⟩
  · rintro σ Hc ⟨x2, x3, x4, x5, x6, x7, x8, x9, x10, rfl, penc⟩
    refine fun e he => ⟨e, _, none, _, _, _, rfl, upd_same, (fun _ z => nomatch z), Y.pe, .ty _, Y.pv, ?_⟩
    exact k _
end
end K8

set_option Elab.async false
set_option linter.all false
set_option maxRecDepth 100000
set_option maxHeartbeats 0
namespace K8
open PySem PySem.Spec PyProof.Rows L2 AP
def d_law_pen : He.DefD := ⟨("_law_pen", none), "_law_pen", "_law_pen", defArgs s_law_pen, defBody s_law_pen, defScope s_law_pen, [], []⟩
def d_law_draw : He.DefD := ⟨("_law_draw", none), "_law_draw", "_law_draw", defArgs s_law_draw, defBody s_law_draw, defScope s_law_draw, [], []⟩
def d_law_pick : He.DefD := ⟨("_law_pick", none), "_law_pick", "_law_pick", defArgs s_law_pick, defBody s_law_pick, defScope s_law_pick, [], []⟩
def d_law_value : He.DefD := ⟨("_law_value", none), "_law_value", "_law_value", defArgs s_law_value, defBody s_law_value, defScope s_law_value, [], []⟩
def d_law_first_rows : He.DefD := ⟨("_law_first_rows", none), "_law_first_rows", "_law_first_rows", defArgs s_law_first_rows, defBody s_law_first_rows, defScope s_law_first_rows, [], []⟩
def d_law_last_rows : He.DefD := ⟨("_law_last_rows", none), "_law_last_rows", "_law_last_rows", defArgs s_law_last_rows, defBody s_law_last_rows, defScope s_law_last_rows, [], []⟩
def d_law_named_right : He.DefD := ⟨("_law_named_right", none), "_law_named_right", "_law_named_right", defArgs s_law_named_right, defBody s_law_named_right, defScope s_law_named_right, [], []⟩
def d_law_marks : He.DefD := ⟨("_law_marks", none), "_law_marks", "_law_marks", defArgs s_law_marks, defBody s_law_marks, defScope s_law_marks, [], []⟩
def d_law : He.DefD := ⟨("law", none), "law", "law", defArgs slaw, defBody slaw, defScope slaw, [], []⟩
def d_BadName : He.DefD := ⟨("BadName", some "__init__"), "__init__", "BadName.__init__", defArgs s_BadName, defBody s_BadName, defScope s_BadName, [], []⟩
def d_BadTimes : He.DefD := ⟨("BadTimes", some "__init__"), "__init__", "BadTimes.__init__", defArgs s_BadTimes, defBody s_BadTimes, defScope s_BadTimes, [], []⟩
def d_BadParts : He.DefD := ⟨("BadParts", some "__init__"), "__init__", "BadParts.__init__", defArgs s_BadParts, defBody s_BadParts, defScope s_BadParts, [], []⟩
def d_NoPath : He.DefD := ⟨("NoPath", some "__init__"), "__init__", "NoPath.__init__", defArgs s_NoPath, defBody s_NoPath, defScope s_NoPath, [], []⟩
def d_NoName : He.DefD := ⟨("NoName", some "__init__"), "__init__", "NoName.__init__", defArgs s_NoName, defBody s_NoName, defScope s_NoName, [], []⟩
def d_Taken : He.DefD := ⟨("Taken", some "__init__"), "__init__", "Taken.__init__", defArgs s_Taken, defBody s_Taken, defScope s_Taken, [], []⟩
def d_Ring : He.DefD := ⟨("Ring", some "__init__"), "__init__", "Ring.__init__", defArgs s_Ring, defBody s_Ring, defScope s_Ring, [], []⟩
def d_InUse : He.DefD := ⟨("InUse", some "__init__"), "__init__", "InUse.__init__", defArgs s_InUse, defBody s_InUse, defScope s_InUse, [], []⟩
def d_Unresolved : He.DefD := ⟨("Unresolved", some "__init__"), "__init__", "Unresolved.__init__", defArgs s_Unresolved, defBody s_Unresolved, defScope s_Unresolved, [], []⟩
def d_NoMachine : He.DefD := ⟨("NoMachine", some "__init__"), "__init__", "NoMachine.__init__", defArgs s_NoMachine, defBody s_NoMachine, defScope s_NoMachine, [], []⟩
def d_BadValue : He.DefD := ⟨("BadValue", some "__init__"), "__init__", "BadValue.__init__", defArgs s_BadValue, defBody s_BadValue, defScope s_BadValue, [], []⟩
def d_TooLarge : He.DefD := ⟨("TooLarge", some "__init__"), "__init__", "TooLarge.__init__", defArgs s_TooLarge, defBody s_TooLarge, defScope s_TooLarge, [], []⟩
def d_NoScale : He.DefD := ⟨("NoScale", some "__init__"), "__init__", "NoScale.__init__", defArgs s_NoScale, defBody s_NoScale, defScope s_NoScale, [], []⟩
def d_BadBound : He.DefD := ⟨("BadBound", some "__init__"), "__init__", "BadBound.__init__", defArgs s_BadBound, defBody s_BadBound, defScope s_BadBound, [], []⟩
def d_NoTerm : He.DefD := ⟨("NoTerm", some "__init__"), "__init__", "NoTerm.__init__", defArgs s_NoTerm, defBody s_NoTerm, defScope s_NoTerm, [], []⟩
def d_NoClaim : He.DefD := ⟨("NoClaim", some "__init__"), "__init__", "NoClaim.__init__", defArgs s_NoClaim, defBody s_NoClaim, defScope s_NoClaim, [], []⟩
def d_NotRecord : He.DefD := ⟨("NotRecord", some "__init__"), "__init__", "NotRecord.__init__", defArgs s_NotRecord, defBody s_NotRecord, defScope s_NotRecord, [], []⟩
def d_Endless : He.DefD := ⟨("Endless", some "__init__"), "__init__", "Endless.__init__", defArgs s_Endless, defBody s_Endless, defScope s_Endless, [], []⟩
def d_NoOffer : He.DefD := ⟨("NoOffer", some "__init__"), "__init__", "NoOffer.__init__", defArgs s_NoOffer, defBody s_NoOffer, defScope s_NoOffer, [], []⟩
def d_NoOrder : He.DefD := ⟨("NoOrder", some "__init__"), "__init__", "NoOrder.__init__", defArgs s_NoOrder, defBody s_NoOrder, defScope s_NoOrder, [], []⟩
def d_BadText : He.DefD := ⟨("BadText", some "__init__"), "__init__", "BadText.__init__", defArgs s_BadText, defBody s_BadText, defScope s_BadText, [], []⟩
def fn : List He.DefD := [d_law_pen, d_law_draw, d_law_pick, d_law_value, d_law_first_rows, d_law_last_rows, d_law_named_right, d_law_marks, d_law, d_BadName, d_BadTimes, d_BadParts, d_NoPath, d_NoName, d_Taken, d_Ring, d_InUse, d_Unresolved, d_NoMachine, d_BadValue, d_TooLarge, d_NoScale, d_BadBound, d_NoTerm, d_NoClaim, d_NotRecord, d_Endless, d_NoOffer, d_NoOrder, d_BadText]
def fa : List He.Fa := [.glo "PadError", .glo "BadName", .glo "BadTimes", .glo "BadParts", .glo "NoPath", .glo "NoName", .glo "Taken", .glo "Ring", .glo "InUse", .glo "Unresolved", .glo "NoMachine", .glo "BadValue", .glo "TooLarge", .glo "NoScale", .glo "BadBound", .glo "NoTerm", .glo "NoClaim", .glo "NotRecord", .glo "Barred", .glo "Endless", .glo "NoOffer", .glo "NoOrder", .glo "BadText", .glo "NoLine", .glo "_law_pen", .glo "_law_draw", .glo "_law_pick", .glo "_law_value", .glo "_law_first_rows", .glo "_law_last_rows", .glo "_law_named_right", .glo "_law_marks", .glo "law", .free "int", .free "len", .free "abs", .free "list", .free "repr", .free "range", .free "isinstance", .free "ValueError", .free "KeyError", .free "IndexError", .free "LookupError"]
def clf : List (Str × List Str) := [("BadName", ["name"]), ("BadTimes", ["value"]), ("BadParts", ["at"]), ("NoPath", ["path", "at"]), ("NoName", ["name"]), ("Taken", ["name"]), ("Ring", ["way"]), ("InUse", ["name"]), ("Unresolved", ["name"]), ("NoMachine", ["scale"]), ("BadValue", ["path"]), ("TooLarge", ["what", "most"]), ("NoScale", ["scale"]), ("BadBound", ["value"]), ("NoTerm", ["at"]), ("NoClaim", ["at"]), ("NotRecord", ["name"]), ("Endless", ["scale"]), ("NoOffer", ["at"]), ("NoOrder", ["at"]), ("BadText", ["at"])]
def fx (K : PySem.W.Frag) : Bool :=
  sysB K && ((clf.all fun q => xclB K (He.ga K q.1) q.2 && iniB K (He.ga K q.1)) && (((["Barred", "NoLine", "PadError"] : List Str).all fun x => xclB K (He.ga K x) [] && (PySem.W.excIn K (He.ga K x) He.veBase "ValueError.__new__")) &&
  ((allx.all fun x => allx.all fun y => decide (PySem.W.kitOne K (.ref (He.ga K x)) (.ref (He.ga K y)) = some (decide (y = x)))) && ((allx.all fun x => decide (PySem.W.kitOne K (.ref (He.ga K x)) (.ref (He.ga K "PadError")) = some true) &&
  (decide (PySem.W.kitOne K (.ref (He.ga K x)) (.type "ValueError") = some true) && decide (PySem.W.kitAny K (.ref (He.ga K x)) [.type "KeyError", .type "IndexError", .type "LookupError"] = some false))) &&
  decide (PySem.W.kitOne K (.ref (He.ga K "PadError")) (.type "ValueError") = some true)))))
abbrev R : PySem.W.OpenRow := PySem.W.OpenLaw.row PySem.Challenge.rw_anypads_k08_errors_of_all_classes
abbrev hk : PySem.W.Hook := hookX 5 fa fn fx
def ob (s : PySem.W.SharedT) : He.AlD × Bool := obsX 5 fa fn fx (HandSHeadRun.getT s)
theorem ob_eq (s : PySem.W.SharedT) : ob s = hk.obs s.abs := obsX_eq (HandSHeadRun.getT_eq s)
theorem run (w : World) : HandSHeadRun.RunEq R (PySem.W.view R.prog [34]) hk ob 8000 ["PadError", "BadName", "BadTimes", "BadParts", "NoPath", "NoName", "Taken", "Ring", "InUse", "Unresolved", "NoMachine", "BadValue", "TooLarge", "NoScale", "BadBound", "NoTerm", "NoClaim", "NotRecord", "Barred", "Endless", "NoOffer", "NoOrder", "BadText", "NoLine", "_law_pen", "_law_draw", "_law_pick", "_law_value", "_law_first_rows", "_law_last_rows", "_law_named_right", "_law_marks"] w := by
  intro os
  kernel_rfl
end K8

set_option Elab.async false
set_option linter.all false
set_option maxRecDepth 100000
set_option maxHeartbeats 0
namespace K8
open PySem PySem.Spec PyProof.Rows L2 AP
theorem facts {P : Program} {w : World} {K : PySem.W.Frag} {h : Heap} {mg : Str → Option Value} {f : Addr} (X : K.In h) (G : h.Ns mainGlobals mg) (hfa : mg ("law" : Str) = some (.ref f)) (c : SaysX fa fn fx K) :
    ∃ fd : FuncData, (∀ (s : Shared) (v : Value), BindsTo s fd ⟨[v], []⟩ [("_law_script", v)]) ∧ ∀ base : Heap, K.In base → base.Ns mainGlobals mg → FnG P w K mg base CX0 4 f fd ["_law_script"] (spLaw K) := by
  obtain ⟨c, cx⟩ := c
  obtain ⟨x1, cx⟩ := Bool.and_eq_true_iff.mp cx
  obtain ⟨x2, cx⟩ := Bool.and_eq_true_iff.mp cx
  obtain ⟨x3, cx⟩ := Bool.and_eq_true_iff.mp cx
  obtain ⟨x4, cx⟩ := Bool.and_eq_true_iff.mp cx
  obtain ⟨x5, x6⟩ := Bool.and_eq_true_iff.mp cx
  have cl : ∀ q ∈ clf, XCl K (He.ga K q.1) q.2 ∧ XMk K (He.ga K q.1) (He.ma K (He.ga K q.1) "__init__") := fun q hq => by
    obtain ⟨a, b⟩ := Bool.and_eq_true_iff.mp (List.all_eq_true.mp x2 q hq)
    exact ⟨xclB_ok a, iniB_ok (xclB_ok a) b⟩
  have c0 : ∀ q ∈ (["Barred", "NoLine", "PadError"] : List Str), XCl K (He.ga K q) [] ∧ PySem.W.excIn K (He.ga K q) He.veBase "ValueError.__new__" = true := fun q hq => by
    obtain ⟨a, b⟩ := Bool.and_eq_true_iff.mp (List.all_eq_true.mp x3 q hq)
    exact ⟨xclB_ok a, b⟩
  have sys := sysB_ok x1
  have g_PadError := He.glo_ok X G (c.fact 0 (f := .glo "PadError") rfl)
  have g_BadName := He.glo_ok X G (c.fact 1 (f := .glo "BadName") rfl)
  have g_BadTimes := He.glo_ok X G (c.fact 2 (f := .glo "BadTimes") rfl)
  have g_BadParts := He.glo_ok X G (c.fact 3 (f := .glo "BadParts") rfl)
  have g_NoPath := He.glo_ok X G (c.fact 4 (f := .glo "NoPath") rfl)
  have g_NoName := He.glo_ok X G (c.fact 5 (f := .glo "NoName") rfl)
  have g_Taken := He.glo_ok X G (c.fact 6 (f := .glo "Taken") rfl)
  have g_Ring := He.glo_ok X G (c.fact 7 (f := .glo "Ring") rfl)
  have g_InUse := He.glo_ok X G (c.fact 8 (f := .glo "InUse") rfl)
  have g_Unresolved := He.glo_ok X G (c.fact 9 (f := .glo "Unresolved") rfl)
  have g_NoMachine := He.glo_ok X G (c.fact 10 (f := .glo "NoMachine") rfl)
  have g_BadValue := He.glo_ok X G (c.fact 11 (f := .glo "BadValue") rfl)
  have g_TooLarge := He.glo_ok X G (c.fact 12 (f := .glo "TooLarge") rfl)
  have g_NoScale := He.glo_ok X G (c.fact 13 (f := .glo "NoScale") rfl)
  have g_BadBound := He.glo_ok X G (c.fact 14 (f := .glo "BadBound") rfl)
  have g_NoTerm := He.glo_ok X G (c.fact 15 (f := .glo "NoTerm") rfl)
  have g_NoClaim := He.glo_ok X G (c.fact 16 (f := .glo "NoClaim") rfl)
  have g_NotRecord := He.glo_ok X G (c.fact 17 (f := .glo "NotRecord") rfl)
  have g_Barred := He.glo_ok X G (c.fact 18 (f := .glo "Barred") rfl)
  have g_Endless := He.glo_ok X G (c.fact 19 (f := .glo "Endless") rfl)
  have g_NoOffer := He.glo_ok X G (c.fact 20 (f := .glo "NoOffer") rfl)
  have g_NoOrder := He.glo_ok X G (c.fact 21 (f := .glo "NoOrder") rfl)
  have g_BadText := He.glo_ok X G (c.fact 22 (f := .glo "BadText") rfl)
  have g_NoLine := He.glo_ok X G (c.fact 23 (f := .glo "NoLine") rfl)
  have g_law_pen := He.glo_ok X G (c.fact 24 (f := .glo "_law_pen") rfl)
  have g_law_draw := He.glo_ok X G (c.fact 25 (f := .glo "_law_draw") rfl)
  have g_law_pick := He.glo_ok X G (c.fact 26 (f := .glo "_law_pick") rfl)
  have g_law_value := He.glo_ok X G (c.fact 27 (f := .glo "_law_value") rfl)
  have g_law_first_rows := He.glo_ok X G (c.fact 28 (f := .glo "_law_first_rows") rfl)
  have g_law_last_rows := He.glo_ok X G (c.fact 29 (f := .glo "_law_last_rows") rfl)
  have g_law_named_right := He.glo_ok X G (c.fact 30 (f := .glo "_law_named_right") rfl)
  have g_law_marks := He.glo_ok X G (c.fact 31 (f := .glo "_law_marks") rfl)
  have g_law := He.glo_ok X G (c.fact 32 (f := .glo "law") rfl)
  have f_int := He.free_ok X G (c.fact 33 (f := .free "int") rfl)
  have f_len := He.free_ok X G (c.fact 34 (f := .free "len") rfl)
  have f_abs := He.free_ok X G (c.fact 35 (f := .free "abs") rfl)
  have f_list := He.free_ok X G (c.fact 36 (f := .free "list") rfl)
  have f_repr := He.free_ok X G (c.fact 37 (f := .free "repr") rfl)
  have f_range := He.free_ok X G (c.fact 38 (f := .free "range") rfl)
  have f_isinstance := He.free_ok X G (c.fact 39 (f := .free "isinstance") rfl)
  have f_ValueError := He.free_ok X G (c.fact 40 (f := .free "ValueError") rfl)
  have f_KeyError := He.free_ok X G (c.fact 41 (f := .free "KeyError") rfl)
  have f_IndexError := He.free_ok X G (c.fact 42 (f := .free "IndexError") rfl)
  have f_LookupError := He.free_ok X G (c.fact 43 (f := .free "LookupError") rfl)
  obtain ⟨fd_law_pen, F_law_pen⟩ := c.def_ 0 (d := d_law_pen) rfl
  obtain ⟨fd_law_draw, F_law_draw⟩ := c.def_ 1 (d := d_law_draw) rfl
  obtain ⟨fd_law_pick, F_law_pick⟩ := c.def_ 2 (d := d_law_pick) rfl
  obtain ⟨fd_law_value, F_law_value⟩ := c.def_ 3 (d := d_law_value) rfl
  obtain ⟨fd_law_first_rows, F_law_first_rows⟩ := c.def_ 4 (d := d_law_first_rows) rfl
  obtain ⟨fd_law_last_rows, F_law_last_rows⟩ := c.def_ 5 (d := d_law_last_rows) rfl
  obtain ⟨fd_law_named_right, F_law_named_right⟩ := c.def_ 6 (d := d_law_named_right) rfl
  obtain ⟨fd_law_marks, F_law_marks⟩ := c.def_ 7 (d := d_law_marks) rfl
  obtain ⟨fd_law, F_law⟩ := c.def_ 8 (d := d_law) rfl
  obtain ⟨fd_BadName, F_BadName⟩ := c.def_ 9 (d := d_BadName) rfl
  obtain ⟨fd_BadTimes, F_BadTimes⟩ := c.def_ 10 (d := d_BadTimes) rfl
  obtain ⟨fd_BadParts, F_BadParts⟩ := c.def_ 11 (d := d_BadParts) rfl
  obtain ⟨fd_NoPath, F_NoPath⟩ := c.def_ 12 (d := d_NoPath) rfl
  obtain ⟨fd_NoName, F_NoName⟩ := c.def_ 13 (d := d_NoName) rfl
  obtain ⟨fd_Taken, F_Taken⟩ := c.def_ 14 (d := d_Taken) rfl
  obtain ⟨fd_Ring, F_Ring⟩ := c.def_ 15 (d := d_Ring) rfl
  obtain ⟨fd_InUse, F_InUse⟩ := c.def_ 16 (d := d_InUse) rfl
  obtain ⟨fd_Unresolved, F_Unresolved⟩ := c.def_ 17 (d := d_Unresolved) rfl
  obtain ⟨fd_NoMachine, F_NoMachine⟩ := c.def_ 18 (d := d_NoMachine) rfl
  obtain ⟨fd_BadValue, F_BadValue⟩ := c.def_ 19 (d := d_BadValue) rfl
  obtain ⟨fd_TooLarge, F_TooLarge⟩ := c.def_ 20 (d := d_TooLarge) rfl
  obtain ⟨fd_NoScale, F_NoScale⟩ := c.def_ 21 (d := d_NoScale) rfl
  obtain ⟨fd_BadBound, F_BadBound⟩ := c.def_ 22 (d := d_BadBound) rfl
  obtain ⟨fd_NoTerm, F_NoTerm⟩ := c.def_ 23 (d := d_NoTerm) rfl
  obtain ⟨fd_NoClaim, F_NoClaim⟩ := c.def_ 24 (d := d_NoClaim) rfl
  obtain ⟨fd_NotRecord, F_NotRecord⟩ := c.def_ 25 (d := d_NotRecord) rfl
  obtain ⟨fd_Endless, F_Endless⟩ := c.def_ 26 (d := d_Endless) rfl
  obtain ⟨fd_NoOffer, F_NoOffer⟩ := c.def_ 27 (d := d_NoOffer) rfl
  obtain ⟨fd_NoOrder, F_NoOrder⟩ := c.def_ 28 (d := d_NoOrder) rfl
  obtain ⟨fd_BadText, F_BadText⟩ := c.def_ 29 (d := d_BadText) rfl
  have e := hfa.symm.trans g_law
  cases e
  have Y : Xk K mg := by
    refine ⟨fun x hx => ?_, fun x hx y hy => of_decide_eq_true (List.all_eq_true.mp (List.all_eq_true.mp x4 x hx) y hy), fun x hx => ?_, fun x hx => ?_, fun x hx => ?_, (c0 "PadError" (by decide +kernel)).1.e, of_decide_eq_true x6⟩
    · by_cases q : x = "Barred" ∨ x = "NoLine"
      · rcases q with rfl | rfl
        · exact (c0 "Barred" (by decide +kernel)).1.e
        · exact (c0 "NoLine" (by decide +kernel)).1.e
      · have m : ∃ q ∈ clf, q.1 = x := by
          have z : ∀ y ∈ allx, (y = "Barred" ∨ y = "NoLine") ∨ ∃ q ∈ clf, q.1 = y := by decide +kernel
          exact (z x hx).resolve_left q
        obtain ⟨r, hr, er⟩ := m
        rw [← er]
        exact (cl r hr).1.e
    · exact of_decide_eq_true (Bool.and_eq_true_iff.mp (List.all_eq_true.mp x5 x hx)).1
    · exact of_decide_eq_true (Bool.and_eq_true_iff.mp (Bool.and_eq_true_iff.mp (List.all_eq_true.mp x5 x hx)).2).1
    · exact of_decide_eq_true (Bool.and_eq_true_iff.mp (Bool.and_eq_true_iff.mp (List.all_eq_true.mp x5 x hx)).2).2
  have b := FunD.bindsA (ps := ["_law_script"]) F_law fun _ _ _ _ _ _ us hl => match us, hl with | [_], _ => rfl
  refine ⟨fd_law, fun s v => b s [v] rfl, fun base _ _ => ?_⟩
  have Z : Xs P w K mg base := {
    x_BadName := ok_BadName (cl ("BadName", ["name"]) (by decide +kernel)).1 (cl ("BadName", ["name"]) (by decide +kernel)).2 g_BadName F_BadName
    x_BadTimes := ok_BadTimes (cl ("BadTimes", ["value"]) (by decide +kernel)).1 (cl ("BadTimes", ["value"]) (by decide +kernel)).2 g_BadTimes F_BadTimes
    x_BadParts := ok_BadParts (cl ("BadParts", ["at"]) (by decide +kernel)).1 (cl ("BadParts", ["at"]) (by decide +kernel)).2 g_BadParts F_BadParts
    x_NoPath := ok_NoPath (cl ("NoPath", ["path", "at"]) (by decide +kernel)).1 (cl ("NoPath", ["path", "at"]) (by decide +kernel)).2 g_NoPath F_NoPath
    x_NoName := ok_NoName (cl ("NoName", ["name"]) (by decide +kernel)).1 (cl ("NoName", ["name"]) (by decide +kernel)).2 g_NoName F_NoName
    x_Taken := ok_Taken (cl ("Taken", ["name"]) (by decide +kernel)).1 (cl ("Taken", ["name"]) (by decide +kernel)).2 g_Taken F_Taken
    x_Ring := ok_Ring (cl ("Ring", ["way"]) (by decide +kernel)).1 (cl ("Ring", ["way"]) (by decide +kernel)).2 g_Ring F_Ring
    x_InUse := ok_InUse (cl ("InUse", ["name"]) (by decide +kernel)).1 (cl ("InUse", ["name"]) (by decide +kernel)).2 g_InUse F_InUse
    x_Unresolved := ok_Unresolved (cl ("Unresolved", ["name"]) (by decide +kernel)).1 (cl ("Unresolved", ["name"]) (by decide +kernel)).2 g_Unresolved F_Unresolved
    x_NoMachine := ok_NoMachine (cl ("NoMachine", ["scale"]) (by decide +kernel)).1 (cl ("NoMachine", ["scale"]) (by decide +kernel)).2 g_NoMachine F_NoMachine
    x_BadValue := ok_BadValue (cl ("BadValue", ["path"]) (by decide +kernel)).1 (cl ("BadValue", ["path"]) (by decide +kernel)).2 g_BadValue F_BadValue
    x_TooLarge := ok_TooLarge (cl ("TooLarge", ["what", "most"]) (by decide +kernel)).1 (cl ("TooLarge", ["what", "most"]) (by decide +kernel)).2 g_TooLarge F_TooLarge
    x_NoScale := ok_NoScale (cl ("NoScale", ["scale"]) (by decide +kernel)).1 (cl ("NoScale", ["scale"]) (by decide +kernel)).2 g_NoScale F_NoScale
    x_BadBound := ok_BadBound (cl ("BadBound", ["value"]) (by decide +kernel)).1 (cl ("BadBound", ["value"]) (by decide +kernel)).2 g_BadBound F_BadBound
    x_NoTerm := ok_NoTerm (cl ("NoTerm", ["at"]) (by decide +kernel)).1 (cl ("NoTerm", ["at"]) (by decide +kernel)).2 g_NoTerm F_NoTerm
    x_NoClaim := ok_NoClaim (cl ("NoClaim", ["at"]) (by decide +kernel)).1 (cl ("NoClaim", ["at"]) (by decide +kernel)).2 g_NoClaim F_NoClaim
    x_NotRecord := ok_NotRecord (cl ("NotRecord", ["name"]) (by decide +kernel)).1 (cl ("NotRecord", ["name"]) (by decide +kernel)).2 g_NotRecord F_NotRecord
    x_Endless := ok_Endless (cl ("Endless", ["scale"]) (by decide +kernel)).1 (cl ("Endless", ["scale"]) (by decide +kernel)).2 g_Endless F_Endless
    x_NoOffer := ok_NoOffer (cl ("NoOffer", ["at"]) (by decide +kernel)).1 (cl ("NoOffer", ["at"]) (by decide +kernel)).2 g_NoOffer F_NoOffer
    x_NoOrder := ok_NoOrder (cl ("NoOrder", ["at"]) (by decide +kernel)).1 (cl ("NoOrder", ["at"]) (by decide +kernel)).2 g_NoOrder F_NoOrder
    x_BadText := ok_BadText (cl ("BadText", ["at"]) (by decide +kernel)).1 (cl ("BadText", ["at"]) (by decide +kernel)).2 g_BadText F_BadText
    q_Barred := (c0 "Barred" (by decide +kernel)).2
    g_Barred := g_Barred
    k_Barred := (c0 "Barred" (by decide +kernel)).1.o.kC
    q_NoLine := (c0 "NoLine" (by decide +kernel)).2
    g_NoLine := g_NoLine
    k_NoLine := (c0 "NoLine" (by decide +kernel)).1.o.kC
    q_PadError := (c0 "PadError" (by decide +kernel)).2
    g_PadError := g_PadError
    k_PadError := (c0 "PadError" (by decide +kernel)).1.o.kC }
  have Tx1 : Tx K mg := ⟨f_int, f_len, f_abs, f_list⟩
  have C1 : Cal P w K mg base CX0 1 "_law_draw" _ spDraw := cal_of F_law_draw (ok_draw Tx1 F_law_draw) g_law_draw (fun _ _ _ _ _ _ us hl => match us, hl with | [_, _], _ => rfl)
  have C2 : Cal P w K mg base CX0 1 "_law_pen" _ (spPen K) := cal_of F_law_pen (ok_pen Tx1 F_law_pen) g_law_pen (fun _ _ _ _ _ _ us hl => match us, hl with | [_], _ => rfl)
  have C3 : Cal P w K mg base CX0 2 "_law_pick" _ spPick := cal_of F_law_pick (ok_pick Tx1 C1 F_law_pick) g_law_pick (fun _ _ _ _ _ _ us hl => match us, hl with | [_, _], _ => rfl)
  have C4 : Cal P w K mg base CX0 3 "_law_value" _ (spVal K) := cal_of F_law_value (ok_value Tx1 C1 C3 F_law_value) g_law_value (fun _ _ _ _ _ _ us hl => match us, hl with | [_], _ => rfl)
  have C5 : Cal P w K mg base CX0 3 "_law_first_rows" _ (spRows K xs1) := cal_of F_law_first_rows (ok_first Z F_law_first_rows) g_law_first_rows (fun _ _ _ _ _ _ us hl => match us, hl with | [_, _], _ => rfl)
  have C6 : Cal P w K mg base CX0 3 "_law_last_rows" _ (spRows K xs2) := cal_of F_law_last_rows (ok_last Z F_law_last_rows) g_law_last_rows (fun _ _ _ _ _ _ us hl => match us, hl with | [_, _], _ => rfl)
  have C7 : CalG P w K mg base CX0 3 "_law_named_right" _ (spNamed K) := calG_of F_law_named_right (ok_named Z ⟨f_repr, sys⟩ F_law_named_right) g_law_named_right (fun _ _ _ _ _ _ us hl => match us, hl with | [_, _], _ => rfl)
  have C8 : Cal P w K mg base CX0 1 "_law_marks" _ (spMarks K) := cal_of F_law_marks (ok_marks ⟨g_BadName, g_BadTimes, g_BadParts, g_NoName, g_NoPath, g_Taken, g_Ring, g_InUse, g_Unresolved, g_NoMachine, g_BadValue, g_TooLarge, g_NoScale, g_BadBound, g_NoTerm, g_NoClaim, g_NotRecord, g_Endless, g_NoOffer, g_NoOrder, g_BadText, g_Barred, g_NoLine, g_PadError, f_isinstance⟩ Y F_law_marks) g_law_marks (fun _ _ _ _ _ _ us hl => match us, hl with | [_], _ => rfl)
  exact ok_law Z Y ⟨f_repr, sys, f_range, f_len, f_isinstance, f_ValueError, f_KeyError, f_IndexError, f_LookupError, g_PadError⟩ C2 C4 C5 C6 C7 C8 F_law
end K8
open PySem PySem.W PySem.Calls PyProof.Rows
theorem PySem.Challenge.cw_anypads_k08_errors_of_all_classes_holds : PySem.Challenge.rw_anypads_k08_errors_of_all_classes.Holds := by
  w_on; o_law
  refine HandSHeadRun.head_any (r := K8.R) (q := view K8.R.prog [34]) (H := K8.hk) (ob := K8.ob) (M := 8000) (loose := ["PadError", "BadName", "BadTimes", "BadParts", "NoPath", "NoName", "Taken", "Ring", "InUse", "Unresolved", "NoMachine", "BadValue", "TooLarge", "NoScale", "BadBound", "NoTerm", "NoClaim", "NotRecord", "Barred", "Endless", "NoOffer", "NoOrder", "BadText", "NoLine", "_law_pen", "_law_draw", "_law_pick", "_law_value", "_law_first_rows", "_law_last_rows", "_law_named_right", "_law_marks"]) (d := HandSHeadRun.topDef K8.R.prog 34) (kwd := []) K8.ob_eq
    (by kernel_rfl) (fun s => by kernel_rfl) K8.run (by kernel_rfl) (by kernel_rfl) (by kernel_rfl) (by rfl) (by first | assumption | decide +kernel) (by decide +kernel) ⟨rfl, rfl, rfl, rfl, rfl, by decide +kernel⟩ ?hw ?hc
  case hw => w_witness2
  case hc =>
    refine AP.walk_G (l := PySem.Challenge.rw_anypads_k08_errors_of_all_classes) (n := 63) (k := 4) (x := "_law_script") (CX := L2.CX0) rfl (by decide) (by kernel_rfl) ⟨rfl, by decide, by decide⟩ ?F (fun _ _ _ _ z => z)
    intro w mg fa h Y G hmg0
    obtain ⟨K, KX, c⟩ := Y
    have hmg : mg ("law" : PySem.Str) = some (.ref fa) := by
      have e : (HandSHeadRun.topDef K8.R.prog 34).name = ("law" : PySem.Str) := by kernel_rfl
      rw [← e]
      exact hmg0
    obtain ⟨fd, hb, hF⟩ := K8.facts (P := (PySem.Challenge.rw_anypads_k08_errors_of_all_classes).prog) (w := w) KX G hmg c
    exact ⟨K, fd, K8.spLaw K, KX, hb, fun H a ns hl _ hS => ⟨a, ns, rfl, hS, fun _ => rfl⟩, hF⟩
#print axioms PySem.Challenge.cw_anypads_k08_errors_of_all_classes_holds
