import PyProof.Rows.All
import Wide.All
import OpenK.AllK
import Wide.FinOn
import HandS.ForMost
import HandS.Exc
import HandS.ExcInit
import HandS.WordsExc
import HandS.Defaults
import HandS.Property
import HandS.ClsMeth
import HandS.DictComp
import HandS.IsInst
import HandS.Flow
import HandS.Style
import HandS.StrMore
import HandS.SetKeys
import HandS.Wide
import HandS.OwnEq
import HandS.EndBits
import HandS.HeadEnd
import HandS.SlotsOwn
import KE.GoesEnum
import KE.GoesZip
import PyProof.ListRange
import PyProof.StrWalks
import HandS.SetBool
import HandS.Sort
import HandS.Conv
import PyProof.SumWalkG
import PyProof.NeKinds
import HandS.Walk
import HandS.HeadHook2
import HandS.Head2
import HandS.NoneIn
import HandS.SortInts
import HandS.Star
import HandS.Lambda
import HandS.HeadHook4
import HandS.ExcField
import HandS.ExcIs
import HandS.NestedK
import HandS.EndTab
import HandS.TryMany
import PyProof.StrBlock2
import PyProof.SliceStr2
import KE.KRevSl
import PyProof.StrLawsIn
import HandS.Codes
import HandS.Replace
import PySem.Challenge.RW_hymnplates_k03_kinds
set_option Elab.async false
set_option linter.all false
set_option maxRecDepth 100000
set_option maxHeartbeats 4000000
/-! Defs whose bodies know that no repr is under way around them. -/
namespace G
open PySem PySem.Spec PyProof.Rows L2

/-- a def's promise, called where no repr runs -/
structure FnG (P : Program) (w : World) (K : PySem.W.Frag) (mg : Str → Option Value) (base : Heap) (CX : CXT) (k : Nat) (f : Addr) (fd : FuncData)
    (ps : List Str) (sp : Sp) : Prop where
  len : ∀ vs H Q E, sp vs H Q E → vs.length = ps.length
  run : ∀ (A : Around) (outer : List Env) (s : Shared) (H : Hp) (args : Args) (us : List Value) (vs : List V) (Q : VK) (E : XK),
    A.guards = some [] → Room k A → Env0 P w K mg base A outer s H → BindsTo s fd args (ps.zip us) → Vals vs us → sp vs H Q E →
    codeAny (model P w) A (.call (.ref f) args) (CR CX outer P w H s Q E) s

section
variable {P : Program} {w : World} {K : PySem.W.Frag} {mg : Str → Option Value} {base : Heap} {CX : CXT}
theorem FnG.of {k : Nat} {f : Addr} {fd : FuncData} {ps : List Str} {sp : Sp} (F : FnOk P w K mg base CX k f fd ps sp) : FnG P w K mg base CX k f fd ps sp :=
  ⟨F.len, fun A outer s H args us vs Q E _ => F.run A outer s H args us vs Q E⟩
theorem FnG.mono {j k : Nat} {f : Addr} {fd : FuncData} {ps : List Str} {sp : Sp} (F : FnG P w K mg base CX j f fd ps sp) (h : j ≤ k) : FnG P w K mg base CX k f fd ps sp :=
  ⟨F.len, fun A outer s H args us vs Q E g hr => F.run A outer s H args us vs Q E g (hr.mono h)⟩

theorem fnG_of {x qual : Str} {params : Arguments} {body : List Stmt} {scope : Scope} {dvs : List V} {kws : List (Str × V)} {f : Addr} {fd : FuncData}
    {N ps : List Str} {k : Nat} {sp : Sp} (F : FunD K x qual params body scope dvs kws f fd) (S : FnScope N ps scope)
    (len : ∀ vs H Q E, sp vs H Q E → vs.length = ps.length)
    (hbody : ∀ (cdv : Value) (A : Around) (outer : List Env) (s : Shared) (H : Hp) (vs : List V) (Q : VK) (E : XK),
      (A.deeper (envOfC qual scope s.heap.objs.size f cdv)).guards = some [] → Room k (A.deeper (envOfC qual scope s.heap.objs.size f cdv)) → sp vs H Q E →
      ∃ t, PSs (cxOf CX P w K mg base N qual scope f cdv A outer s H E) body t ∧ t { nx := fun _ H' => Q .non H', rt := Q } (start N vs) H) :
    FnG P w K mg base CX (k + 1) f fd ps sp := by
  obtain ⟨oc, od, dV, kV, doc, pm, an, cdv, ct, osl, rfl, lk, hcd, _, _⟩ := F.ex
  refine ⟨len, ?_⟩
  intro A outer s H args us vs Q E hg hr e0 hb r hsp
  have hl := len _ _ _ _ hsp
  have hin : ∀ b o, base.get? b = some o → s.heap.get? b = some o := fun b o e => (e0.bs b o e).1
  have KX : K.In s.heap := e0.mod.kin.keeps hin
  have lim : s.heap.NoLimit := e0.mod.nolimit.keeps hin
  refine codeAny_call_function hr.depth (KX _ _ lk) rfl S.co S.gen rfl (PySem.W.codeRec_of KX hcd) (hb _ _ _ _ ?_)
  refine wpAny_newFunctionEnv_cells S.kind ?_ ?_
  · rintro ⟨n, v⟩ hy
    have hn := S.par n (List.of_mem_zip hy).1
    rcases hn with q | q
    · exact .inl q
    · exact .inr ⟨q, PySem.W.cellsFrom_some _ _ _ (.inl q)⟩
  · intro env he s1 x
    subst he
    refine ⟨lim.keeps x.toInCall.keep, codeAny_func ?_⟩
    obtain ⟨t, ht, hq⟩ := hbody cdv A outer s H vs Q E hg (hr.deeper _) hsp
    have I := inv_start (CX := CX) (E := E) S hr.hd e0 hl r x
    refine wpAny_mono (ht.run [] s1 (start N vs) H _ I hq) ?_ (fun e s' hs => hs)
    intro fl s' hs
    cases fl with
    | brk => obtain ⟨_, _, _, q⟩ := hs; exact q.elim
    | cont => obtain ⟨_, _, _, q⟩ := hs; exact q.elim
    | next =>
      obtain ⟨σ', H', J, q⟩ := hs
      exact ⟨V.non, H', J.os, J.bare, J.base, J.hok, rfl, q⟩
    | ret u =>
      obtain ⟨v, σ', H', J, rv, q⟩ := hs
      exact ⟨v, H', J.os, J.bare, J.base, J.hok, rv, q⟩
end

section
variable {X : Cx} {CX : CXT} {k : Nat} {f : Addr} {fd : FuncData} {ps : List Str} {sp : Sp} {dvs : List V} {ds : List Value} {E : XK} {x : Str} {p pos : Pos} {e : Expr} {es : List Expr} {t : TA}
theorem run_fnG {pins : List (Addr × Obj)} {σ : L2.St} {H : Hp} {s : Shared} {Q : VK} {us : List Value} {vs : List V} (F : FnG X.prog X.w X.K X.mg X.base CX k f fd ps sp)
    (hg : X.A.guards = some []) (hr : Room k X.A) (hb : Binds X.K fd ps ds) (hd : Vals dvs ds) (hx : Passes CX X E)
    (I : Inv X pins σ H s) (r : Vals vs us) (h : sp (vs ++ dvs) H Q E) : wpAny (model X.prog X.w) X.A (call (.ref f) us) (EP X pins σ Q) X.xe s := by
  have r2 : Vals (vs ++ dvs) (us ++ ds) := r.append hd
  have hl : (us ++ ds).length = ps.length := by
    rw [← r2.length]
    exact F.len _ _ _ _ h
  refine wpAny_call (codeAny_mono (F.run X.A X.stack s H ⟨us, []⟩ (us ++ ds) (vs ++ dvs) Q E hg hr I.env0 (hb s us I.kIn hl) r2 h) ?_)
  intro r s' hq
  cases r with
  | error e => exact hx pins σ H s e s' I hq
  | ok fl =>
    cases fl with
    | ret u => exact I.after hq
    | next => exact hq.elim
    | brk => exact hq.elim
    | cont => exact hq.elim

theorem pe_callG (F : FnG X.prog X.w X.K X.mg X.base CX k f fd ps sp) (gd : X.A.guards = some []) (hr : Room k X.A) (hg : Gl X x) (hm : X.mg x = some (.ref f))
    (hk : PySem.W.keepIn X.K (.ref f) = true) (hb : Binds X.K fd ps ds) (hd : Vals dvs ds) (hx : Passes CX X E) (ha : PA X (e :: es) t)
    (hs : starEach (e :: es) X.env = (false, eval e X.env) :: starEach es X.env := by rfl)
    (hpl : (backTo pos (starEach es X.env)).any (·.1) = false := by rfl) (hdb : (x == ("__debug__" : Str)) = false := by decide) :
    PE X (.Call (.Name x p) (e :: es) [] pos) (tCall sp dvs E t) := by
  refine ⟨fun pins s σ H Q I h => ?_⟩
  refine wpAny_Call_Name_kw (ld_glob I hg hm ?_ hdb)
  refine PySem.W.callWith_K (h₀ := X.base) I.ok.mod.kin hk (thn (ha.run pos pins s σ H _ I h) ?_) hs hpl
  intro us s1 hh
  obtain ⟨vs, H1, I1, r1, q1⟩ := hh
  exact ⟨I1.kIn, run_fnG F gd hr hb hd hx I1 r1 q1⟩
end
end G

set_option Elab.async false
set_option linter.all false
set_option maxRecDepth 100000
set_option maxHeartbeats 4000000
/-! Data in the heap, dicts with flat keys too; repr of it. -/
namespace G
open PySem PySem.Spec PyProof.Rows L2

def kD : Key → PyData
  | .inl i => .int i
  | .inr x => .str x

mutual
/-- v is the data d; as: its lists and dicts -/
inductive Dt (K : PySem.W.Frag) (H : Hp) : V → PyData → List Addr → Prop
  | non : Dt K H .non .none []
  | bl (b : Bool) : Dt K H (.bl b) (.bool b) []
  | int (i : Int) : Dt K H (.int i) (.int i) []
  | str (x : Str) : Dt K H (.str x) (.str x) []
  | lst {a : Addr} {xs : List V} {ds : List PyData} {as : List Addr} : SqL K H a xs → DtAll K H xs ds as → Dt K H (.ref a) (.list ds) (a :: as)
  | tup {a : Addr} {xs : List V} {ds : List PyData} {as : List Addr} : SqT K H a xs → DtAll K H xs ds as → Dt K H (.ref a) (.tuple ds) as
  | dct {a : Addr} {kvs : List (Key × V)} {ds : List PyData} {as : List Addr} : Rd H a (.dK kvs) → DtAll K H (kvs.map (·.2)) ds as →
      Dt K H (.ref a) (.dict ((kvs.map fun q => kD q.1).zip ds)) (a :: as)
inductive DtAll (K : PySem.W.Frag) (H : Hp) : List V → List PyData → List Addr → Prop
  | nil : DtAll K H [] [] []
  | cons {v : V} {vs : List V} {d : PyData} {ds : List PyData} {as bs : List Addr} : Dt K H v d as → DtAll K H vs ds bs → DtAll K H (v :: vs) (d :: ds) (as ++ bs)
end

theorem DtAll.len {K : PySem.W.Frag} {H : Hp} : ∀ {vs : List V} {ds : List PyData} {as : List Addr}, DtAll K H vs ds as → vs.length = ds.length
  | _, _, _, .nil => rfl
  | _, _, _, .cons _ t => congrArg (· + 1) t.len

/-- the module sys.modules is an object of the written part -/
def KSys (K : PySem.W.Frag) : Prop := ∃ o es n, K.lookup sysModules = some o ∧ o.data = .dict es n

section
variable {X : Cx} {pins : List (Addr × Obj)} {σ : L2.St} {H : Hp} {s : Shared}

theorem sys_free (I : Inv X pins σ H s) (hk : KSys X.K) : H sysModules = none := by
  obtain ⟨o, es, n, hl, _⟩ := hk
  exact (I.bs _ _ (I.mod.kin _ _ hl)).2

theorem ns_list (I : Inv X pins σ H s) (hk : KSys X.K) {a : Addr} {xs : List V} (h : SqL X.K H a xs) : a ≠ sysModules := by
  intro e
  subst e
  rcases h with (h | ⟨o, h⟩) | ⟨o, its, n, h, _, _, hd, _⟩
  · rw [sys_free I hk] at h; cases h
  · rw [sys_free I hk] at h; cases h
  · obtain ⟨o2, es, n2, h2, hd2⟩ := hk
    rw [h] at h2; cases h2
    rw [hd] at hd2; cases hd2

theorem keys_read {h : Heap} {P : Program} {w : World} : ∀ {es : List DictEntry} {vs : List (Key × Value)}, Pairs (mixKind P w) es vs → ReadsAll h (es.map (·.key)) (vs.map fun q => kD q.1) []
  | _, _, .nil => .nil
  | e :: es, (k, v) :: r, .cons hp _ ht => by
    have hk : keyIs k e.key = true := hp
    have ih := keys_read (h := h) ht
    rcases keyIs_shape hk with ⟨i, t, rfl, e2⟩ | ⟨x, t, rfl, e2⟩
    · show ReadsAll h (e.key :: es.map (·.key)) (.int i :: r.map fun q => kD q.1) []
      rw [e2]
      exact ReadsAll.cons (Reads.int i t) ih
    · show ReadsAll h (e.key :: es.map (·.key)) (.str x :: r.map fun q => kD q.1) []
      rw [e2]
      exact ReadsAll.cons (Reads.str x t) ih

theorem vals_of_pairs {P : Program} {w : World} : ∀ {es : List DictEntry} {kvs : List (Key × V)} {vs : List (Key × Value)}, Pairs (mixKind P w) es vs → KV kvs vs → Vals (kvs.map (·.2)) (es.map (·.val))
  | _, _, _, .nil, .nil => .nil
  | _, _, _, .cons _ hv ht, .cons hp hr => by
    refine Paired.cons ?_ (vals_of_pairs ht hr)
    show L2.RelV _ _
    dsimp only
    rw [hv]
    exact hp.2
theorem keys_of_kv : ∀ {kvs : List (Key × V)} {vs : List (Key × Value)}, KV kvs vs → (vs.map fun q => kD q.1) = kvs.map fun q => kD q.1
  | _, _, .nil => rfl
  | _, _, .cons hp hr => by
    rw [List.map_cons, List.map_cons, keys_of_kv hr, hp.1]
theorem zip_fst {α β : Type} : ∀ {l : List α} {m : List β}, l.length = m.length → (l.zip m).map (·.1) = l
  | [], [], _ => rfl
  | a :: l, b :: m, h => by
    rw [List.zip_cons_cons, List.map_cons, zip_fst (by simpa using h)]
theorem zip_snd {α β : Type} : ∀ {l : List α} {m : List β}, l.length = m.length → (l.zip m).map (·.2) = m
  | [], [], _ => rfl
  | a :: l, b :: m, h => by
    rw [List.zip_cons_cons, List.map_cons, zip_snd (by simpa using h)]


theorem Dt.reads (I : Inv X pins σ H s) {v : V} {d : PyData} {as : List Addr} (h : Dt X.K H v d as) : ∀ u, RelV v u → Reads s.heap u d as := by
  refine Dt.rec (motive_1 := fun v d as _ => ∀ u, RelV v u → Reads s.heap u d as) (motive_2 := fun vs ds as _ => ∀ us, Vals vs us → ReadsAll s.heap us ds as)
    ?_ ?_ ?_ ?_ ?_ ?_ ?_ ?_ ?_ h
  · intro u r; cases r; exact Reads.none
  · intro b u r; cases r; exact Reads.bool b
  · intro i u r; obtain ⟨t, rfl⟩ := r; exact Reads.int i t
  · intro x u r; obtain ⟨t, rfl⟩ := r; exact Reads.str x t
  · intro a xs ds as hs _ ih u r
    cases r
    obtain ⟨its, rv, ⟨o, n, ho, hc, _, hd⟩, _⟩ := I.list hs
    exact Reads.list ho hc hd (ih its rv)
  · intro a xs ds as hs _ ih u r
    cases r
    obtain ⟨its, rv, ⟨o, ho, hc, n, hd⟩, _⟩ := I.tuple hs
    exact Reads.tuple ho hc hd (ih its rv)
  · intro a kvs ds as hr ha ih u r
    cases r
    obtain ⟨_, _, vs, rel, o, es, ep, ho, hx, hd, _, hp, _⟩ := dk_rd I.hok hr
    have hlen : (kvs.map fun q => kD q.1).length = ds.length := by
      have := ha.len
      rw [List.length_map] at this ⊢
      exact this
    have h1 : ReadsAll s.heap (es.toList.map (·.key)) (((kvs.map fun q => kD q.1).zip ds).map (·.1)) [] := by
      rw [zip_fst hlen, ← keys_of_kv rel]
      exact keys_read hp
    have h2 : ReadsAll s.heap (es.toList.map (·.val)) (((kvs.map fun q => kD q.1).zip ds).map (·.2)) as := by
      rw [zip_snd hlen]
      exact ih _ (vals_of_pairs hp rel)
    have := Reads.dict ho hx.1 hd h1 h2
    simpa using this
  · intro us r; cases r; exact ReadsAll.nil
  · intro v vs d ds as bs _ _ ih1 ih2 us r
    cases r with
    | cons r1 r2 => exact ReadsAll.cons (ih1 _ r1) (ih2 _ r2)

theorem Dt.nosys (I : Inv X pins σ H s) (hk : KSys X.K) {v : V} {d : PyData} {as : List Addr} (h : Dt X.K H v d as) : sysModules ∉ as := by
  refine Dt.rec (motive_1 := fun v d as _ => sysModules ∉ as) (motive_2 := fun vs ds as _ => sysModules ∉ as) ?_ ?_ ?_ ?_ ?_ ?_ ?_ ?_ ?_ h
  · simp
  · simp
  · simp
  · simp
  · intro a xs ds as hs _ ih hm
    rcases List.mem_cons.mp hm with e | e
    · exact ns_list I hk hs e.symm
    · exact ih e
  · intro a xs ds as hs _ ih hm
    exact ih hm
  · intro a kvs ds as hr _ ih hm
    rcases List.mem_cons.mp hm with e | e
    · obtain ⟨_, h2, _⟩ := dk_rd I.hok hr
      rw [← e] at h2
      simp at h2
    · exact ih e
  · simp
  · intro v vs d ds as bs _ _ h1 h2 hm
    rcases List.mem_append.mp hm with e | e
    · exact h1 e
    · exact h2 e
end

section
variable {X : Cx}
/-- repr of data -/
def rRepr (K : PySem.W.Frag) : List V → Hp → VK → Prop := fun xs H Q => ∃ v d as, xs = [v] ∧ Dt K H v d as ∧ d.showable = true ∧ d.depth ≤ 60 ∧ d.shown.length ≤ sizeLine ∧ Q (.str d.shown) H
theorem call_reprD (hg : X.A.guards = some []) (hu : X.A.units + 64 < cLine) (hk : KSys X.K) : CallR X (.builtin "repr") (rRepr X.K) := by
  intro pins s σ H xs us Q I r h
  obtain ⟨v, d, as, rfl, hd, hs, hdp, hsz, q⟩ := h
  obtain ⟨u, rfl, rv⟩ := vals1 r
  have hR := hd.reads I u rv
  have hns := hd.nosys I hk
  cases hR with
  | none =>
    have e : PyData.shown .none = ("None" : Str) := PyData.shown_none
    rw [e] at q
    exact PySem.P.repr_of_none ⟨.str _, H, I.tok _, ⟨_, rfl⟩, q⟩
  | bool b =>
    refine PySem.P.repr_of_bool ⟨.str _, H, I.tok _, ⟨_, rfl⟩, ?_⟩
    rw [PyData.shown_bool] at q
    exact q
  | int i t =>
    refine PySem.P.repr_of_int (by simpa [PyData.showable] using hs) ⟨.str _, H, I.tok _, ⟨_, rfl⟩, ?_⟩
    rw [PyData.shown_int] at q
    exact q
  | str x t =>
    rw [PyData.shown_str] at q hsz
    exact PySem.P.repr_of_str ⟨.str _, H, I.tok _, ⟨_, rfl⟩, q⟩ hsz
  | list h1 h2 h3 h4 =>
    exact repr_of_reads' (Reads.list h1 h2 h3 h4) hs (fun _ => hns) hg (by omega) (fun b o e => e) (fun h' u tk hk' => ⟨.str _, H, I.kept hk', ⟨_, rfl⟩, q⟩) hsz
  | tuple h1 h2 h3 h4 =>
    exact repr_of_reads' (Reads.tuple h1 h2 h3 h4) hs (fun _ => hns) hg (by omega) (fun b o e => e) (fun h' u tk hk' => ⟨.str _, H, I.kept hk', ⟨_, rfl⟩, q⟩) hsz
  | dict h1 h2 h3 h4 h5 =>
    exact repr_of_reads' (Reads.dict h1 h2 h3 h4 h5) hs (fun _ => hns) hg (by omega) (fun b o e => e) (fun h' u tk hk' => ⟨.str _, H, I.kept hk', ⟨_, rfl⟩, q⟩) hsz
end
end G

set_option Elab.async false
set_option linter.all false
set_option maxRecDepth 100000
set_option maxHeartbeats 4000000
/-! The end of a law row, for a law's def that knows no repr runs; the script's bits are told. -/
namespace G
open PySem PySem.Spec PyProof.Rows L2

section
variable {P : Program} {w : World} {K : PySem.W.Frag} {mg mb : Str → Option Value} {CX : CXT} {k : Nat} {fa a : Addr} {fd : FuncData} {x : Str} {sp : Sp} {s₁ : Shared} {vs : List Value} {ns : List Int}

/-- what is wanted of the law's call -/
abbrev LawEnd (s₁ : Shared) : Result → Shared → Prop := fun r s' => r = .ok (.ret (.bool true)) ∧ OldK s₁.heap s'.heap ∧ s'.os = s₁.os ∧ AllBare s'.gens

theorem law_from {H : Hp} (KX : K.In s₁.heap) (hns : s₁.heap.Ns mainGlobals mg) (hb : s₁.heap.Ns builtinsNs mb) (hbb : ∀ x : Str, x ≠ "__name__" → mb x = bootBuiltins x)
    (hlim : s₁.heap.NoLimit) (hg : s₁.gens = #[]) (ha : s₁.heap.get? a = some { cls := .type "list", data := .seq vs.toArray }) (hr : Room k callerA)
    (F : ∀ base : Heap, K.In base → base.Ns mainGlobals mg → FnG P w K mg base CX k fa fd [x] sp) (hbind : ∀ (s : Shared) (u : Value), BindsTo s fd ⟨[u], []⟩ [(x, u)])
    (hsp : sp [.ref a] H (fun v _ => v = .bl true) fun _ _ _ => False) (hCX : ∀ e s', CX [] H s₁ (fun _ _ _ => False) e s' → False)
    (hO : Only H) (hok : HOk P w H s₁.heap) (hA : ∀ b, H b ≠ none → b = a) (hK : H a ≠ none → K.lookup a = none) :
    codeAny (model P w) callerA (.call (.ref fa) ⟨[.ref a], []⟩) (LawEnd s₁) s₁ := by
  have free : ∀ {b : Addr} {o : Obj} {es : Array DictEntry} {ep : Nat}, s₁.heap.get? b = some o → o.data = .dict es ep → H b = none := by
    intro b o es ep e d
    cases q : H b with
    | none => rfl
    | some u =>
      have e' : b = a := hA b (by rw [q]; simp)
      subst e'
      rw [ha] at e
      cases e
      cases (show Data.seq vs.toArray _ = Data.dict es ep from d)
  have nsK : ∀ {b : Addr} {m : Str → Option Value}, s₁.heap.Ns b m → (hidT s₁.heap H).Ns b m := by
    rintro b m ⟨o, es, ep, e, d, r⟩
    exact ⟨o, es, ep, hidT_get e (free e d), d, r⟩
  have hKb : K.In (hidT s₁.heap H) := by
    intro b o e
    refine hidT_get (KX b o e) ?_
    cases q : H b with
    | none => rfl
    | some u =>
      have e' : b = a := hA b (by rw [q]; simp)
      subst e'
      rw [hK (by rw [q]; simp)] at e
      cases e
  have hM : Mod K mg (hidT s₁.heap H) := by
    obtain ⟨mc, h1, h2⟩ := hlim
    exact ⟨hKb, nsK hns, ⟨mb, nsK hb, hbb⟩, ⟨mc, nsK h1, h2⟩⟩
  have e0 : Env0 P w K mg (hidT s₁.heap H) callerA [] s₁ H :=
    ⟨rfl, hM, fun b o e => of_hidT e, Nat.le_of_eq (hidT_size _ _), trivial, (fun b z => (List.not_mem_nil z).elim), hok, .of_eq hg⟩
  refine codeAny_mono ((F _ hKb (nsK hns)).run callerA [] s₁ H ⟨[.ref a], []⟩ [.ref a] [.ref a] _ _ rfl hr e0 (hbind s₁ (.ref a)) (.cons rfl .nil) hsp) ?_
  intro r s' h
  cases r with
  | error e => exact (hCX e s' h).elim
  | ok fl =>
    cases fl with
    | next => exact h.elim
    | brk => exact h.elim
    | cont => exact h.elim
    | ret u =>
      obtain ⟨v, H', os, bare, un, hok', r', q⟩ := h
      cases (show v = .bl true from q)
      obtain rfl : u = Value.bool true := r'
      refine ⟨rfl, OldK.of_keep ?_, os, bare⟩
      intro b o e
      cases q : H b with
      | none => exact un.keep b o e q (by intro z; cases z) (by simp)
      | some u =>
        rcases hO b with z | ⟨ob, xs, z⟩
        · rw [q] at z; cases z
        · obtain ⟨e1, _⟩ := hok b _ z
          obtain ⟨e2, _⟩ := hok' b _ (un.frzs b ob _ z)
          rw [e] at e1
          cases e1
          exact e2

theorem law_callG (KX : K.In s₁.heap) (hns : s₁.heap.Ns mainGlobals mg) (hb : s₁.heap.Ns builtinsNs mb) (hbb : ∀ x : Str, x ≠ "__name__" → mb x = bootBuiltins x)
    (hlim : s₁.heap.NoLimit) (hg : s₁.gens = #[]) (ha : s₁.heap.get? a = some { cls := .type "list", data := .seq vs.toArray }) (hi : IntsAre vs ns) (hl : ns.length ≤ sizeLine) (hr : Room k callerA)
    (F : ∀ base : Heap, K.In base → base.Ns mainGlobals mg → FnG P w K mg base CX k fa fd [x] sp) (hbind : ∀ (s : Shared) (u : Value), BindsTo s fd ⟨[u], []⟩ [(x, u)])
    (hsp : ∀ H : Hp, Only H → SqL K H a (ns.map V.int) → sp [.ref a] H (fun v _ => v = .bl true) fun _ _ _ => False)
    (hCX : ∀ H e s', CX [] H s₁ (fun _ _ _ => False) e s' → False) :
    codeAny (model P w) callerA (.call (.ref fa) ⟨[.ref a], []⟩) (LawEnd s₁) s₁ := by
  have rv := vals_ints hi
  have lenV := hi.length
  have hsz : vs.toArray.size ≤ sizeLine := by
    rw [List.size_toArray, lenV]
    exact hl
  cases hk : K.lookup a with
  | some o =>
    have e := KX a o hk
    rw [ha] at e
    cases e
    have hS : SqL K (fun _ => none) a (ns.map V.int) := .inr ⟨_, vs.toArray, _, hk, rfl, rfl, rfl, hsz, by simpa using rv⟩
    have hO : Only (fun _ => none) := fun _ => .inl rfl
    exact law_from (H := fun _ => none) KX hns hb hbb hlim hg ha hr F hbind (hsp _ hO hS) (hCX _) hO (fun b u z => by cases z) (fun b z => absurd rfl z) fun z => absurd rfl z
  | none =>
    have at_a : (fun b => if b = a then some (HO.frz { cls := .type "list", data := .seq vs.toArray } (.lst (ns.map V.int))) else none : Hp) a = some (.frz { cls := .type "list", data := .seq vs.toArray } (.lst (ns.map V.int))) := if_pos rfl
    have hO : Only (fun b => if b = a then some (HO.frz { cls := .type "list", data := .seq vs.toArray } (.lst (ns.map V.int))) else none) := by
      intro b
      by_cases e : b = a
      · exact .inr ⟨_, _, if_pos e⟩
      · exact .inl (if_neg e)
    refine law_from (H := fun b => if b = a then some (HO.frz { cls := .type "list", data := .seq vs.toArray } (.lst (ns.map V.int))) else none) KX hns hb hbb hlim hg ha hr F hbind
      (hsp _ hO (.inl (.inr ⟨_, at_a⟩))) (hCX _) hO ?_ ?_ (fun _ => hk)
    · intro b u z
      by_cases e : b = a
      · subst e
        rw [at_a] at z
        cases z
        refine ⟨ha, ?_, vs, _, rv, ha⟩
        rw [List.length_map]
        exact hl
      · cases (if_neg e).symm.trans z
    · intro b z
      by_cases e : b = a
      · exact e
      · exact absurd (if_neg e) z
end

/-- the head's last goal, from the promise of the law's def -/
theorem walk_ofG {l : PySem.W.OpenLaw} {n k : Nat} {q : Program} {loose : List Str} {XP : (Str → Option Value) → Heap → Prop} {YP : World → Heap → Prop} {d : DefRec} {CX : World → CXT} {x : Str}
    (hn : l.most = some n) (hn2 : n ≤ sizeLine) (hdf : d.params.defaults = []) (hr : Room k callerA)
    (F : ∀ (w : World) (mg : Str → Option Value) (fa : Addr) (h : Heap), YP w h → h.Ns mainGlobals mg → mg d.name = some (.ref fa) →
      ∃ (K : PySem.W.Frag) (fd : FuncData) (sp : Sp), K.In h ∧ (∀ (s : Shared) (u : Value), BindsTo s fd ⟨[u], []⟩ [(x, u)]) ∧
        (∀ (H : Hp) (a : Addr) (ns : List Int), ns.length ≤ n → (∀ z ∈ ns, Builtin.Int.intBits z ≤ 1048576) → Only H → SqL K H a (ns.map V.int) → sp [.ref a] H (fun v _ => v = .bl true) fun _ _ _ => False) ∧
        ∀ base : Heap, K.In base → base.Ns mainGlobals mg → FnG l.prog w K mg base (CX w) k fa fd [x] sp)
    (hCX : ∀ (w : World) (H : Hp) (s : Shared) (e : Value) (s' : Shared), CX w [] H s (fun _ _ _ => False) e s' → False) :
    PySem.W.WalkO q loose XP YP l.row.toRowW d [] (fun f vs => PySem.call f vs) := by
  refine Att.attach_callB hn hdf ?_
  intro w s₀ s₁ mg mb fa o pm cd doc a vs ns G Y ho hd hcd hmg hobj hints hlen hbits hg
  obtain ⟨K, fd, sp, KX, hb, hsp, hF⟩ := F w mg fa _ Y G.T.g hmg
  exact law_callG KX G.T.g G.T.b G.T.builtins G.T.nolimit hg hobj hints (Nat.le_trans hlen hn2) hr hF hb (fun H hO hS => hsp H a ns hlen hbits hO hS) fun H e s' => hCX w H s₁ e s'
end G

set_option Elab.async false
set_option linter.all false
set_option maxRecDepth 100000
set_option maxHeartbeats 4000000
/-! Own dunder methods of plain instances. -/
namespace G
open PySem PySem.Spec PyProof.Rows L2

section
variable {X : Cx} {pins : List (Addr × Obj)} {σ : L2.St} {H : Hp} {s : Shared} {a C dx f : Addr} {fs : List (Str × V)} {k : Nat} {fd : FuncData} {ps : List Str} {sp : Sp} {E : XK} {CX : CXT}

theorem inst_of (I : Inv X pins σ H s) (h : H a = some (.ins C dx fs)) : ∃ od, PySem.W.InstAt s.heap a (PySem.W.instObj C dx) C (some od) := by
  obtain ⟨mA, O, _⟩ := ins_get I.hok h
  obtain ⟨od, J, _⟩ := O.look
  exact ⟨od, J⟩

/-- a callee run one unit deeper -/
theorem run_in1 {Q : VK} {us : List Value} {vs : List V} (F : FnOk X.prog X.w X.K X.mg X.base CX k f fd ps sp) (hr : Room k X.A.in1) (hb : Binds X.K fd ps []) (hx : Passes CX X E)
    (I : Inv X pins σ H s) (r : Vals vs us) (h : sp vs H Q E) : wpAny (model X.prog X.w) X.A.in1 (call (.ref f) us) (EP X pins σ Q) X.xe s := by
  have hl : (us ++ []).length = ps.length := by
    rw [List.append_nil, ← r.length]
    exact F.len _ _ _ _ h
  refine wpAny_call (codeAny_mono (F.run X.A.in1 X.stack s H ⟨us, []⟩ (us ++ []) vs Q E hr I.env0.in1 (hb s us I.kIn hl) (by rw [List.append_nil]; exact r) h) ?_)
  intro r s' hq
  cases r with
  | error e => exact hx pins σ H s e s' I hq
  | ok fl =>
    cases fl with
    | ret u => exact I.after hq
    | next => exact hq.elim
    | brk => exact hq.elim
    | cont => exact hq.elim

/-- len(o) by an own __len__ -/
def rLenO (C : Addr) (sp : Sp) (E : XK) : List V → Hp → VK → Prop := fun xs H Q => ∃ a dx fs, xs = [V.ref a] ∧ H a = some (.ins C dx fs) ∧
  sp [.ref a] H (fun z H' => ∃ n : Int, z = .int n ∧ (0 ≤ n ∧ n < 2 ^ 63) ∧ Q z H') E
theorem call_lenO (m : Meth X.K C "__len__" f) (F : FnOk X.prog X.w X.K X.mg X.base CX k f fd ps sp) (hr : Room (k + 1) X.A) (hb : Binds X.K fd ps []) (hx : Passes CX X E) :
    CallR X (.builtin "len") (rLenO C sp E) := by
  intro pins s σ H xs us Q I r h
  obtain ⟨a, dx, fs, rfl, ha, q⟩ := h
  obtain ⟨u, rfl, ru⟩ := vals1 r
  cases (show u = Value.ref a from ru)
  obtain ⟨od, J⟩ := inst_of I ha
  obtain ⟨m0, hF⟩ := I.fr
  refine PySem.W.len_K hF I.ok.mod.kin J m.1 m.2 (wpAny_mono (run_in1 (us := [.ref a]) (vs := [.ref a]) F hr.in1 hb hx I (.cons rfl .nil) q) ?_ (fun _ _ z => z))
  rintro w s' ⟨z, H', I', rz, n, rfl, hn, qz⟩
  obtain ⟨t, rfl⟩ := (show ∃ t, w = Value.int n t from rz)
  exact ⟨hn, .int n, H', I'.tok _, ⟨_, rfl⟩, qz⟩

/-- o in instance, by an own __contains__ that gives a bool -/
def rInO (C : Addr) (sp : Sp) (E : XK) (neg : Bool) : R2 := fun x y H Q => ∃ a dx fs, y = V.ref a ∧ H a = some (.ins C dx fs) ∧
  sp [.ref a, x] H (fun z H' => ∃ b, z = .bl b ∧ Q (.bl (if neg then !b else b)) H') E
theorem op_inO (m : Meth X.K C "__contains__" f) (F : FnOk X.prog X.w X.K X.mg X.base CX k f fd ps sp) (hr : Room k X.A) (hb : Binds X.K fd ps []) (hx : Passes CX X E) :
    OpR X (compareOp .In) (rInO C sp E false) := by
  intro pins s σ H x y v u Q I rx ry h
  obtain ⟨a, dx, fs, rfl, ha, q⟩ := h
  cases (show u = Value.ref a from ry)
  obtain ⟨od, J⟩ := inst_of I ha
  obtain ⟨m0, hF⟩ := I.fr
  refine PySem.W.in_K hF I.ok.mod.kin J m.1 m.2 (wpAny_mono (run_fn (us := [.ref a, v]) (vs := [.ref a, x]) (ds := []) (dvs := []) F hr hb .nil hx I (.cons rfl (.cons rx .nil)) q) ?_ (fun _ _ z => z))
  rintro w s' ⟨z, H', I', rz, b, rfl, qz⟩
  cases (show w = Value.bool b from rz)
  exact wpAny_truthy_bool ⟨.bl b, H', I', rfl, qz⟩
theorem op_notInO (m : Meth X.K C "__contains__" f) (F : FnOk X.prog X.w X.K X.mg X.base CX k f fd ps sp) (hr : Room k X.A) (hb : Binds X.K fd ps []) (hx : Passes CX X E) :
    OpR X (compareOp .NotIn) (rInO C sp E true) := by
  intro pins s σ H x y v u Q I rx ry h
  obtain ⟨a, dx, fs, rfl, ha, q⟩ := h
  cases (show u = Value.ref a from ry)
  obtain ⟨od, J⟩ := inst_of I ha
  obtain ⟨m0, hF⟩ := I.fr
  refine PySem.W.notIn_K hF I.ok.mod.kin J m.1 m.2 (wpAny_mono (run_fn (us := [.ref a, v]) (vs := [.ref a, x]) (ds := []) (dvs := []) F hr hb .nil hx I (.cons rfl (.cons rx .nil)) q) ?_ (fun _ _ z => z))
  rintro w s' ⟨z, H', I', rz, b, rfl, qz⟩
  cases (show w = Value.bool b from rz)
  exact wpAny_truthy_bool ⟨.bl (!b), H', I', rfl, qz⟩

/-- x == y, x != y by x's own __eq__, y an instance too -/
def rEqO (K : PySem.W.Frag) (C : Addr) (sp : Sp) (E : XK) (neg : Bool) : R2 := fun x y H Q => ∃ a dx fs b C' dy gs, x = .ref a ∧ y = .ref b ∧ H a = some (.ins C dx fs) ∧ H b = some (.ins C' dy gs) ∧
  PySem.W.notFirst K C (.ref C') = true ∧ sp [x, y] H (fun z H' => ∃ r, z = .bl r ∧ Q (.bl (if neg then !r else r)) H') E
theorem op_eqO (m : Meth X.K C "__eq__" f) (F : FnOk X.prog X.w X.K X.mg X.base CX k f fd ps sp) (hr : Room k X.A) (hb : Binds X.K fd ps []) (hx : Passes CX X E) :
    OpR X (compareOp .Eq) (rEqO X.K C sp E false) := by
  intro pins s σ H x y v u Q I rx ry h
  obtain ⟨a, dx, fs, b, C', dy, gs, rfl, rfl, ha, hb', hn, q⟩ := h
  cases (show v = Value.ref a from rx)
  cases (show u = Value.ref b from ry)
  obtain ⟨od, J⟩ := inst_of I ha
  obtain ⟨od', J'⟩ := inst_of I hb'
  obtain ⟨m0, hF⟩ := I.fr
  show wpAny _ _ (richCompare .Eq (.ref a) (.ref b)) _ _ _
  refine PySem.W.cmp_K (op := .Eq) (tb := .ref C') hr.units0 hF I.ok.mod.kin J J'.type hn m.1 m.2 ?_
  refine wpAny_mono (run_fn (us := [.ref a, .ref b]) (vs := [.ref a, .ref b]) (ds := []) (dvs := []) F hr hb .nil hx I (.cons rfl (.cons rfl .nil)) q) ?_ (fun _ _ z => z)
  rintro w s' ⟨z, H', I', rz, r, rfl, qz⟩
  cases (show w = Value.bool r from rz)
  exact ⟨.bl r, H', I', rfl, qz⟩
end

/-! ### != where the class has an own __eq__ and object's __ne__ -/
section
variable {prog : Program} {w : World} {A : Around} {E : Value → Shared → Prop} {s : Shared} {K : PySem.W.Frag} {x C : Addr} {ox : Obj} {od : Option Obj} {b : Value}
theorem ifBound_ne {M : Model} {args : List Value} {Q : Option Value → Shared → Prop} (X : K.In s.heap) (I : PySem.W.InstAt s.heap x ox C od)
    (hs : PySem.W.findIn K (.ref C) "__ne__" = some (some (.builtin "object.__ne__")))
    (h : wpAny M A (call (.builtin "object.__ne__") (.ref x :: args)) (fun v => Q (some v)) E s) : wpAny M A (callSpecialIfBound? (.ref x) "__ne__" args) Q E s := by
  simp only [callSpecialIfBound?, bindSpecialIfBound?]
  refine wpAny_holding (wpAny_bind (wpAny_bind (wpAny_bind (I.type.here ((PySem.W.looks_findIn X hs).here ?_)))))
  refine wpAny_bind (wpAny_askSetting (wpAny_ite ?_))
  have fin : wpAny M A (call (.builtin "object.__ne__") ([.ref x] ++ args) >>= fun v => pure (some v)) Q E s :=
    wpAny_bind (wpAny_mono h (fun v s' h' => wpAny_pure h') fun _ _ h' => h')
  split
  · exact wpAny_bind (wpAny_of_eq (F.cmp_object.ne.bind _) (wpAny_pure (by exact fin)))
  · exact wpAny_tryCatch (wpAny_bind (wpAny_of_eq (F.cmp_object.ne.bind _) (wpAny_pure (by exact fin))))

theorem ne_own {f : Addr} {tb : Value} {Q : Value → Shared → Prop} (hu : A.units + 1 < cLine) (X : K.In s.heap) (I : PySem.W.InstAt s.heap x ox C od)
    (hb : PySem.W.Looks (model prog w) s.heap (typeOf b) tb) (hn : PySem.W.notFirst K C tb = true) (hm : PySem.W.mroIn K C (.type "object") = some true)
    (hne : PySem.W.findIn K (.ref C) "__ne__" = some (some (.builtin "object.__ne__")))
    (he : PySem.W.findIn K (.ref C) "__eq__" = some (some (.ref f))) (hf : PySem.W.isFn K (.ref f) = true)
    (h : wpAny (model prog w) A.in1 (call (.ref f) [.ref x, b]) (fun v s' => ∃ r, v = .bool r ∧ Q (.bool (!r)) s') E s) :
    wpAny (model prog w) A (richCompare .NotEq (.ref x) b) Q E s := by
  have body : ∀ {R : Fin → Shared → Prop}, (∀ r s', Q (.bool (!r)) s' → R (.done (.ret (.bool (!r)))) s') →
      wpAny (model prog w) A.in1 (Builtin.«object.__ne__» ⟨[.ref x, b], []⟩) R E s := by
    intro R hR
    unfold Builtin.«object.__ne__»
    refine wpAny_bind (wpAny_pure ?_)
    refine wpAny_bind (wpAny_cRoomFor (by show A.units + 1 < cLine; exact hu) ?_)
    refine wpAny_bind (m := callSpecialIfBound? (.ref x) "__eq__" [b]) (PySem.W.ifBound_K X I he hf (wpAny_mono h ?_ (fun _ _ z => z)))
    rintro v s' ⟨r, rfl, q⟩
    exact wpAny_bind (wpAny_truthy_bool (wpAny_pure (hR r s' q)))
  have one : wpAny (model prog w) A (tryCompare (.ref x) "__ne__" b) (fun r s' => ∃ v, r = some v ∧ Q v s') E s := by
    unfold tryCompare
    refine wpAny_bind (ifBound_ne X I hne (wpAny_call (codeAny_call_builtin F.cmp_object.ne.plain F.cmpEntry_ne
      (PySem.W.check_slot F.cmpKind_ne F.cmpSplit_ne (I.type.andThen (PySem.W.looks_mroIn X hm)) (F.cmpArgs_ne _ _) (body ?_)))))
    intro r s' q
    exact wpAny_pure ⟨_, rfl, q⟩
  unfold richCompare
  simp only [oneThing_ref]
  refine wpAny_holding (wpAny_bind (wpAny_cRoomFor (by omega) ?_))
  refine wpAny_bind (I.type.here (wpAny_bind (hb.here ?_)))
  have fin : ∀ r s', (∃ v, r = some v ∧ Q v s') → wpAny (model prog w) A (match r with | some v => pure v | none => unsupported "x") Q E s' := by
    rintro r s' ⟨v, rfl, q⟩
    exact wpAny_pure q
  split
  · rename_i q
    have e : PySem.W.subIn K tb (.ref C) = some false := by
      rcases Bool.or_eq_true_iff.mp hn with e | e
      · rw [beq_iff_eq.mp e] at q; simp at q
      · exact beq_iff_eq.mp e
    refine wpAny_bind ((PySem.W.looks_subIn X e).here ?_)
    simp only [Bool.false_eq_true, if_false]
    refine wpAny_bind (m := tryCompare (.ref x) _ b) (wpAny_mono one ?_ (fun _ _ e => e))
    rintro r s' ⟨v, rfl, hq⟩
    exact wpAny_pure hq
  · refine wpAny_bind (wpAny_pure ?_)
    simp only [Bool.false_eq_true, if_false]
    refine wpAny_bind (m := tryCompare (.ref x) _ b) (wpAny_mono one ?_ (fun _ _ e => e))
    rintro r s' ⟨v, rfl, hq⟩
    exact wpAny_pure hq
end

section
variable {X : Cx} {C f : Addr} {k : Nat} {fd : FuncData} {ps : List Str} {sp : Sp} {E : XK} {CX : CXT}
theorem op_neO (m : Meth X.K C "__eq__" f) (hne : PySem.W.findIn X.K (.ref C) "__ne__" = some (some (.builtin "object.__ne__"))) (hm : PySem.W.mroIn X.K C (.type "object") = some true)
    (F : FnOk X.prog X.w X.K X.mg X.base CX k f fd ps sp) (hr : Room (k + 1) X.A) (hb : Binds X.K fd ps []) (hx : Passes CX X E) :
    OpR X (compareOp .NotEq) (rEqO X.K C sp E true) := by
  intro pins s σ H x y v u Q I rx ry h
  obtain ⟨a, dx, fs, b, C', dy, gs, rfl, rfl, ha, hb', hn, q⟩ := h
  cases (show v = Value.ref a from rx)
  cases (show u = Value.ref b from ry)
  obtain ⟨od, J⟩ := inst_of I ha
  obtain ⟨od', J'⟩ := inst_of I hb'
  show wpAny _ _ (richCompare .NotEq (.ref a) (.ref b)) _ _ _
  refine ne_own (tb := .ref C') (hu_of hr) I.kIn J J'.type hn hm hne m.1 m.2 ?_
  refine wpAny_mono (run_in1 (us := [.ref a, .ref b]) (vs := [.ref a, .ref b]) F hr.in1 hb hx I (.cons rfl (.cons rfl .nil)) q) ?_ (fun _ _ z => z)
  rintro w s' ⟨z, H', I', rz, r, rfl, qz⟩
  cases (show w = Value.bool r from rz)
  exact ⟨r, rfl, .bl (!r), H', I', rfl, qz⟩
end
end G

set_option Elab.async false
set_option linter.all false
set_option maxRecDepth 100000
set_option maxHeartbeats 4000000
/-! Walks that give new tuples: enumerate of a text, zip of texts. -/
namespace G
open PySem PySem.Spec PyProof.Rows L2

/-- n turns, at the i-th a new tuple of the values y i -/
def ItN (n : Nat) (y : Nat → List V) : It :=
  ⟨fun i _ => i < n, fun i H v H' => ∃ T, v = .ref T ∧ H T = none ∧ H' = upd H T (.tup (y i)), fun i _ => n ≤ i⟩

theorem turn_tuples {P : Program} {w : World} {K : PySem.W.Frag} {elts : List Expr} {kk : Nat} {tpos : Pos} {e : Addr} {fp wr : List Addr} {n : Nat} {Pt : Nat → Array Value → Prop}
    {St : Nat → Heap → Prop} {Mid : Nat → Addr → Heap → Prop} (y : Nat → List V)
    (W : ∀ A : Around, A.handled = none → WalksT P w A e fp wr n Pt St Mid) (mem : e ∈ fp)
    (obj : ∀ i h, St i h → ∀ b ∈ fp, ∃ o, h.get? b = some o ∧ ∀ v, o.data ≠ .cell v)
    (hy : ∀ i vals, Pt i vals → Vals (y i) vals.toList) (hz : ∀ i, (y i).length ≤ sizeLine)
    (self : ∀ (A : Around) (i : Nat) (s : Shared) (Q : Value → Shared → Prop) (E : Value → Shared → Prop), St i s.heap → Q (.ref e) s → wpAny (model P w) A (pyIter (.ref e)) Q E s) :
    Turn P w K (.Tuple elts kk tpos) (ItN n y) fp e (fun i h => St i h ∧ i ≤ n) where
  mem := mem
  obj := fun i h st => obj i h st.1
  keep := fun i h h' st k => ⟨(W {} rfl).frame i h h' st.1 k, st.2⟩
  item := by
    intro X hP hw hK hc i pins s σ H E I hf st hg
    subst hP hw hK
    have WW := W X.A (I.ok.hd hc)
    refine WW.item i s _ E hg st.1 ?_
    intro T vals h' tk hp hT ht hm k
    refine ⟨.ref T, rfl, ?_⟩
    refine WW.go elts kk tpos i T { s with heap := h', toks := tk } _ E hm ?_
    intro h'' st'' k2
    have kk2 : ∀ b o, b ∉ wr → s.heap.get? b = some o → h''.get? b = some o := fun b o hb q => k2 b o hb (k b o hb q)
    have hTw := WW.apart i T h' hm
    have fresh : H T = none := I.hok.fresh hT
    have new : ObjOk X.prog X.w (upd H T (.tup (y i))) h'' T (.tup (y i)) := by
      obtain ⟨o, ho, hc', m, hd⟩ := ht
      refine ⟨hz i, vals.toList, hy i vals hp, ?_⟩
      rw [Array.toArray_toList]
      exact ⟨o, k2 T o hTw ho, hc', m, hd⟩
    refine ⟨.ref T, upd H T (.tup (y i)), I.turnedNew (t' := tk) (ch := wr) kk2 (fun b hb => hf b (WW.sub b hb)) hT new, rfl, ⟨T, rfl, fresh, rfl⟩, ⟨st'', hg⟩, ?_⟩
    intro b hb
    obtain ⟨o, ho, _⟩ := obj i _ st.1 b hb
    have hlt : b < s.heap.objs.size := Heap.lt_size ho
    rw [upd_ne (Nat.ne_of_lt (Nat.lt_of_lt_of_le hlt hT))]
    exact (hf b hb).1
  done := by
    intro X hP hw hK hc i pins s σ H E I hf st hg
    subst hP hw hK
    have WW := W X.A (I.ok.hd hc)
    have e : i = n := Nat.le_antisymm st.2 hg
    subst e
    refine WW.done s _ E st.1 ?_
    intro h' tk k
    refine ⟨rfl, ?_⟩
    refine I.step (g' := s.gens) (d' := s.drawn) (ch := wr) (fun b hb => ⟨(hf b (WW.sub b hb)).2.2.2.1, (hf b (WW.sub b hb)).2.1, (hf b (WW.sub b hb)).2.2.2.2.1, (hf b (WW.sub b hb)).2.2.2.2.2⟩)
      (fun b o _ _ hb q _ => k b o hb q) (fun b o _ _ hb q _ => ⟨o.slots, k b o hb q⟩) (fun _ _ _ _ z => z) (fun b o hb q => ⟨o, k b o hb q⟩) (fun _ _ z => z) (fun _ _ _ z => z)
      (fun b ps z => ⟨#[], by rw [z]; simp⟩) ?_ ?_ I.bare
    · rintro m ⟨o, es, ep, ho, r⟩
      exact ⟨o, es, ep, k _ o (fun z => (hf _ (WW.sub _ z)).2.1 rfl) ho, r⟩
    · intro b u q
      refine (I.hok b u q).stay (fun c v hc' z => k c v ?_ z) (fun _ z => z) fun _ _ z => z
      intro hcw
      have hn := (hf c (WW.sub c hcw)).1
      rcases hc' with e | e
      · rw [e, q] at hn; cases hn
      · rw [hn] at e; cases e
  self := fun A i s Q E st h => self A i s Q E st.1 h

/-! ### enumerate of a text -/
/-- the i-th pair of enumerate(x) -/
def enumY (x : Str) (i : Nat) : List V := [.int (i : Nat), .str ⟨#[x.cps.getD i 0]⟩]
def iEnumS (ta : TA) : TI := fun σ H R => ta σ H fun vs H1 => ∃ x : Str, vs = [.str x] ∧ R (ItN x.cps.size (enumY x)) H1
theorem pi_enumS {X : Cx} {e : Expr} {ta : TA} {p pos tpos : Pos} {elts : List Expr} {kk : Nat} (hg : Gl X "enumerate") (hm : X.mg "enumerate" = none) (ha : PA X [e] ta)
    (hs : starEach [e] X.env = [(false, eval e X.env)] := by rfl) : PI X (.Tuple elts kk tpos) (.Call (.Name "enumerate" p) [e] [] pos) (iEnumS ta) := by
  refine ⟨fun pins s σ H R I h => ?_⟩
  refine Call_ (ld_blt I hg hm boot_enumerate (PyProof.Rows.callWith_type1 (thn (ha.run pos pins s σ H _ I h) fun us s1 ⟨vs, H1, I1, r1, q1⟩ => ?_) hs rfl))
  obtain ⟨x, rfl, q⟩ := q1
  obtain ⟨u, rfl, t, rfl⟩ := vals1 r1
  refine call_enumerate_str fun h' he hit _ hk => wpAny_pyIter_enum he ?_
  have I2 : Inv X pins σ H1 { s1 with heap := h' } := I1.kept (t' := s1.toks) hk
  have ne : s1.heap.objs.size + 1 ≠ s1.heap.objs.size := Nat.succ_ne_self _
  have nf : s1.heap.objs.size + 1 ∉ [s1.heap.objs.size] := fun z => ne (List.mem_singleton.mp z)
  have T : Turn X.prog X.w X.K (.Tuple elts kk tpos) (ItN x.cps.size (enumY x)) [s1.heap.objs.size + 1, s1.heap.objs.size] (s1.heap.objs.size + 1)
      (fun i h => ((∃ old, IsEnum h (s1.heap.objs.size + 1) s1.heap.objs.size (0 + (i : Int)) old) ∧ h.IsStrIter s1.heap.objs.size (strIterType x) x t i) ∧ i ≤ x.cps.size) := by
    refine turn_tuples (enumY x) (fun A hA => WalksT.enumFrom 0 (Draws.text (A := A.in1) hA s1.heap.objs.size x t) (s1.heap.objs.size + 1) ne nf (List.mem_singleton.mpr rfl)) (by simp) ?_ ?_ (fun _ => by show 2 ≤ sizeLine; decide) ?_
    · rintro i h ⟨⟨old, he⟩, ⟨o, ho, hc, hd⟩⟩ b hb
      rcases List.mem_cons.mp hb with z | z
      · rw [z]; exact ⟨_, he, fun v q => nomatch q⟩
      · rw [List.mem_singleton.mp z]
        exact ⟨o, ho, fun v q => by rw [hd] at q; cases q⟩
    · rintro i vals ⟨tk, v, ⟨c, u, hc, rfl⟩, rfl⟩
      have e0 : x.cps.getD i 0 = c := by simp [Array.getD_eq_getD_getElem?, hc]
      show Vals [V.int (i : Nat), V.str ⟨#[x.cps.getD i 0]⟩] [Value.int (0 + (i : Int)) tk, Value.str ⟨#[c]⟩ u]
      rw [e0, Int.zero_add]
      exact .cons ⟨_, rfl⟩ (.cons ⟨_, rfl⟩ .nil)
    · rintro A i s Q E ⟨⟨old, he⟩, _⟩ hq
      exact wpAny_pyIter_enum he hq
  refine ⟨s1.heap.objs.size + 1, _, _, _, H1, rfl, I2, T, ⟨⟨⟨.none, he⟩, hit⟩, Nat.zero_le _⟩, fun b hb => ?_, q⟩
  have hle : s1.heap.objs.size ≤ b := by
    rcases List.mem_cons.mp hb with z | z
    · rw [z]; exact Nat.le_add_right _ _
    · rw [List.mem_singleton.mp z]; exact Nat.le_refl _
  exact I1.fpOk hle (I1.hok.fresh hle)
end G

set_option Elab.async false
set_option linter.all false
set_option maxRecDepth 100000
set_option maxHeartbeats 4000000
/-! list of a text. -/
namespace G
open PySem PySem.Spec PyProof.Rows L2
section
variable {prog : Program} {w : World} {A : Around} {E : Value → Shared → Prop} {s : Shared}

theorem hint_str {x : Str} {t : Tok} {Q : Bool → Shared → Prop} (h : Q false s) :
    wpAny (model prog w) A (Builtin.List.listLengthHint (.str x t)) Q E s := by
  unfold Builtin.List.listLengthHint
  refine wpAny_bind (wpAny_specialOf (typeIs_str s x t) F.slot_str_len.lookup ?_)
  generalize hid : ("str.__len__" : String) = id0
  wp_delta
  rw [show splitId id0 = some ("str", "__len__") from by subst hid; decide +kernel]
  subst hid
  refine wpAny_bind (wpAny_isInstance (T := "str") (b := true) (typeIs_str s x t) (by rw [isSubtype_type]; kernel_rfl) ?_)
  refine wpAny_ite_split (fun hab => absurd hab (by decide)) (fun _ => ?_)
  refine wpAny_ite_split (fun _ => ?_) (fun hab => absurd (by decide +kernel) hab)
  exact wpAny_bind (wpAny_typeOf (T := "str") (typeIs_str s x t) (wpAny_pure h))

theorem extend_str {R : Result → Shared → Prop} {x : Str} {t : Tok} (hh : A.handled = none) (hlen : x.length ≤ 2 ^ 24) (S : Addr) (res : Value) (c₀ : Nat) (hS : s.heap.get? S = some { cls := .type "list", data := .seq #[] c₀ })
    (hR : ∀ h' tk acc' c', (∀ b o, b ≠ S → s.heap.get? b = some o → h'.get? b = some o) → h'.get? S = some { cls := .type "list", dict := none, data := .seq acc' c', slots := #[] } →
      ItemsOf (SignAt x) acc' x.cps.size → R (.ok (.ret res)) { s with heap := h', toks := tk }) :
    wpAny (model prog w) A.in1 (Builtin.List.listExtendWith (.ref S) (.str x t) res)
      (fun fin s' => match fin with | .done f => R (.ok f) s' | .again c' => c'.quiet = true ∧ codeAny (model prog w) A c' R s') (fun e s' => R (.error e) s') s := by
  have hSlt : S < s.heap.objs.size := Heap.lt_size hS
  have hSI : S ≠ s.heap.objs.size := Nat.ne_of_lt hSlt
  have hSf : S ∉ [s.heap.objs.size] := fun hm => hSI (List.mem_singleton.mp hm)
  have hlen' : x.cps.size ≤ 2 ^ 24 := hlen
  unfold Builtin.List.listExtendWith
  refine wpAny_bind (wpAny_typeOf (T := "str") (typeIs_str s x t) ?_)
  have h1 : Builtin.List.listSameRef (.ref S) (.str x t) = false := by simp [Builtin.List.listSameRef]
  have h2 : (Value.type "str" == Value.type "list") = false := by decide
  have h3 : (Value.type "str" == Value.type "tuple") = false := by decide
  simp only [h1, h2, h3, Bool.or_false, Bool.false_eq_true, if_false]
  refine wpAny_bind (wpAny_pyIter_str fun o St WW st0 => ?_)
  have W := (WW A.in1 hh).toS
  have key : ∀ (h : Heap) (c₁ tk : Nat), St 0 h → (∀ b o, b ≠ S → s.heap.get? b = some o → h.get? b = some o) →
      h.get? S = some { cls := .type "list", data := .seq #[] c₁ } → codeAny (model prog w) A (.builtin "list.extend.loop" ⟨[.ref S, .ref s.heap.objs.size, res], []⟩) R { s with heap := h, toks := tk } := by
    intro h c₁ tk hit hk hS₁
    refine codeAny_extend_loopS W (by rw [sizeLine_eq]; omega) S hSf res x.cps.size 0 _ #[] c₁ rfl (Nat.zero_le _) hit hS₁ (ItemsOf.nil _) fun s' acc' c' hm hS' hacc => ?_
    rw [Moved.eq_with hm]
    refine hR s'.heap s'.toks acc' c' (fun b o hb e => hm.heap b o (fun hmem => ?_) (hk b o hb e)) hS' hacc
    rcases List.mem_cons.mp hmem with e' | hmem
    · exact hb e'
    · exact absurd (Heap.lt_size e) (by rw [List.mem_singleton.mp hmem]; exact Nat.lt_irrefl _)
  refine wpAny_bind (wpAny_holding (hint_str ?_))
  have hS₁ := Heap.get?_push_of_some o hS
  refine wpAny_ite_split (fun hab => absurd hab (by decide)) (fun _ => wpAny_pure ⟨plainId_quiet F.plain_extend_loop _, key _ c₀ _ st0 (fun b o' _ e => Heap.get?_push_of_some _ e) hS₁⟩)

theorem list_init_str {R : Result → Shared → Prop} {x : Str} {t : Tok} (hh : A.handled = none) (hlen : x.length ≤ 2 ^ 24) (S : Addr) (hS : s.heap.get? S = some { cls := .type "list", data := .seq #[] })
    (hR : ∀ h' tk acc' c', (∀ b o, b ≠ S → s.heap.get? b = some o → h'.get? b = some o) → h'.get? S = some { cls := .type "list", dict := none, data := .seq acc' c', slots := #[] } →
      ItemsOf (SignAt x) acc' x.cps.size → R (.ok (.ret .none)) { s with heap := h', toks := tk }) :
    wpAny (model prog w) A.in1 (Builtin.«list.__init__» ⟨[.ref S, .str x t], []⟩)
      (fun fin s' => match fin with | .done f => R (.ok f) s' | .again c' => c'.quiet = true ∧ codeAny (model prog w) A c' R s') (fun e s' => R (.error e) s') s := by
  show wpAny _ _ (do let old ← Builtin.List.listItems (.ref S); Builtin.List.listUpdate (.ref S) (fun _ => #[]); letGo old.toList.reverse; Builtin.List.listExtendWith (.ref S) (.str x t) .none) _ _ s
  refine wpAny_bind ?_
  unfold Builtin.List.listItems
  refine wpAny_bind (wpAny_seqItems hS rfl (wpAny_pure ?_))
  show wpAny _ _ (updateSeq S (fun _ => #[]) >>= fun _ => letGo (#[] : Array Value).toList.reverse >>= fun _ => Builtin.List.listExtendWith (.ref S) (.str x t) .none) _ _ s
  refine wpAny_bind (wpAny_updateSeq hS rfl ?_)
  have hS₂ := Heap.get?_update_self (Obj.mapSeq (fun _ => (#[] : Array Value))) hS rfl
  have oth : ∀ b o, b ≠ S → s.heap.get? b = some o → (s.heap.update S (Obj.mapSeq (fun _ => (#[] : Array Value)))).get? b = some o :=
    fun b o hb e => (Heap.get?_update_other _ _ (Ne.symm hb)).trans e
  refine wpAny_bind (wpAny_letGo ?_)
  refine extend_str hh hlen S .none _ hS₂ fun h' tk acc' c' hk hS' hacc => ?_
  exact hR h' tk acc' c' (fun b o hb e => hk b o hb (oth b o hb e)) hS' hacc

theorem list_of_str {Q : Value → Shared → Prop} {x : Str} {t : Tok} (hh : A.handled = none) (hlen : x.length ≤ 2 ^ 24)
    (hQ : ∀ h' tk acc' c', (∀ b o, s.heap.get? b = some o → h'.get? b = some o) →
      h'.get? s.heap.objs.size = some { cls := .type "list", dict := none, data := .seq acc' c', slots := #[] } → ItemsOf (SignAt x) acc' x.cps.size → Q (.ref s.heap.objs.size) { s with heap := h', toks := tk }) :
    wpAny (model prog w) A (call (.type "list") [.str x t]) Q E s := by
  refine callType_codes (Q₁ := fun obj s₁ => obj = .ref s.heap.objs.size ∧ s₁ = { s with heap := s.heap.push { cls := .type "list", data := .seq #[] } }) F.called_list (F.typeCall_list_1 _) F.entry_list_init
    (code_list_new _ ⟨rfl, rfl⟩) fun obj s₁ h₁ => ?_
  obtain ⟨rfl, rfl⟩ := h₁
  have hS : (s.heap.push { cls := .type "list", data := .seq #[] }).get? s.heap.objs.size = some { cls := .type "list", data := .seq #[] } := Heap.get?_push_size _ rfl
  refine ⟨⟨_, hS, rfl⟩, F.args_list_init_2 _ _, list_init_str (A := A.in1) hh hlen _ hS fun h' tk acc' c' hk hS' hacc => ?_⟩
  exact ⟨rfl, hQ h' tk acc' c' (fun b o e => hk b o (Nat.ne_of_lt (Heap.lt_size e)) (Heap.get?_push_of_some _ e)) hS' hacc⟩
end

/-- the signs of a text, each a text -/
def signsV (x : Str) : List V := x.cps.toList.map fun c => V.str ⟨#[c]⟩
section
variable {X : Cx}
theorem vals_signs {x : Str} {acc : Array Value} (h : ItemsOf (SignAt x) acc x.cps.size) : Vals (signsV x) acc.toList := by
  obtain ⟨hs, hi⟩ := h
  have key : ∀ (cs : List Nat) (us : List Value), us.length = cs.length → (∀ (j : Nat) (v : Value), us[j]? = some v → ∃ c u, cs[j]? = some c ∧ v = .str ⟨#[c]⟩ u) → Vals (cs.map fun c => V.str ⟨#[c]⟩) us := by
    intro cs
    induction cs with
    | nil =>
      intro us e _
      have : us = [] := List.length_eq_zero_iff.mp e
      subst this
      exact .nil
    | cons c cs ih =>
      intro us e hj
      cases us with
      | nil => exact nomatch e
      | cons u us =>
        obtain ⟨c', t, h1, h2⟩ := hj 0 u rfl
        have e1 : c = c' := Option.some.inj h1
        subst e1
        refine .cons ⟨t, h2⟩ (ih us (by simpa using e) fun j v hv => hj (j + 1) v (by simpa using hv))
  refine key x.cps.toList acc.toList (by simpa using hs) fun j v hv => ?_
  obtain ⟨c, u, h1, h2⟩ := hi j v (by simpa using hv)
  exact ⟨c, u, by simpa using h1, h2⟩
theorem call_list_strG (hc : X.calm = true) : CallR X (.type "list") (fun xs H Q => ∃ x, xs = [.str x] ∧ x.length ≤ 16777216 ∧ ∀ p, H p = none → Q (.ref p) (upd H p (.lst (signsV x)))) := by
  intro pins s σ H xs us Q I r h
  obtain ⟨x, rfl, hz, q⟩ := h
  obtain ⟨u, rfl, t, rfl⟩ := vals1 r
  refine list_of_str (I.ok.hd hc) hz fun h' tk acc' c' hk hS hacc => ?_
  have hn : H s.heap.objs.size = none := I.hok.fresh (Nat.le_refl _)
  refine ⟨.ref s.heap.objs.size, _, I.laid (t' := tk) hk (Nat.le_refl _) (o := .lst (signsV x)) ?_, rfl, q _ hn⟩
  refine ⟨?_, acc'.toList, c', vals_signs hacc, by rw [Array.toArray_toList]; exact hS⟩
  unfold signsV
  rw [List.length_map, Array.length_toList, sizeLine_eq]
  exact hz
end
end G

set_option Elab.async false
set_option linter.all false
set_option maxRecDepth 100000
set_option maxHeartbeats 4000000
/-! Set comprehensions of ints and texts; their len. -/
namespace G
open PySem PySem.Spec PyProof.Rows L2

/-! ### one turn of any comprehension's block -/
/-- what is kept between the turns -/
def BKeep (B : Cx) (τ : L2.St) (fp : List Addr) (tn : Nat → Heap → Prop) (W : Nat → Nat → Hp → Prop) (n : Nat) (s : Shared) : Prop :=
  ∃ i H, Inv B [] τ H s ∧ tn i s.heap ∧ (∀ b ∈ fp, H b = none) ∧ W i n H

section
variable {X : Cx} {s0 : Shared} {H0 : Hp} {scope : Scope} {ce : Env} {fp : List Addr} {J : It} {it : Addr} {tn : Nat → Heap → Prop} {tg : Expr} {ifs : List Expr} {g : TG} {tt : TT} {σ : L2.St} {vs : List Nat}
  {W : Nat → Nat → Hp → Prop} {Qd : Hp → Prop} {Kt : L2.St → Hp → (Hp → Prop) → Prop}

theorem blk_fp {τ : L2.St} {H : Hp} {s : Shared} (I : Inv (X.blk s0 H0 scope ce fp) [] τ H s) (free : ∀ b ∈ fp, H b = none) : ∀ b ∈ fp, FpOk (X.blk s0 H0 scope ce fp) [] H b := by
  intro b hb
  refine ⟨free b hb, (I.ok.exf b hb).1, I.ok.exfs b hb, Or.inl hb, fun x c e => (I.ok.exf b hb).2 x c e, fun p hp => ?_⟩
  exact absurd (show p ∈ ([] : List (Addr × Obj)) ++ [] from hp) (by simp)

theorem blk_turn (T : Turn X.prog X.w X.K tg J fp it tn) (hc : X.calm = true) (pg : PG (X.blk s0 H0 scope ce fp) tg g) (pt : PTs (X.blk s0 H0 scope ce fp) ifs tt)
    (turn : ∀ i m H, W i m H → (J.stop i H ∧ Qd H) ∨ (J.go i H ∧ ∃ Nx : Hp → Prop, (∀ H', Nx H' → ∃ m', m' < m ∧ W (i + 1) m' H') ∧
      ∀ x H', J.yld i H x H' → g x (wipe σ vs) H' fun σ2 H2 => wipe σ2 vs = wipe σ vs ∧ tt σ2 H2 fun b H3 => if b = true then Kt σ2 H3 Nx else Nx H3))
    {n : Nat} {s : Shared} {E : Value → Shared → Prop} (k : BKeep (X.blk s0 H0 scope ce fp) (wipe σ vs) fp tn W n s) :
    wpAny (model X.prog X.w) X.A (pyNext (.ref it)) (fun r s1 => match r with
      | none => ∃ H', Inv (X.blk s0 H0 scope ce fp) [] (wipe σ vs) H' s1 ∧ Qd H'
      | some v => wpAny (model X.prog X.w) X.A (letOwnedTupleGo tg (.ref it) v) (fun _ s2 => wpAny (model X.prog X.w) X.A (assign tg ce v) (fun _ s3 =>
          wpAny (model X.prog X.w) X.A (forIn ifs true fun c r => if r = true then do let ok ← isTrue c ce (eval c ce); pure (ForInStep.yield ok) else pure (ForInStep.yield r)) (fun ok s4 =>
            ∃ (pn : List (Addr × Obj)) (σ4 : L2.St) (H4 : Hp) (Nx : Hp → Prop), Inv (X.blk s0 H0 scope ce fp) pn σ4 H4 s4 ∧ (if ok = true then Kt σ4 H4 Nx else Nx H4) ∧
              ∀ s' H', Inv (X.blk s0 H0 scope ce fp) pn σ4 H' s' → Nx H' → ∃ m, m < n ∧ BKeep (X.blk s0 H0 scope ce fp) (wipe σ vs) fp tn W m s') E s3) E s2) E s1) E s := by
  obtain ⟨i, H, I, st, free, w⟩ := k
  rcases turn i n H w with ⟨stop, q⟩ | ⟨go, Nx, hNx, step⟩
  · refine thnF (T.done (X.blk s0 H0 scope ce fp) rfl rfl rfl hc i [] s _ H (fun _ _ => False) I (blk_fp I free) st stop) fun r s1 hr => ?_
    obtain ⟨rfl, I1⟩ := hr
    exact ⟨H, I1, q⟩
  · refine thnF (T.item (X.blk s0 H0 scope ce fp) rfl rfl rfl hc i [] s _ H (fun _ _ => False) I (blk_fp I free) st go) fun r s1 hr => ?_
    obtain ⟨u, rfl, h1⟩ := hr
    refine thnF h1 fun _ s2 h2 => ?_
    obtain ⟨x, G2, J2, rx, y2, st2, free2⟩ := h2
    have P2 := J2.pinned (blk_fp J2 free2) (T.obj _ _ st2)
    refine thnF (pg.run _ s2 _ G2 x u _ P2 rx (step x G2 y2)) fun _ s3 h3 => ?_
    obtain ⟨σ3, G3, J3, hw, q3⟩ := h3
    refine thnF (pt.run _ s3 σ3 G3 _ J3 q3) fun ok s4 h4 => ?_
    obtain ⟨G4, J4, q4⟩ := h4
    refine ⟨_, σ3, G4, Nx, J4, q4, fun s' H' I' nx => ?_⟩
    obtain ⟨m, hm, w'⟩ := hNx H' nx
    have held : ∀ b ∈ fp, ∀ o, s2.heap.get? b = some o → s'.heap.get? b = some o ∧ H' b = none := by
      intro b hb o e
      have z := I'.pin (b, o) (List.mem_append_right _ (List.mem_append_right _ (mem_pinsAt hb e)))
      exact ⟨z.1, z.2.1⟩
    have len : (wipe σ vs).length = σ3.length := (congrArg List.length hw).symm.trans (wipe_length ..)
    have I'' := I'.unpinned (pins := [])
    refine ⟨m, hm, i + 1, H', I''.weak len (fun j v e => (wipe_some (hw ▸ e)).1), ?_, ?_, w'⟩
    · exact T.keep _ _ _ st2 fun b hb o e => (held b hb o e).1
    · intro b hb
      obtain ⟨o, e, _⟩ := T.obj _ _ st2 b hb
      exact (held b hb o e).2
end

/-! ### set comprehensions -/
def tScK (P : Program) (w : World) (wi : TI) (g : TG) (tt : TT) (te : TE) (vs : List Nat) : TE := fun σ H Q => wi σ H fun J H1 => ∀ D, H1 D = none → ∃ W : Nat → Nat → Hp → Prop,
  (∃ m, W 0 m (upd H1 D (SetK P w D (fun _ => false) 0))) ∧ ∀ i m H, W i m H → (J.stop i H ∧ Q (.ref D) H) ∨ (J.go i H ∧ ∃ Nx : Hp → Prop, (∀ H', Nx H' → ∃ m', m' < m ∧ W (i + 1) m' H') ∧
    ∀ x H', J.yld i H x H' → g x (wipe σ vs) H' fun σ2 H2 => wipe σ2 vs = wipe σ vs ∧ tt σ2 H2 fun b H3 => if b = true then
      te σ2 H3 fun y H4 => ∃ (k : Key) (S : Key → Bool) (n : Nat), y = kV k ∧ H4 D = some (SetK P w D S n) ∧ n + 1 < scanBound ∧ Nx (upd H4 D (SetK P w D (fun j => S j || decide (j = k)) (if S k = true then n else n + 1))) else Nx H3)

section
variable {X : Cx}
/-- the object of a new set -/
def setObj (w : World) : Obj := { cls := .type "set", dict := none, data := .set #[] 0 (.fresh 0 0 (!w.params.followText "set-order")) }
theorem setK_fresh (P : Program) (w : World) (h : Heap) : (h.push (setObj w)).SetOf (mixKind P w) h.objs.size (fun _ => false) 0 := by
  refine ⟨_, #[], 0, _, Heap.get?_push_size _ rfl, ⟨rfl, rfl, rfl⟩, rfl, ?_, ?_, by decide, rfl, rfl⟩
  · intro e he
    simp at he
  · intro k
    simp
theorem pe_scK {elt tg iter : Expr} {ifs : List Expr} {scope : Scope} {own : List (PySem.Str × Nat)} {pos : Pos} {wi : TI} {g : TG} {tt : TT} {te : TE} (hc : X.calm = true) (hN : X.N.Nodup) (hi : PI X tg iter wi) (ok : BlkOk X.N X.env.scope scope own)
    (hg : ∀ s H C cl fp, PG (X.blk s H scope (compEnvC scope cl C X.env) fp) tg g) (ht : ∀ s H C cl fp, PTs (X.blk s H scope (compEnvC scope cl C X.env) fp) ifs tt)
    (he : ∀ s H C cl fp, PE (X.blk s H scope (compEnvC scope cl C X.env) fp) elt te) (hs : ∀ x, foldedSetIterable iter X.env x = pure x := by intro _; rfl) :
    PE X (.SetComp elt [⟨tg, iter, ifs, 0⟩] scope pos) (tScK X.prog X.w wi g tt te (own.map (·.2))) := by
  refine ⟨fun pins s σ H Q I h => ?_⟩
  rw [PpSet.eval_SetComp]
  have hfree : ∀ y ∈ scope.names, y.2 = .free → ∃ c, X.env.cells.lookup y.1 = some c := by
    intro y hy e
    rcases ok.free y hy e with k | k
    · exact I.ok.has _ (Or.inl k)
    · exact I.ok.has _ (Or.inr k)
  refine wpAny_comprehension_free (use := none) rfl hs (closure_ok hfree) ok.kind (fun y hy e => by rw [ok.uniq y hy, e]) ?_
  refine thn (hi.run pins s σ H _ I h) fun xv s1 hx => thn hx fun itv s2 h2 => ?_
  obtain ⟨it, fp, tn, J, H2, rfl, I2, T, st2, f2, q⟩ := h2
  refine PpSet.newSet_ok (newEnv_comp ?_)
  -- the new set, laid
  obtain ⟨D, hD⟩ : ∃ D, D = s2.heap.objs.size := ⟨_, rfl⟩
  obtain ⟨W, ⟨m0, w0⟩, turn⟩ := q D (I2.hok.fresh (Nat.le_of_eq hD.symm))
  have up : ∀ b o, s2.heap.get? b = some o → (s2.heap.push (setObj X.w)).get? b = some o := fun b o e => Heap.get?_push_of_some _ e
  have I3 : Inv X pins σ (upd H2 D (SetK X.prog X.w D (fun _ => false) 0)) { s2 with heap := s2.heap.push (setObj X.w) } := by
    refine I2.laid (t' := s2.toks) up (Nat.le_of_eq hD.symm) ?_
    subst hD
    exact setK_new (setK_fresh X.prog X.w s2.heap)
  have small : ∀ b ∈ fp, b < s2.heap.objs.size := by
    intro b hb
    obtain ⟨o, e, _⟩ := T.obj _ _ st2 b hb
    exact Heap.lt_size e
  have f3 : ∀ b ∈ fp, FpOk X pins (upd H2 D (SetK X.prog X.w D (fun _ => false) 0)) b ∧ b < ({ s2 with heap := s2.heap.push (setObj X.w) } : Shared).heap.objs.size := by
    intro b hb
    have lt := small b hb
    have nd : b ≠ D := by rw [hD]; exact Nat.ne_of_lt lt
    refine ⟨⟨(upd_ne nd).trans (f2 b hb).1, (f2 b hb).2⟩, ?_⟩
    show b < (s2.heap.push (setObj X.w)).objs.size
    rw [Heap.size_push]
    exact Nat.lt_succ_of_lt lt
  obtain ⟨t3, e3⟩ : ∃ t3 : Shared, t3 = { s2 with heap := s2.heap.push (setObj X.w) } := ⟨_, rfl⟩
  rw [← e3] at I3 f3
  have hp : s2.heap.push (setObj X.w) = t3.heap := by rw [e3]
  have bs := block_start I3 ok hN f3
  have free3 : ∀ b ∈ fp, upd H2 D (SetK X.prog X.w D (fun _ => false) 0) b = none := fun b hb => (f3 b hb).1.1
  have st4 : tn 0 (pushCells (t3.heap.push { cls := .type "dict", data := .dict #[] }) scope.names) := by
    refine T.keep _ _ _ st2 fun b _ o e => pushCells_keeps _ _ _ _ (Heap.get?_push_of_some _ ?_)
    rw [← hp]
    exact up b o e
  show codeAny _ _ (.compStart _ 0 (.ref it) (.ref _) (compEnvC scope (cellsFrom ((s2.heap.push (setObj X.w)).objs.size + 1) scope.names (cloFrom X.env.cells scope.names [])) (s2.heap.push (setObj X.w)).objs.size X.env)) (compPost (model X.prog X.w) X.A X.xe none (EP X pins σ Q) (.ref _) (s2.heap.push (setObj X.w)).objs.size)
    { s2 with heap := pushCells ((s2.heap.push (setObj X.w)).push { cls := .type "dict", data := .dict #[] }) scope.names }
  rw [← hD]
  have es : ({ s2 with heap := pushCells ((s2.heap.push (setObj X.w)).push { cls := .type "dict", data := .dict #[] }) scope.names } : Shared) = { t3 with heap := pushCells (t3.heap.push { cls := .type "dict", data := .dict #[] }) scope.names } := by
    rw [e3]
  rw [es, hp]
  have pg := hg t3 (upd H2 D (SetK X.prog X.w D (fun _ => false) 0)) t3.heap.objs.size (cellsFrom (t3.heap.objs.size + 1) scope.names (cloFrom X.env.cells scope.names [])) fp
  have pt := ht t3 (upd H2 D (SetK X.prog X.w D (fun _ => false) 0)) t3.heap.objs.size (cellsFrom (t3.heap.objs.size + 1) scope.names (cloFrom X.env.cells scope.names [])) fp
  have pe := he t3 (upd H2 D (SetK X.prog X.w D (fun _ => false) 0)) t3.heap.objs.size (cellsFrom (t3.heap.objs.size + 1) scope.names (cloFrom X.env.cells scope.names [])) fp
  obtain ⟨ce, hce⟩ : ∃ ce, ce = compEnvC scope (cellsFrom (t3.heap.objs.size + 1) scope.names (cloFrom X.env.cells scope.names [])) t3.heap.objs.size X.env := ⟨_, rfl⟩
  have cl : ce.locals = t3.heap.objs.size := by rw [hce]; rfl
  rw [← hce] at bs pg pt pe ⊢
  have k0 : BKeep (X.blk t3 (upd H2 D (SetK X.prog X.w D (fun _ => false) 0)) scope ce fp) (wipe σ (own.map (·.2))) fp tn W m0 { t3 with heap := pushCells (t3.heap.push { cls := .type "dict", data := .dict #[] }) scope.names } :=
    ⟨0, _, bs, st4, free3, w0⟩
  have loop : codeAny (model X.prog X.w) X.A (.compLoop (.SetComp elt [⟨tg, iter, ifs, 0⟩] scope pos) 0 (.ref it) (.ref D) ce) (compPost (model X.prog X.w) X.A X.xe none (EP X pins σ Q) (.ref D) t3.heap.objs.size)
      { t3 with heap := pushCells (t3.heap.push { cls := .type "dict", data := .dict #[] }) scope.names } := by
    refine PpSet.compLoopS_any (BKeep (X.blk t3 (upd H2 D (SetK X.prog X.w D (fun _ => false) 0)) scope ce fp) (wipe σ (own.map (·.2))) fp tn W) (fun n s5 k5 => ?_) m0 k0
    refine wpAny_mono (blk_turn (E := notedBy (model X.prog X.w) X.A ce fun e s' => compPost (model X.prog X.w) X.A X.xe none (EP X pins σ Q) (.ref D) t3.heap.objs.size (.error e) s') T hc pg pt turn k5) (fun r s6 h6 => ?_) fun _ _ z => z
    cases r with
    | none =>
      obtain ⟨H6, I6, q6⟩ := h6
      have back : Inv X pins σ H6 s6 := I3.call' (ch := fp) I6.os I6.base I6.hok I6.bare fun b hb => ⟨(f3 b hb).1.2.2.2.1, (f3 b hb).1.2.1, (f3 b hb).1.2.2.2.2.1, (f3 b hb).1.2.2.2.2.2⟩
      have nC : H6 t3.heap.objs.size = none := cl ▸ (I6.free : H6 ce.locals = none)
      obtain ⟨m, hn, _⟩ := I6.loc
      refine ⟨m, cl ▸ (hn : s6.heap.Ns ce.locals m), fun h'' sb => ?_⟩
      obtain ⟨f0, f1, f2', f3', f4, f5⟩ := I3.fpOk (Nat.le_refl _) nC
      exact ⟨.ref D, H6, back.turned (t' := s6.toks) (fun b o hb e => (sb.2 b hb).trans e) f0 f1 f3' f4 f5, rfl, q6⟩
    | some v =>
      refine wpAny_mono h6 (fun _ s7 h7 => wpAny_mono h7 (fun _ s8 h8 => wpAny_mono h8 (fun b s9 h9 => ?_) fun _ _ z => z) fun _ _ z => z) fun _ _ z => z
      obtain ⟨pn, σ9, H9, Nx, I9, q9, fin⟩ := h9
      cases b with
      | false => exact fin s9 H9 I9 q9
      | true =>
        refine thnF (pe.run pn s9 σ9 H9 _ I9 q9) fun u s10 h10 => ?_
        obtain ⟨y, H10, I10, ry, k, S, c, rfl, hS, room, nx⟩ := h10
        refine call_set_add (kV_is ry) (key_scan ry) (setK_get (X := X.blk t3 (upd H2 D (SetK X.prog X.w D (fun _ => false) 0)) scope ce fp) I10 hS) room fun h' sb new => ?_
        have hx : ∃ u, h'.get? D = some u := by
          have ⟨o, _, _, _, ho, _⟩ := new
          exact ⟨o, ho⟩
        refine fin _ _ (I10.write (e := D) (t' := s10.toks + 1) (by rw [hS]; trivial) (Or.inl rfl) (fun b u hb hu => (sb.2 b hb).trans hu) hx (setK_new new)) nx
  exact PpSet.codeAny_compStart_set loop (T.self X.A 0 _ _ _ st4 loop)
/-- len of a set of ints and texts -/
theorem call_lenSK : CallR X (.builtin "len") (fun xs H Q => ∃ p S n, xs = [.ref p] ∧ H p = some (SetK X.prog X.w p S n) ∧ Q (.int (n : Nat)) H) := by
  intro pins s σ H xs us Q I r h
  obtain ⟨p, S, n, rfl, hp, q⟩ := h
  obtain ⟨u, rfl, r1⟩ := vals1 r
  cases r1
  obtain ⟨o, es, ep, t, ho, hx, hd, hel, hm, hb, hf, hn⟩ := setK_get I hp
  subst hn
  have hb' : es.size < 4096 := hb
  exact call_len_set ho hx hd hf (by omega) ⟨.int _, H, I.tok _, ⟨_, rfl⟩, q⟩
end
end G

set_option Elab.async false
set_option linter.all false
set_option maxRecDepth 100000
set_option maxHeartbeats 4000000
/-! Rules whose readings simplify by what the heap holds. -/
namespace G
open PySem PySem.Spec PyProof.Rows L2

/-- what was known is kept -/
abbrev Sub (H H' : Hp) : Prop := ∀ a, H a ≠ none → H' a = H a
theorem Sub.refl (H : Hp) : Sub H H := fun _ _ => rfl
theorem Sub.trans {H1 H2 H3 : Hp} (a : Sub H1 H2) (b : Sub H2 H3) : Sub H1 H3 := fun x h => (b x (by rw [a x h]; exact h)).trans (a x h)
theorem Sub.new {H : Hp} {p : Addr} {o : HO} (h : H p = none) : Sub H (upd H p o) := fun a ha => upd_ne fun e => ha (e ▸ h)
theorem upd_dif {H : Hp} {a b : Addr} {o : HO} (h : H a ≠ H b) : upd H b o a = H a := upd_ne fun e => h (e ▸ rfl)
theorem Sub.get {H H' : Hp} (e : Sub H H') {a : Addr} {o : HO} (h : H a = some o) : H' a = some o := (e a (by rw [h]; exact nofun)).trans h

/-- frozen or not -/
def lk : Option HO → Option HO
  | some (.frz _ u) => some u
  | o => o
theorem lk_none : lk none = none := rfl
theorem lk_frz {o : Obj} {u : HO} : lk (some (.frz o u)) = some u := rfl
theorem lk_lst {xs : List V} : lk (some (.lst xs)) = some (.lst xs) := rfl
theorem lk_tup {xs : List V} : lk (some (.tup xs)) = some (.tup xs) := rfl
theorem lk_dK {xs : List (Key × V)} : lk (some (.dK xs)) = some (.dK xs) := rfl
theorem lk_ins {C dx : Addr} {fs : List (Str × V)} : lk (some (.ins C dx fs)) = some (.ins C dx fs) := rfl
theorem rd_lk {H : Hp} {a : Addr} {u : HO} (h : lk (H a) = some u) : Rd H a u := by
  cases e : H a with
  | none => rw [e] at h; cases h
  | some v =>
    rw [e] at h
    cases v with
    | frz o w => cases (Option.some.inj h); exact Or.inr ⟨o, e⟩
    | _ => cases (Option.some.inj h); exact Or.inl e
theorem lk_freeze {H : Hp} {d a : Addr} {od : Obj} {u : HO} (h : H d = some u) (hu : lk (some u) = some u) : lk (upd H d (.frz od u) a) = lk (H a) := by
  by_cases e : a = d
  · subst e
    rw [upd_same, h, hu]
    rfl
  · rw [upd_ne e]

/-- a value as a key -/
theorem kV_str {x : Str} {k : Key} : (V.str x = kV k) ↔ k = Sum.inr x := by
  cases k with
  | inl i => exact ⟨fun h => (nomatch h), fun h => (nomatch h)⟩
  | inr y => exact ⟨fun h => by cases h; rfl, fun h => by cases h; rfl⟩
theorem kV_int {i : Int} {k : Key} : (V.int i = kV k) ↔ k = Sum.inl i := by
  cases k with
  | inr i => exact ⟨fun h => (nomatch h), fun h => (nomatch h)⟩
  | inl y => exact ⟨fun h => by cases h; rfl, fun h => by cases h; rfl⟩
theorem kV_kV {j k : Key} : (kV j = kV k) ↔ k = j := by
  cases j with
  | inl i => exact kV_int
  | inr x => exact kV_str

section
variable {X : Cx}
/-! ### len -/
def rLenU (P : Program) (w : World) (xs : List V) (H : Hp) (Q : VK) : Prop := (∃ z, xs = [.str z] ∧ z.length ≤ sizeLine ∧ Q (.int z.length) H) ∨ (∃ p ys, xs = [.ref p] ∧ lk (H p) = some (.lst ys) ∧ Q (.int ys.length) H) ∨
  (∃ p ys, xs = [.ref p] ∧ lk (H p) = some (.tup ys) ∧ Q (.int ys.length) H) ∨ (∃ p ys, xs = [.ref p] ∧ H p = some (.dK ys) ∧ Q (.int ys.length) H) ∨
  ∃ p S n, xs = [.ref p] ∧ H p = some (SetK P w p S n) ∧ Q (.int (n : Nat)) H
theorem call_lenU : CallR X (.builtin "len") (rLenU X.prog X.w) := by
  intro pins s σ H xs us Q I r h
  rcases h with ⟨z, e, hz, q⟩ | ⟨p, ys, e, hp, q⟩ | ⟨p, ys, e, hp, q⟩ | ⟨p, ys, e, hp, q⟩ | ⟨p, S, n, e, hp, q⟩
  · exact call_len_str pins s σ H xs us Q I r ⟨z, e, hz, q⟩
  · exact call_len_seq pins s σ H xs us Q I r ⟨p, ys, e, Or.inl (Or.inl (rd_lk hp)), q⟩
  · exact call_len_seq pins s σ H xs us Q I r ⟨p, ys, e, Or.inr (Or.inl (rd_lk hp)), q⟩
  · exact call_lenD pins s σ H xs us Q I r ⟨p, ys, e, hp, q⟩
  · exact call_lenSK pins s σ H xs us Q I r ⟨p, S, n, e, hp, q⟩
/-! ### subscripts -/
def rIxU (x : V) (y : V) (H : Hp) (Q : VK) : Prop := (∃ z i c, x = .str z ∧ y = .int i ∧ z.length ≤ sizeLine ∧ atI z.cps.toList i = some c ∧ Q (.str ⟨#[c]⟩) H) ∨ (∃ p xs i v, x = .ref p ∧ y = .int i ∧ lk (H p) = some (.lst xs) ∧ atI xs i = some v ∧ Q v H) ∨
  (∃ p xs i v, x = .ref p ∧ y = .int i ∧ lk (H p) = some (.tup xs) ∧ atI xs i = some v ∧ Q v H) ∨ ∃ p kvs k v, x = .ref p ∧ y = kV k ∧ lk (H p) = some (.dK kvs) ∧ valV kvs k = some v ∧ Q v H
theorem ix_dict (hu : X.A.units + 1 < cLine) : IxR X (fun x y H Q => ∃ p kvs k v, x = .ref p ∧ y = kV k ∧ Rd H p (.dK kvs) ∧ valV kvs k = some v ∧ Q v H) := by
  intro value slice pins s σ H x y v u Q I rx ry h hs
  obtain ⟨p, kvs, k, z, rfl, rfl, hp, hv, q⟩ := h
  cases rx
  have g : DGet H p (kV k) (some z) := Or.inl ⟨kvs, k, hp, rfl, hv.symm⟩
  have hT := dict_typeIs I g
  unfold subscriptTail
  refine wpAny_bind ?_
  rw [getitemInPython_of_ne hT.not_modules]
  refine wpAny_bind (wpAny_specialOf hT PySem.F.slot_dict_getitem.lookup ?_)
  have fin : wpAny (model X.prog X.w) X.A (subscripted slice false (.ref p) u) (fun r s₃ => wpAny (model X.prog X.w) X.A (letTemporaryGo value (.ref p) r >>= fun _ => pure r) (EP X pins σ Q) X.xe s₃) X.xe s := by
    rw [hs]
    exact wpAny_operating (d_getItem hu I g ry fun w' s3 I3 rw' => wpAny_bind (wpAny_letTemporaryGo (wpAny_pure ⟨z, H, I3, rw', q⟩)))
  first
    | exact wpAny_pure (wpAny_bind fin)
    | exact wpAny_bind (wpAny_pure (wpAny_bind fin))
    | exact wpAny_bind fin
theorem ix_U (hu : X.A.units + 1 < cLine) : IxR X rIxU := by
  intro value slice pins s σ H x y v u Q I rx ry h hs
  rcases h with ⟨z, i, c, e1, e2, hz, hc, q⟩ | ⟨p, xs, i, z, e1, e2, hp, hc, q⟩ | ⟨p, xs, i, z, e1, e2, hp, hc, q⟩ | ⟨p, kvs, k, z, e1, e2, hp, hc, q⟩
  · exact ix_str value slice pins s σ H x y v u Q I rx ry ⟨z, i, c, e1, e2, hz, hc, q⟩ hs
  · exact ix_list value slice pins s σ H x y v u Q I rx ry ⟨p, xs, i, z, e1, e2, Or.inl (rd_lk hp), hc, q⟩ hs
  · exact ix_tup value slice pins s σ H x y v u Q I rx ry ⟨p, xs, i, z, e1, e2, Or.inl (rd_lk hp), hc, q⟩ hs
  · exact ix_dict hu value slice pins s σ H x y v u Q I rx ry ⟨p, kvs, k, z, e1, e2, rd_lk hp, hc, q⟩ hs
/-! ### in -/
def inS (x z : Str) : Bool := !(Builtin.Str.occurrences z x 0 z.length 1).isEmpty
theorem inS_sign (c : Nat) (z : Str) : inS ⟨#[c]⟩ z = decide (c ∈ z.cps.toList) := PySem.StrLaws.found_one z c
def rInU (neg : Bool) (x : V) (y : V) (H : Hp) (Q : VK) : Prop := (∃ a z, x = .str a ∧ y = .str z ∧ Q (.bl (neg ^^ inS a z)) H) ∨ (∃ p xs, y = .ref p ∧ lk (H p) = some (.lst xs) ∧ flatV x = true ∧ xs.all flatV = true ∧ Q (.bl (neg ^^ inV x xs)) H) ∨
  (∃ p xs, y = .ref p ∧ lk (H p) = some (.tup xs) ∧ flatV x = true ∧ xs.all flatV = true ∧ Q (.bl (neg ^^ inV x xs)) H) ∨ ∃ p kvs k, x = kV k ∧ y = .ref p ∧ lk (H p) = some (.dK kvs) ∧ Q (.bl (neg ^^ (valV kvs k).isSome)) H
theorem op_inU (hu : X.A.units + 1 < cLine) : OpR X (compareOp .In) (rInU false) := by
  intro pins s σ H x y v u Q I rx ry h
  rcases h with ⟨a, z, e1, e2, q⟩ | ⟨p, xs, e, hp, h1, h2, q⟩ | ⟨p, xs, e, hp, h1, h2, q⟩ | ⟨p, kvs, k, e1, e2, hp, q⟩
  · exact op_in_str pins s σ H x y v u Q I rx ry ⟨a, z, e1, e2, by simpa [inS] using q⟩
  · exact op_in_seq pins s σ H x y v u Q I rx ry ⟨p, xs, e, Or.inl (Or.inl (rd_lk hp)), h1, h2, by simpa using q⟩
  · exact op_in_seq pins s σ H x y v u Q I rx ry ⟨p, xs, e, Or.inr (Or.inl (rd_lk hp)), h1, h2, by simpa using q⟩
  · subst e1 e2
    cases ry
    exact d_in hu I (Or.inl ⟨kvs, k, rd_lk hp, rfl, rfl⟩) rx fun s3 I3 => ⟨.bl (valV kvs k).isSome, H, I3, rfl, by simpa using q⟩
theorem op_notInU (hu : X.A.units + 1 < cLine) : OpR X (compareOp .NotIn) (rInU true) := by
  intro pins s σ H x y v u Q I rx ry h
  rcases h with ⟨a, z, e1, e2, q⟩ | ⟨p, xs, e, hp, h1, h2, q⟩ | ⟨p, xs, e, hp, h1, h2, q⟩ | ⟨p, kvs, k, e1, e2, hp, q⟩
  · exact op_notin_str pins s σ H x y v u Q I rx ry ⟨a, z, e1, e2, by simpa [inS] using q⟩
  · exact op_notIn_seq pins s σ H x y v u Q I rx ry ⟨p, xs, e, Or.inl (Or.inl (rd_lk hp)), h1, h2, by simpa using q⟩
  · exact op_notIn_seq pins s σ H x y v u Q I rx ry ⟨p, xs, e, Or.inr (Or.inl (rd_lk hp)), h1, h2, by simpa using q⟩
  · subst e1 e2
    cases ry
    exact d_notIn hu I (Or.inl ⟨kvs, k, rd_lk hp, rfl, rfl⟩) rx fun s3 I3 => ⟨.bl (!(valV kvs k).isSome), H, I3, rfl, by simpa using q⟩
/-! ### ==, != of scalars, of a list and the empty list -/
theorem ne_nil_raw {a b : Addr} {items items2 : Array Value} {A : Around} {s : Shared} (hl : s.heap.IsList a items) (hb : s.heap.IsList b items2) (e : items2.size = 0) (hu : A.units < cLine) :
    SeqAt.RcNeAt A s (.ref a) (.ref b) (decide (items.size ≠ 0)) := by
  by_cases h : items.size = 0
  · have := SeqAt.RcNeAt.lists (e := fun _ => true) hl hb (by omega) hu (fun j h1 _ => by omega)
    simpa [h] using this
  · have := SeqAt.RcNeAt.lists_lengths hl hb (by simp; omega) hu
    simpa [h] using this
theorem eq_nil_raw {a b : Addr} {items items2 : Array Value} {A : Around} {s : Shared} (hl : s.heap.IsList a items) (hb : s.heap.IsList b items2) (e : items2.size = 0) (hu : A.units < cLine) :
    SeqAt.RcAt A s (.ref a) (.ref b) (decide (items.size = 0)) := by
  by_cases h : items.size = 0
  · have := SeqAt.RcAt.lists (e := fun _ => true) hl hb (by omega) hu (fun j h1 _ => by omega)
    simpa [h] using this
  · have := SeqAt.RcAt.lists_lengths hl hb (by simp; omega) hu
    simpa [h] using this
def rNilU (neg : Bool) (x : V) (y : V) (H : Hp) (Q : VK) : Prop := ∃ a b xs, x = .ref a ∧ y = .ref b ∧ lk (H a) = some (.lst xs) ∧ lk (H b) = some (.lst []) ∧ Q (.bl (neg ^^ decide (xs = []))) H
theorem op_neNil (hu : X.A.units < cLine) : OpR X (compareOp .NotEq) (rNilU true) := by
  intro pins s σ H x y v u Q I rx ry h
  obtain ⟨a, b, xs, rfl, rfl, ha, hb, q⟩ := h
  cases rx
  cases ry
  obtain ⟨its, rv, pl, hz⟩ := I.list (Or.inl (rd_lk ha))
  obtain ⟨its2, rv2, pl2, hz2⟩ := I.list (Or.inl (rd_lk hb))
  cases rv2
  have hl := rv.length
  exact ne_nil_raw pl.isList pl2.isList rfl hu X.prog X.w _ _ ⟨.bl _, H, I, rfl, by
    have e : (true ^^ decide (xs = [])) = decide (its.toArray.size ≠ 0) := by
      rw [List.size_toArray, ← hl]
      cases xs <;> simp
    rw [← e]
    exact q⟩
theorem op_eqNil (hu : X.A.units < cLine) : OpR X (compareOp .Eq) (rNilU false) := by
  intro pins s σ H x y v u Q I rx ry h
  obtain ⟨a, b, xs, rfl, rfl, ha, hb, q⟩ := h
  cases rx
  cases ry
  obtain ⟨its, rv, pl, hz⟩ := I.list (Or.inl (rd_lk ha))
  obtain ⟨its2, rv2, pl2, hz2⟩ := I.list (Or.inl (rd_lk hb))
  cases rv2
  have hl := rv.length
  exact eq_nil_raw pl.isList pl2.isList rfl hu X.prog X.w _ _ ⟨.bl _, H, I, rfl, by
    have e : (false ^^ decide (xs = [])) = decide (its.toArray.size = 0) := by
      rw [List.size_toArray, ← hl]
      cases xs <;> simp
    rw [← e]
    exact q⟩
/-! ### ==, != of dicts with flat values -/
def dEq (ks ls : List (Key × V)) : Bool := ks.length == ls.length && ks.all fun p => match valV ls p.1 with
  | some y => eqV p.2 y
  | none => false
theorem hits_gen {A : Around} {s : Shared} {ls : List (Key × V)} {vb : List (Key × Value)} (rb : KV ls vb) (fb : ∀ p ∈ ls, flatV p.2 = true) : ∀ {ks : List (Key × V)} {va : List (Key × Value)}, KV ks va → (∀ p ∈ ks, flatV p.2 = true) →
    PySem.W.KeqHits A s vb va (ks.all fun p => match valV ls p.1 with
      | some y => eqV p.2 y
      | none => false)
  | _, _, .nil, _ => .nil
  | (k, x) :: ks, (k', v) :: va, .cons h t, f => by
    obtain ⟨rfl, rx⟩ := h
    have ih := hits_gen (A := A) (s := s) rb fb t (fun p hp => f p (List.mem_cons_of_mem _ hp))
    have fx : flatV x = true := f (k, x) List.mem_cons_self
    rw [List.all_cons]
    have rk := rb.val k
    cases e : valV ls k with
    | none =>
      rw [e] at rk
      have hn : valueAt vb k = none := RelO.none_of rk
      simp only [e, Bool.false_and]
      exact .miss hn
    | some y =>
      rw [e] at rk
      obtain ⟨u, hu, ru⟩ := rk.some_of
      have fy : flatV y = true := by
        unfold valV at e
        obtain ⟨q, hq, rfl⟩ := Option.map_eq_some_iff.mp e
        exact fb q (List.mem_of_find?_eq_some hq)
      simp only [e]
      exact .hit hu (eqAt_V rx ru fx fy) ih
def rDEqU (neg : Bool) (x y : V) (H : Hp) (Q : VK) : Prop := ∃ a b ks ls, x = .ref a ∧ y = .ref b ∧ lk (H a) = some (.dK ks) ∧ lk (H b) = some (.dK ls) ∧ (∀ p ∈ ks, flatV p.2 = true) ∧ (∀ p ∈ ls, flatV p.2 = true) ∧ Q (.bl (neg ^^ dEq ks ls)) H
theorem op_eqDict (hu : X.A.units < cLine) : OpR X (compareOp .Eq) (rDEqU false) := by
  intro pins s σ H x y v u Q I rx ry h
  obtain ⟨a, b, ks, ls, rfl, rfl, ea, eb, fa, fb, q⟩ := h
  cases rx
  cases ry
  obtain ⟨_, ya, va, ra, da⟩ := dk_rd I.hok (rd_lk ea)
  obtain ⟨_, yb, vb, rb, db⟩ := dk_rd I.hok (rd_lk eb)
  refine PySem.W.keq_eq (knd := mixKind X.prog X.w) ya yb da db hu (fun _ => hits_gen rb fb ra fa) (fin_bl I q ?_)
  rw [Bool.false_xor, ← KV.length ra, ← KV.length rb]
  rfl
theorem op_neDict (hu : X.A.units < cLine) : OpR X (compareOp .NotEq) (rDEqU true) := by
  intro pins s σ H x y v u Q I rx ry h
  obtain ⟨a, b, ks, ls, rfl, rfl, ea, eb, fa, fb, q⟩ := h
  cases rx
  cases ry
  obtain ⟨_, ya, va, ra, da⟩ := dk_rd I.hok (rd_lk ea)
  obtain ⟨_, yb, vb, rb, db⟩ := dk_rd I.hok (rd_lk eb)
  refine PySem.W.keq_ne (knd := mixKind X.prog X.w) ya yb da db hu (fun _ => hits_gen rb fb ra fa) (fin_bl I q ?_)
  rw [Bool.true_xor, ← KV.length ra, ← KV.length rb]
  rfl
def rEqU (x y : V) (H : Hp) (Q : VK) : Prop := rEq x y H Q ∨ rNilU false x y H Q ∨ rDEqU false x y H Q
def rNeU (x y : V) (H : Hp) (Q : VK) : Prop := rNe x y H Q ∨ rNilU true x y H Q ∨ rDEqU true x y H Q
theorem op_eqU (hu : X.A.units < cLine) : OpR X (compareOp .Eq) rEqU := op_eq.or ((op_eqNil hu).or (op_eqDict hu))
theorem op_neU (hu : X.A.units < cLine) : OpR X (compareOp .NotEq) rNeU := op_ne.or ((op_neNil hu).or (op_neDict hu))
def rMax2U (xs : List V) (H : Hp) (Q : VK) : Prop := ∃ i j, xs = [.int i, .int j] ∧ Q (.int (max i j)) H
def rMin2U (xs : List V) (H : Hp) (Q : VK) : Prop := ∃ i j, xs = [.int i, .int j] ∧ Q (.int (min i j)) H
theorem call_max2U (hc : X.calm = true) : CallR X (.builtin "max") rMax2U := by
  intro pins s σ H xs us Q I r h
  obtain ⟨i, j, e, q⟩ := h
  refine call_max2 hc pins s σ H xs us Q I r ⟨i, j, e, ?_⟩
  have e2 : (if j > i then j else i) = max i j := by split <;> omega
  rw [e2]
  exact q
theorem call_min2U (hc : X.calm = true) : CallR X (.builtin "min") rMin2U := by
  intro pins s σ H xs us Q I r h
  obtain ⟨i, j, e, q⟩ := h
  refine call_min2 hc pins s σ H xs us Q I r ⟨i, j, e, ?_⟩
  have e2 : (if j < i then j else i) = min i j := by split <;> omega
  rw [e2]
  exact q
def rInt1U (xs : List V) (H : Hp) (Q : VK) : Prop := (∃ i, xs = [.int i] ∧ Q (.int i) H) ∨ ∃ k, xs = [.bl k] ∧ Q (.int (if k then 1 else 0)) H
theorem call_int1U : CallR X (.type "int") rInt1U := call_int1
def rAbsU (xs : List V) (H : Hp) (Q : VK) : Prop := ∃ i : Int, xs = [.int i] ∧ Q (.int (i.natAbs : Nat)) H
theorem call_absU : CallR X (.builtin "abs") rAbsU := by
  intro pins s σ H xs us Q I r h
  obtain ⟨i, e, q⟩ := h
  refine call_abs pins s σ H xs us Q I r ⟨i, e, ?_⟩
  have e2 : (if i < 0 then -i else i) = (i.natAbs : Int) := by split <;> omega
  rw [e2]
  exact q
/-! ### +, * -/
def rAddU (x : V) (y : V) (H : Hp) (Q : VK) : Prop := (∃ i j, x = .int i ∧ y = .int j ∧ Q (.int (i + j)) H) ∨ (∃ i j, x = .str i ∧ y = .str j ∧ i.length + j.length ≤ sizeLine ∧ Q (.str (i ++ j)) H) ∨
  ∃ l b xs zs, x = .ref l ∧ y = .ref b ∧ H l = some (.lst xs) ∧ H b = some (.lst zs) ∧ xs.length + zs.length ≤ sizeLine ∧ ∀ p, H p = none → Q (.ref p) (upd H p (.lst (xs ++ zs)))
theorem op_addU : OpR X (binaryOp .Add) rAddU := op_add.or (op_add_str.or op_cat)
def rMulU (x : V) (y : V) (H : Hp) (Q : VK) : Prop := (∃ i j, x = .int i ∧ y = .int j ∧ CMulW i j ∧ Q (.int (i * j)) H) ∨ ∃ l k xs, x = .ref l ∧ y = .int k ∧ H l = some (.lst xs) ∧ -(2 ^ 63) ≤ k ∧ k < 2 ^ 63 ∧ xs.length * k.toNat ≤ sizeLine ∧
    ∀ p, H p = none → Q (.ref p) (upd H p (.lst (List.replicate k.toNat xs).flatten))
theorem op_mulU : OpR X (binaryOp .Mult) rMulU := op_mulW.or op_rep
/-! ### list, tuple, dict of pairs, sum, all, any -/
def rListU (vs : List V) (H : Hp) (Q : VK) : Prop := (∃ x, vs = [.str x] ∧ x.length ≤ 16777216 ∧ ∀ p, H p = none → Q (.ref p) (upd H p (.lst (signsV x)))) ∨ (∃ a xs, vs = [.ref a] ∧ lk (H a) = some (.lst xs) ∧ ∀ p, H p = none → Q (.ref p) (upd H p (.lst xs))) ∨
  (∃ a xs, vs = [.ref a] ∧ lk (H a) = some (.tup xs) ∧ ∀ p, H p = none → Q (.ref p) (upd H p (.lst xs))) ∨
  ∃ a kvs, vs = [.ref a] ∧ lk (H a) = some (.dK kvs) ∧ ∀ p, H p = none → Q (.ref p) (upd H p (.lst (kvs.map fun kv => kV kv.1)))
theorem call_listU (hc : X.calm = true) : CallR X (.type "list") rListU := by
  intro pins s σ H xs us Q I r h
  rcases h with ⟨x, e, hz, q⟩ | ⟨a, ys, e, ha, q⟩ | ⟨a, ys, e, ha, q⟩ | ⟨a, ys, e, ha, q⟩
  · exact call_list_strG hc pins s σ H xs us Q I r ⟨x, e, hz, q⟩
  · exact call_list_of pins s σ H xs us Q I r ⟨a, ys, e, Or.inl (Or.inl (rd_lk ha)), q⟩
  · exact call_list_of pins s σ H xs us Q I r ⟨a, ys, e, Or.inr (Or.inl (rd_lk ha)), q⟩
  · exact call_listD hc pins s σ H xs us Q I r ⟨a, ys, e, rd_lk ha, q⟩
def rTupU (vs : List V) (H : Hp) (Q : VK) : Prop := (∃ a xs, vs = [.ref a] ∧ lk (H a) = some (.lst xs) ∧ ∀ p, H p = none → Q (.ref p) (upd H p (.tup xs))) ∨ ∃ a xs, vs = [.ref a] ∧ lk (H a) = some (.tup xs) ∧ Q (.ref a) H
theorem call_tupU : CallR X (.type "tuple") rTupU := by
  intro pins s σ H xs us Q I r h
  rcases h with ⟨a, ys, e, ha, q⟩ | ⟨a, ys, e, ha, q⟩
  · exact call_tuple_of pins s σ H xs us Q I r ⟨a, ys, e, Or.inl ⟨Or.inl (rd_lk ha), q⟩⟩
  · exact call_tuple_of pins s σ H xs us Q I r ⟨a, ys, e, Or.inr ⟨Or.inl (rd_lk ha), q⟩⟩
def rSumU (vs : List V) (H : Hp) (Q : VK) : Prop := ∃ a xs, vs = [.ref a] ∧ lk (H a) = some (.lst xs) ∧ ∃ ns : List Int, xs = ns.map V.int ∧ Q (.int ns.sum) H
theorem call_sumU (hc : X.calm = true) : CallR X (.builtin "sum") rSumU := by
  intro pins s σ H xs us Q I r h
  obtain ⟨a, ys, e, ha, ns, rfl, q⟩ := h
  exact cr_sum hc pins s σ H xs us Q I r ⟨a, ns, e, Or.inl (rd_lk ha), q⟩
def rAllU (vs : List V) (H : Hp) (Q : VK) : Prop := ∃ a xs, vs = [.ref a] ∧ lk (H a) = some (.lst xs) ∧ ∃ ns : List Bool, xs = ns.map V.bl ∧ Q (.bl (ns.all id)) H
def rAnyU (vs : List V) (H : Hp) (Q : VK) : Prop := ∃ a xs, vs = [.ref a] ∧ lk (H a) = some (.lst xs) ∧ ∃ ns : List Bool, xs = ns.map V.bl ∧ Q (.bl (ns.any id)) H
theorem call_allU (hc : X.calm = true) : CallR X (.builtin "all") rAllU := by
  intro pins s σ H xs us Q I r h
  obtain ⟨a, ys, e, ha, ns, rfl, q⟩ := h
  exact cr_all hc pins s σ H xs us Q I r ⟨a, ns, e, Or.inl (rd_lk ha), q⟩
theorem call_anyU (hc : X.calm = true) : CallR X (.builtin "any") rAnyU := by
  intro pins s σ H xs us Q I r h
  obtain ⟨a, ys, e, ha, ns, rfl, q⟩ := h
  exact cr_any hc pins s σ H xs us Q I r ⟨a, ns, e, Or.inl (rd_lk ha), q⟩
/-- dict([(k, v), ..]) -/
def PairedT (H : Hp) : List V → List (Key × V) → Prop := Paired fun p kv => ∃ t, p = V.ref t ∧ H t = some (.tup [kV kv.1, kv.2])
def rDictU (vs : List V) (H : Hp) (Q : VK) : Prop := ∃ a xs, vs = [.ref a] ∧ lk (H a) = some (.lst xs) ∧ ∃ kvs, PairedT H xs kvs ∧ ∀ p, H p = none → Q (.ref p) (upd H p (.dK (mergeK [] kvs)))
theorem PairedT.split {K : PySem.W.Frag} {H : Hp} : ∀ {xs : List V} {kvs : List (Key × V)}, PairedT H xs kvs → ∃ ps : List Addr, xs = ps.map V.ref ∧ Paired (fun p kv => SqT K H p [kV kv.1, kv.2]) ps kvs
  | _, _, .nil => ⟨[], rfl, .nil⟩
  | _, _, .cons ⟨t, e, h⟩ r => by
    obtain ⟨ps, e2, h2⟩ := PairedT.split r
    exact ⟨t :: ps, by rw [e, e2]; rfl, .cons (Or.inl (Or.inl h)) h2⟩
theorem call_dictU (hc : X.calm = true) : CallR X (.type "dict") rDictU := by
  intro pins s σ H xs us Q I r h
  obtain ⟨a, ys, e, ha, kvs, hp, q⟩ := h
  obtain ⟨ps, rfl, h2⟩ := hp.split (K := X.K)
  exact call_dictP hc pins s σ H xs us Q I r ⟨a, ps, kvs, e, Or.inl (rd_lk ha), h2, q⟩
/-! ### slices -/
def rSlU (x : V) (lo : Option Int) (hi : Option Int) (H : Hp) (Q : VK) : Prop := (∃ a xs, x = .ref a ∧ lk (H a) = some (.lst xs) ∧ ∀ p, H p = none → Q (.ref p) (upd H p (.lst (cutV xs lo hi)))) ∨
  ∃ z, x = .str z ∧ z.length ≤ sizeLine ∧ Q (.str (cutS z lo hi)) H
theorem sl_U : SlR X rSlU := by
  intro pins s σ H x v vl vu lo hi sl Q I rx hs pl pu h
  rcases h with ⟨a, xs, e, ha, q⟩ | ⟨z, e, hz, q⟩
  · exact sl_list pins s σ H x v vl vu lo hi sl Q I rx hs pl pu ⟨a, xs, e, Or.inl (rd_lk ha), q⟩
  · exact sl_str pins s σ H x v vl vu lo hi sl Q I rx hs pl pu ⟨z, e, hz, q⟩
/-! ### isinstance with types of the language -/
def tyO : Option HO → Option String
  | some (.lst _) => some "list" | some (.tup _) => some "tuple" | some (.dK _) => some "dict" | some (.dT _) => some "dict"
  | some (.frz _ (.lst _)) => some "list" | some (.frz _ (.tup _)) => some "tuple" | some (.frz _ (.dK _)) => some "dict" | _ => none
theorem tyO_lst {xs : List V} : tyO (some (.lst xs)) = some "list" := rfl
theorem tyO_tup {xs : List V} : tyO (some (.tup xs)) = some "tuple" := rfl
theorem tyO_dK {xs : List (Key × V)} : tyO (some (.dK xs)) = some "dict" := rfl
theorem tyO_flst {o : Obj} {xs : List V} : tyO (some (.frz o (.lst xs))) = some "list" := rfl
theorem tyO_ftup {o : Obj} {xs : List V} : tyO (some (.frz o (.tup xs))) = some "tuple" := rfl
theorem tyO_fdK {o : Obj} {xs : List (Key × V)} : tyO (some (.frz o (.dK xs))) = some "dict" := rfl
def tyName (H : Hp) : V → Option String
  | .non => some "NoneType" | .bl _ => some "bool" | .int _ => some "int" | .str _ => some "str"
  | .ref a => tyO (H a)
  | _ => none
theorem tyN_non {H : Hp} : tyName H .non = some "NoneType" := rfl
theorem tyN_bl {H : Hp} {b : Bool} : tyName H (.bl b) = some "bool" := rfl
theorem tyN_int {H : Hp} {i : Int} : tyName H (.int i) = some "int" := rfl
theorem tyN_str {H : Hp} {x : Str} : tyName H (.str x) = some "str" := rfl
theorem tyN_ref {H : Hp} {a : Addr} : tyName H (.ref a) = tyO (H a) := rfl
def isT (a b : String) : Bool := a == b || (a == "bool" && b == "int")
def tyNames : List String := ["NoneType", "bool", "int", "str", "list", "tuple", "dict"]
def tyAsk : List String := ["bool", "int", "str", "list", "tuple", "dict"]
theorem isT_kit : ∀ a ∈ tyNames, ∀ b ∈ tyAsk, kitB a b = some (isT a b) := by decide +kernel
theorem tyName_ok {K : PySem.W.Frag} {H : Hp} {x : V} {t : String} (h : tyName H x = some t) : TyX K H x (.type t) ∧ t ∈ tyNames := by
  cases x with
  | non => cases (Option.some.inj h); exact ⟨.base .non, by decide⟩
  | bl b => cases (Option.some.inj h); exact ⟨.base (.bl b), by decide⟩
  | int i => cases (Option.some.inj h); exact ⟨.base (.int i), by decide⟩
  | str z => cases (Option.some.inj h); exact ⟨.base (.str z), by decide⟩
  | ref a =>
    rw [tyN_ref] at h
    unfold tyO at h
    split at h <;> first | (cases h; done) | skip
    all_goals (rename_i e; cases (Option.some.inj h))
    · exact ⟨.base (.lst e), by decide⟩
    · exact ⟨.base (.tup e), by decide⟩
    · exact ⟨.base (.dK e), by decide⟩
    · exact ⟨.base (.dT e), by decide⟩
    · exact ⟨.base (.frz e), by decide⟩
    · exact ⟨.fTuple e, by decide⟩
    · exact ⟨.fDict e, by decide⟩
  | _ => cases h
def rIsiU (vs : List V) (H : Hp) (Q : VK) : Prop := ∃ x n t, vs = [x, .ty n] ∧ tyName H x = some t ∧ n ∈ tyAsk ∧ Q (.bl (isT t n)) H
theorem call_isiU : CallR X (.builtin "isinstance") rIsiU := by
  intro pins s σ H xs us Q I r h
  obtain ⟨x, n, t, e, ht, hn, q⟩ := h
  obtain ⟨h1, h2⟩ := tyName_ok (K := X.K) ht
  exact call_isi pins s σ H xs us Q I r ⟨x, .ty n, .type t, .type n, isT t n, e, .ty n, h1, kit_ty (isT_kit t h2 n hn), q⟩
def tyList : List V → Option (List String)
  | [] => some []
  | .ty n :: r => (tyList r).map (n :: ·)
  | _ :: _ => none
def rIsiTU (vs : List V) (H : Hp) (Q : VK) : Prop := ∃ x tp cs ns t, vs = [x, .ref tp] ∧ H tp = some (.tup cs) ∧ tyList cs = some ns ∧ tyName H x = some t ∧ (∀ n ∈ ns, n ∈ tyAsk) ∧ Q (.bl (ns.any (isT t))) H
theorem tyList_ok {K : PySem.W.Frag} {t : String} (ht : t ∈ tyNames) : ∀ {cs : List V} {ns : List String}, tyList cs = some ns → (∀ n ∈ ns, n ∈ tyAsk) →
    ∃ us, Paired ClsV cs us ∧ PySem.W.kitAny K (.type t) us = some (ns.any (isT t))
  | [], ns, h, _ => by cases (Option.some.inj h); exact ⟨[], .nil, rfl⟩
  | .ty n :: r, ns, h, hn => by
    obtain ⟨ms, h1, rfl⟩ := Option.map_eq_some_iff.mp (show (tyList r).map (n :: ·) = some ns from h)
    obtain ⟨us, p, k⟩ := tyList_ok (K := K) ht h1 fun m hm => hn m (List.mem_cons_of_mem _ hm)
    refine ⟨.type n :: us, .cons (.ty n) p, kitAny_cons (kit_ty (isT_kit t ht n (hn n List.mem_cons_self))) (fun e => ?_) fun e => ?_⟩
    · rw [k, List.any_cons, e, Bool.false_or]
    · rw [List.any_cons, e, Bool.true_or]
  | .non :: _, _, h, _ | .bl _ :: _, _, h, _ | .int _ :: _, _, h, _ | .str _ :: _, _, h, _ | .byt _ :: _, _, h, _ | .flt _ :: _, _, h, _ | .ref _ :: _, _, h, _ => nomatch h
theorem call_isiTU : CallR X (.builtin "isinstance") rIsiTU := by
  intro pins s σ H xs us Q I r h
  obtain ⟨x, tp, cs, ns, t, e, hp, hl, ht, hn, q⟩ := h
  obtain ⟨h1, h2⟩ := tyName_ok (K := X.K) ht
  obtain ⟨ws, p, k⟩ := tyList_ok (K := X.K) h2 hl hn
  exact call_isiT pins s σ H xs us Q I r ⟨x, tp, cs, .type t, ws, _, e, hp, p, h1, k, q⟩
/-! ### methods that read another list -/
def rExtU (x : V) (vs : List V) (H : Hp) (Q : VK) : Prop := ∃ l b xs zs, x = .ref l ∧ vs = [.ref b] ∧ H l = some (.lst xs) ∧ H b = some (.lst zs) ∧ xs.length + zs.length ≤ sizeLine ∧ Q .non (upd H l (.lst (xs ++ zs)))
/-- '..'.join(list of texts) -/
def rJoinU (x : V) (vs : List V) (H : Hp) (Q : VK) : Prop := ∃ a p xs, x = .str a ∧ vs = [.ref p] ∧ lk (H p) = some (.lst xs) ∧ ∃ ys : List Str, xs = ys.map V.str ∧ (ys.map (·.length)).sum + ys.length * a.length ≤ 16777216 ∧ Q (.str (Txt.join a ys)) H
theorem mt_joinU : MtR X "str.join" rJoinU := by
  intro pins s σ H x xs v us Q I rx rv h
  obtain ⟨a, p, xs', e1, e2, hp, ys, rfl, hz, q⟩ := h
  exact mt_join pins s σ H x xs v us Q I rx rv ⟨a, p, ys, e1, e2, Or.inl (Or.inl (rd_lk hp)), hz, q⟩
end

/-! ### sum(d.values()) -/
section
variable {X : Cx} {o : Expr} {p pos apos mpos : Pos} {td : TE}
theorem preSum_getD (is : List Int) : ∀ n, n ≤ is.length → preSum (fun i => is.getD i 0) n = (is.take n).sum
  | 0, _ => by simp [preSum]
  | n + 1, h => by
    have hn : n < is.length := h
    rw [preSum, preSum_getD is n (Nat.le_of_lt hn), List.take_succ_eq_append_getElem hn, List.sum_append]
    simp [List.getD_eq_getElem?_getD, hn]
def tSumVals (td : TE) : TE := fun σ H Q => td σ H fun x H1 => ∃ a kvs, x = V.ref a ∧ H1 a = some (.dK kvs) ∧ ∃ is : List Int, kvs.map (·.2) = is.map V.int ∧ Q (.int is.sum) H1
theorem pe_sumVals (hc : X.calm = true) (hg : Gl X "sum") (hm : X.mg "sum" = none) (hd : PE X o td) (hbase : attributeBase o "values" X.env (eval o X.env) = eval o X.env := by rfl) (hline : (apos.endLine == mpos.line) = true := by rfl)
    (hse : starEach [Expr.Call (.Attribute o "values" apos) [] [] mpos] X.env = [(false, eval (Expr.Call (.Attribute o "values" apos) [] [] mpos) X.env)] := by rfl) :
    PE X (.Call (.Name "sum" p) [.Call (.Attribute o "values" apos) [] [] mpos] [] pos) (tSumVals td) := by
  refine ⟨fun pins s σ H Q I h => ?_⟩
  refine wpAny_Call_Name_kw (ld_blt I hg hm (u := .builtin "sum") (by first | rfl | decide +kernel) ?_ (by first | decide +kernel | decide) (by first | decide +kernel | decide))
  rw [hse]
  refine PySem.callWith_builtin1 (wpAny_Call_method0_late hbase hline (thn (hd.run pins s σ H _ I h) fun v s1 h1 => ?_))
  obtain ⟨x, H1, I1, r1, a, kvs, rfl, ha, is, hv, q⟩ := h1
  obtain rfl : v = Value.ref a := r1
  obtain ⟨_, hsys, vs, rel, dof⟩ := dk_of I1.hok ha
  obtain ⟨ep, dat⟩ := dof.dictAt
  obtain ⟨ob, es, ho, ex, hdat, hko, hpr, hnd⟩ := id dat
  refine ⟨"dict", "dict.values", F.plainAttrs_dict, F.slot_dict_values, F.type_dict_values, ⟨ob, ho, ex.1⟩, fun b e => ?_, Calls.callWith_builtin rfl (PySem.evalArgs_none ?_)⟩
  · cases e
    exact ⟨ob, ho, ex.2.1⟩
  refine call_meetsIn F.slot_dict_values ⟨ob, ho, ex.1⟩ F.entry_dict_values (F.args_dict_values_1 _) (meets_dict_values (mixKind X.prog X.w) a hsys) ⟨⟨vs, dof⟩, ?_⟩
  obtain ⟨vo, hvo⟩ : ∃ vo : Obj, vo = { cls := .type "dict_values", data := .fields #[.ref a] } := ⟨_, rfl⟩
  rw [← hvo]
  have old : ∀ b u, s1.heap.get? b = some u → (s1.heap.push vo).get? b = some u := fun b u e => Heap.get?_push_of_some _ e
  have hlv : vs.length = is.length := by
    have e1 := congrArg List.length hv
    rw [List.length_map, List.length_map] at e1
    exact (KV.length rel).symm.trans e1
  have hval : ∀ (i : Nat) (v : Value), (∃ k, vs[i]? = some (k, v)) → ∃ t, v = Value.int (is.getD i 0) t := by
    rintro i v ⟨k, hk⟩
    obtain ⟨x, h1, h2⟩ := KV.at' rel hk
    have e1 : (kvs.map (·.2))[i]? = some x := by rw [List.getElem?_map, h1]; rfl
    rw [hv, List.getElem?_map] at e1
    obtain ⟨j, hj, rfl⟩ := Option.map_eq_some_iff.mp e1
    obtain ⟨t, rfl⟩ := h2
    exact ⟨t, by rw [List.getD_eq_getElem?_getD, hj]; rfl⟩
  refine call_sum_walkG (wpAny_pyIter_values (v := s1.heap.objs.size) (d := a) ⟨vo, Heap.get?_push_size _ (by rw [hvo]; rfl), by rw [hvo], by rw [hvo]⟩ (dat.keep old) ?_)
  have lt : a < s1.heap.objs.size := Heap.lt_size ho
  have sz : (s1.heap.push vo).objs.size = s1.heap.objs.size + 1 := Heap.size_push _ _
  refine ⟨_, _, _, _, _, _, fun i => is.getD i 0, rfl, Walks.dictValues (knd := mixKind X.prog X.w) (A := X.A.in1) (I.ok.hd hc) (s1.heap.push vo).objs.size a (by rw [sz]; exact Nat.ne_of_lt (Nat.lt_succ_of_lt lt)) vs ep,
    ⟨⟨_, Heap.get?_push_size _ rfl, rfl, rfl⟩, (dat.keep old).keep fun b u e => Heap.get?_push_of_some _ e⟩, fun b hb => ?_, hval, fun h' tk t' hk => ?_⟩
  · show b < ((s1.heap.push vo).push _).objs.size
    rw [Heap.size_push, sz]
    rcases List.mem_cons.mp hb with e | hb
    · rw [e, sz]; exact Nat.lt_succ_self _
    · rw [List.mem_singleton.mp hb]; exact Nat.lt_succ_of_lt (Nat.lt_succ_of_lt lt)
  · refine ⟨.int _, H1, I1.kept (t' := tk) fun b u e => hk b u (fun hmem => ?_) (Heap.get?_push_of_some _ (old b u e)), ⟨t', rfl⟩, ?_⟩
    · have e1 : b = (s1.heap.push vo).objs.size := List.mem_singleton.mp hmem
      have e2 := Heap.lt_size e
      rw [e1, sz] at e2
      exact absurd e2 (Nat.not_lt.mpr (Nat.le_succ _))
    · rw [hlv, preSum_getD is _ (Nat.le_refl _), List.take_length]
      exact q
end
end G

set_option Elab.async false
set_option linter.all false
set_option maxRecDepth 100000
set_option maxHeartbeats 4000000
/-! Loops and comprehensions over a list of items known beforehand. -/
namespace G
open PySem PySem.Spec PyProof.Rows L2

/-! ### what runs, said of the run itself (so that what follows may be weakened) -/
def semE (X : Cx) (e : Expr) : TE := fun σ H Q => ∀ pins s, Inv X pins σ H s → wpAny (model X.prog X.w) X.A (eval e X.env) (EP X pins σ Q) X.xe s
def semI (X : Cx) (tg iter : Expr) : TI := fun σ H R => ∀ pins s, Inv X pins σ H s → wpAny (model X.prog X.w) X.A (eval iter X.env) (fun v s1 => wpAny (model X.prog X.w) X.A (pyIter v) (PIE X pins σ tg R) X.xe s1) X.xe s
def semG (X : Cx) (tg : Expr) : TG := fun x σ H Q => ∀ pins s u, Inv X pins σ H s → RelV x u → wpAny (model X.prog X.w) X.A (assign tg X.env u) (fun _ s' => ∃ σ' H', Inv X pins σ' H' s' ∧ Q σ' H') X.xe s
def semT (X : Cx) (ifs : List Expr) : TT := fun σ H Q => ∀ pins s, Inv X pins σ H s →
  wpAny (model X.prog X.w) X.A (forIn ifs true fun c r => if r = true then do let ok ← isTrue c X.env (eval c X.env); pure (ForInStep.yield ok) else pure (ForInStep.yield r)) (TP X pins σ Q) X.xe s
def semA (X : Cx) (es : List Expr) : TA := fun σ H Q => ∀ pos pins s, Inv X pins σ H s → wpAny (model X.prog X.w) X.A (spliced (backTo pos (starEach es X.env))) (AP X pins σ Q) X.xe s
section
variable {X : Cx} {e iter tg : Expr} {es ifs : List Expr} {σ : L2.St} {H : Hp}
theorem pa_sem : PA X es (semA X es) := ⟨fun pos pins s _ _ _ I h => h pos pins s I⟩
theorem semA.of {t : TA} {Q Q' : List V → Hp → Prop} (h : PA X es t) (q : t σ H Q) (k : ∀ v H', Q v H' → Q' v H') : semA X es σ H Q' := fun pos pins s I =>
  thn (h.run pos pins s σ H Q I q) fun _ _ ⟨v, H', I', r, q'⟩ => ⟨v, H', I', r, k v H' q'⟩
theorem pe_sem : PE X e (semE X e) := ⟨fun pins s _ _ _ I h => h pins s I⟩
theorem pi_sem : PI X tg iter (semI X tg iter) := ⟨fun pins s _ _ _ I h => h pins s I⟩
theorem pg_sem : PG X tg (semG X tg) := ⟨fun pins s _ _ _ u _ I r h => h pins s u I r⟩
theorem pts_sem : PTs X ifs (semT X ifs) := ⟨fun pins s _ _ _ I h => h pins s I⟩
theorem semE.of {t : TE} {Q Q' : VK} (h : PE X e t) (q : t σ H Q) (k : ∀ v H', Q v H' → Q' v H') : semE X e σ H Q' := fun pins s I =>
  thn (h.run pins s σ H Q I q) fun _ _ ⟨v, H', I', r, q'⟩ => ⟨v, H', I', r, k v H' q'⟩
theorem semI.of {t : TI} {R R' : It → Hp → Prop} (h : PI X tg iter t) (q : t σ H R) (k : ∀ J H', R J H' → R' J H') : semI X tg iter σ H R' := fun pins s I =>
  thn (h.run pins s σ H R I q) fun _ _ h1 => thn h1 fun _ _ ⟨it, fp, tn, J, H', e, I', T, st, f, q'⟩ => ⟨it, fp, tn, J, H', e, I', T, st, f, k J H' q'⟩
theorem semG.of {t : TG} {x : V} {Q Q' : L2.St → Hp → Prop} (h : PG X tg t) (q : t x σ H Q) (k : ∀ σ' H', Q σ' H' → Q' σ' H') : semG X tg x σ H Q' := fun pins s u I r =>
  thn (h.run pins s σ H x u Q I r q) fun _ _ ⟨σ', H', I', q'⟩ => ⟨σ', H', I', k σ' H' q'⟩
theorem semT.of {t : TT} {Q Q' : Bool → Hp → Prop} (h : PTs X ifs t) (q : t σ H Q) (k : ∀ b H', Q b H' → Q' b H') : semT X ifs σ H Q' := fun pins s I =>
  thn (h.run pins s σ H Q I q) fun _ _ ⟨H', I', q'⟩ => ⟨H', I', k _ H' q'⟩
end
/-- in a block, wherever it stands -/
abbrev Blks (X : Cx) (scope : Scope) (P : Cx → Prop) : Prop := ∀ (s : Shared) (H : Hp) (C : Addr) (cl : List (PySem.Str × Addr)) (fp : List Addr), P (X.blk s H scope (compEnvC scope cl C X.env) fp)
def bE (X : Cx) (scope : Scope) (e : Expr) : TE := fun σ H Q => Blks X scope fun B => semE B e σ H Q
def bG (X : Cx) (scope : Scope) (tg : Expr) : TG := fun x σ H Q => Blks X scope fun B => semG B tg x σ H Q
def bT (X : Cx) (scope : Scope) (ifs : List Expr) : TT := fun σ H Q => Blks X scope fun B => semT B ifs σ H Q
section
variable {X : Cx} {scope : Scope} {e tg : Expr} {ifs : List Expr} {σ : L2.St} {H : Hp}
theorem pe_b : Blks X scope fun B => PE B e (bE X scope e) := fun s0 H0 C cl fp => ⟨fun pins s _ _ _ I h => h s0 H0 C cl fp pins s I⟩
theorem pg_b : Blks X scope fun B => PG B tg (bG X scope tg) := fun s0 H0 C cl fp => ⟨fun pins s _ _ _ u _ I r h => h s0 H0 C cl fp pins s u I r⟩
theorem pts_b : Blks X scope fun B => PTs B ifs (bT X scope ifs) := fun s0 H0 C cl fp => ⟨fun pins s _ _ _ I h => h s0 H0 C cl fp pins s I⟩
theorem bE.of {t : TE} {Q Q' : VK} (h : Blks X scope fun B => PE B e t) (q : t σ H Q) (k : ∀ v H', Q v H' → Q' v H') : bE X scope e σ H Q' := fun s0 H0 C cl fp => semE.of (h s0 H0 C cl fp) q k
theorem bG.of {t : TG} {x : V} {Q Q' : L2.St → Hp → Prop} (h : Blks X scope fun B => PG B tg t) (q : t x σ H Q) (k : ∀ σ' H', Q σ' H' → Q' σ' H') : bG X scope tg x σ H Q' := fun s0 H0 C cl fp => semG.of (h s0 H0 C cl fp) q k
theorem bT.of {t : TT} {Q Q' : Bool → Hp → Prop} (h : Blks X scope fun B => PTs B ifs t) (q : t σ H Q) (k : ∀ b H', Q b H' → Q' b H') : bT X scope ifs σ H Q' := fun s0 H0 C cl fp => semT.of (h s0 H0 C cl fp) q k
end

/-! ### the items of a walk -/
/-- J walks zs, while Gd stands; at z it gives what R tells -/
structure WZ {α : Type} (J : It) (zs : List α) (Gd : Hp → Prop) (R : α → Hp → V → Hp → Prop) : Prop where
  walk : Walk J zs.length Gd (fun i H x H' => ∃ z, zs[i]? = some z ∧ R z H x H')
def RVal {α : Type} (f : α → V) : α → Hp → V → Hp → Prop := fun z H x H' => H' = H ∧ x = f z
def RTup {α : Type} (f : α → List V) : α → Hp → V → Hp → Prop := fun z H x H' => ∃ T, x = .ref T ∧ H T = none ∧ H' = upd H T (.tup (f z))
abbrev TIZ (α : Type) := L2.St → Hp → (List α → (Hp → Prop) → (α → Hp → V → Hp → Prop) → Hp → Prop) → Prop
def PIZ {α : Type} (X : Cx) (tg iter : Expr) (wz : TIZ α) : Prop := ∀ σ H k, wz σ H k → semI X tg iter σ H fun J H1 => ∃ zs Gd R, WZ J zs Gd R ∧ k zs Gd R H1
section
variable {X : Cx} {tg e : Expr} {te : TE}
def zList (te : TE) : TIZ V := fun σ H k => te σ H fun x H1 => ∃ a xs, x = .ref a ∧ lk (H1 a) = some (.lst xs) ∧ k xs (fun H => lk (H a) = some (.lst xs)) (RVal id) H1
theorem z_list (he : PE X e te) : PIZ X tg e (zList te) := fun σ H k h =>
  semI.of (pi_list pe_sem) (semE.of he h fun v H1 ⟨a, xs, ea, ha, q⟩ => (⟨a, ea, ⟨xs, Or.inl (rd_lk ha)⟩, xs, _, RVal id, ⟨walk_list.mono (fun H hh => Or.inl (rd_lk hh)) fun i H x H' _ _ y => ⟨x, y.2, y.1, rfl⟩⟩, q⟩ : ∃ a, v = .ref a ∧ (∃ xs, SqL X.K H1 a xs) ∧ ∃ zs Gd R, WZ (Itl X.K a) zs Gd R ∧ k zs Gd R H1)) fun _ _ q => q
def zTup (te : TE) : TIZ V := fun σ H k => te σ H fun x H1 => ∃ a xs, x = .ref a ∧ lk (H1 a) = some (.tup xs) ∧ k xs (fun H => lk (H a) = some (.tup xs)) (RVal id) H1
theorem z_tup (he : PE X e te) : PIZ X tg e (zTup te) := fun σ H k h =>
  semI.of (pi_tup pe_sem) (semE.of he h fun v H1 ⟨a, xs, ea, ha, q⟩ => (⟨a, ea, ⟨xs, Or.inl (rd_lk ha)⟩, xs, _, RVal id, ⟨walk_tup.mono (fun H hh => Or.inl (rd_lk hh)) fun i H x H' _ _ y => ⟨x, y.2, y.1, rfl⟩⟩, q⟩ : ∃ a, v = .ref a ∧ (∃ xs, SqT X.K H1 a xs) ∧ ∃ zs Gd R, WZ (Itt X.K a) zs Gd R ∧ k zs Gd R H1)) fun _ _ q => q
/-- the signs of a text -/
def sgn (c : Nat) : V := .str ⟨#[c]⟩
def zStr (te : TE) : TIZ Nat := fun σ H k => te σ H fun v H1 => ∃ x, v = .str x ∧ k x.cps.toList (fun _ => True) (RVal sgn) H1
theorem z_str (he : PE X e te) : PIZ X tg e (zStr te) := fun σ H k h =>
  semI.of (pi_str pe_sem) (semE.of he h fun v H1 ⟨x, ea, q⟩ => (⟨x, ea, x.cps.toList, _, RVal sgn, ⟨by
    have w := walk_str (z := x)
    rw [← Array.length_toList] at w
    exact w.mono (fun _ _ => True.intro) fun i H v H' _ _ ⟨e1, c, hc, e2⟩ => ⟨c, by simpa using hc, e1, e2⟩⟩, q⟩ : ∃ x, v = .str x ∧ ∃ zs Gd R, WZ (Its x) zs Gd R ∧ k zs Gd R H1)) fun _ _ q => q
def intsZ (lo hi : Int) : List Int := (List.range (hi - lo).toNat).map fun i => lo + (i : Nat)
theorem wz_ints (lo : Int) (n : Nat) : WZ (Itr lo n) ((List.range n).map fun i => lo + (i : Nat)) (fun _ => True) (RVal V.int) := ⟨by
  have w := walk_range (lo := lo) (n := n)
  rw [List.length_map, List.length_range]
  exact w.mono (fun _ _ => True.intro) fun i H v H' hi _ ⟨e1, e2⟩ => ⟨lo + (i : Nat), by simp [hi], e1, e2⟩⟩
theorem intsZ_zero (j : Int) : intsZ 0 j = (List.range j.toNat).map fun i => 0 + ((i : Nat) : Int) := by unfold intsZ; rw [Int.sub_zero]
def zRng1 (ta : TA) : TIZ Int := fun σ H k => ta σ H fun vs H1 => ∃ j : Int, vs = [.int j] ∧ -(2 ^ 62) ≤ j ∧ j < 2 ^ 62 ∧ k (intsZ 0 j) (fun _ => True) (RVal V.int) H1
theorem z_rng1 {a : Expr} {ta : TA} {p pos : Pos} (hg : Gl X "range") (hm : X.mg "range" = none) (ha : PA X [a] ta) (hs : starEach [a] X.env = [(false, eval a X.env)] := by rfl) : PIZ X tg (.Call (.Name "range" p) [a] [] pos) (zRng1 ta) := fun σ H k h =>
  semI.of (pi_range1 hg hm pa_sem hs) (semA.of ha h fun v H1 ⟨j, ea, h1, h2, q⟩ => (⟨j, ea, h1, h2, intsZ 0 j, _, RVal V.int, by rw [intsZ_zero]; exact wz_ints 0 j.toNat, q⟩ :
    ∃ j : Int, v = [.int j] ∧ -(2 ^ 62) ≤ j ∧ j < 2 ^ 62 ∧ ∃ zs Gd R, WZ (Itr 0 j.toNat) zs Gd R ∧ k zs Gd R H1)) fun _ _ q => q
def zRng2 (ta : TA) : TIZ Int := fun σ H k => ta σ H fun vs H2 => ∃ i j : Int, vs = [.int i, .int j] ∧ (-(2 ^ 62) ≤ i ∧ i < 2 ^ 62 ∧ -(2 ^ 62) ≤ j ∧ j < 2 ^ 62) ∧ k (intsZ i j) (fun _ => True) (RVal V.int) H2
theorem z_rng2 {a b : Expr} {ta : TA} {p pos : Pos} (hg : Gl X "range") (hm : X.mg "range" = none) (ha : PA X [a, b] ta) (hs : starEach [a, b] X.env = [(false, eval a X.env), (false, eval b X.env)] := by rfl)
    (hs2 : starEach [b] X.env = [(false, eval b X.env)] := by rfl) : PIZ X tg (.Call (.Name "range" p) [a, b] [] pos) (zRng2 ta) := fun σ H k h =>
  semI.of (pi_range2 hg hm pa_sem hs hs2) (semA.of ha h fun v H2 ⟨i, j, ea, hh, q⟩ => (⟨i, j, ea, hh, intsZ i j, _, RVal V.int, wz_ints i _, q⟩ :
    ∃ i j : Int, v = [.int i, .int j] ∧ (-(2 ^ 62) ≤ i ∧ i < 2 ^ 62 ∧ -(2 ^ 62) ≤ j ∧ j < 2 ^ 62) ∧ ∃ zs Gd R, WZ (Itr i (j - i).toNat) zs Gd R ∧ k zs Gd R H2)) fun _ _ q => q
/-- enumerate of a text -/
def zEnumS (ta : TA) : TIZ (Nat × Nat) := fun σ H k => ta σ H fun vs H1 => ∃ x, vs = [.str x] ∧ k x.cps.toList.zipIdx (fun _ => True) (RTup fun z => [.int (z.2 : Nat), sgn z.1]) H1
theorem wz_enumS (x : Str) : WZ (ItN x.cps.size (enumY x)) x.cps.toList.zipIdx (fun _ => True) (RTup fun z => [.int (z.2 : Nat), sgn z.1]) := ⟨by
  rw [List.length_zipIdx, Array.length_toList]
  refine ⟨fun i _ hi _ => hi, fun _ _ => Nat.le_refl _, fun i H v H' hi _ ⟨T, e1, h1, e2⟩ => ⟨(x.cps.getD i 0, i), ?_, T, e1, h1, e2⟩⟩
  simp [List.getElem?_zipIdx, hi]⟩
theorem z_enumS {elts : List Expr} {kk : Nat} {p pos tpos : Pos} (hg : Gl X "enumerate") (hm : X.mg "enumerate" = none) {ta : TA} (ha : PA X [e] ta) (hs : starEach [e] X.env = [(false, eval e X.env)] := by rfl) :
    PIZ X (.Tuple elts kk tpos) (.Call (.Name "enumerate" p) [e] [] pos) (zEnumS ta) := fun σ H k h =>
  semI.of (pi_enumS hg hm pa_sem hs) (semA.of ha h fun v H1 ⟨x, ea, q⟩ => (⟨x, ea, _, _, _, wz_enumS x, q⟩ : ∃ x : Str, v = [.str x] ∧ ∃ zs Gd R, WZ (ItN x.cps.size (enumY x)) zs Gd R ∧ k zs Gd R H1)) fun _ _ q => q
/-- enumerate of a list -/
def zEnumL (ta : TA) : TIZ (V × Nat) := fun σ H k => ta σ H fun vs H1 => ∃ a xs, vs = [.ref a] ∧ lk (H1 a) = some (.lst xs) ∧ k xs.zipIdx (fun H => lk (H a) = some (.lst xs)) (RTup fun z => [.int (z.2 : Nat), z.1]) H1
theorem wz_enumL {K : PySem.W.Frag} (a : Addr) (xs : List V) : WZ (Ite K a) xs.zipIdx (fun H => lk (H a) = some (.lst xs)) (RTup fun z => [.int (z.2 : Nat), z.1]) := ⟨by
  rw [List.length_zipIdx]
  refine walk_enum.mono (fun H hh => Or.inl (rd_lk hh)) fun i H v H' hi _ ⟨T, x, y, e1, h1, e2, hx, hy⟩ => ⟨(y, i), ?_, T, e1, h1, ?_⟩
  · simp [List.getElem?_zipIdx, hy]
  · cases hx; exact e2⟩
theorem z_enumL {elts : List Expr} {kk : Nat} {p pos tpos : Pos} (hg : Gl X "enumerate") (hm : X.mg "enumerate" = none) {ta : TA} (ha : PA X [e] ta) (hs : starEach [e] X.env = [(false, eval e X.env)] := by rfl) :
    PIZ X (.Tuple elts kk tpos) (.Call (.Name "enumerate" p) [e] [] pos) (zEnumL ta) := fun σ H k h =>
  semI.of (pi_enum hg hm pa_sem hs) (semA.of ha h fun v H1 ⟨a, xs, ea, ha, q⟩ => (⟨a, xs, ea, Or.inl (rd_lk ha), _, _, _, wz_enumL a xs, q⟩ : ∃ a xs, v = [.ref a] ∧ SqL X.K H1 a xs ∧ ∃ zs Gd R, WZ (Ite X.K a) zs Gd R ∧ k zs Gd R H1)) fun _ _ q => q
/-- a dict that stands frozen: its keys, its values, both -/
def FrzD (H : Hp) (d : Addr) (kvs : List (Key × V)) : Prop := ∃ o, H d = some (.frz o (.dK kvs))
def zKeys (te : TE) : TIZ (Key × V) := fun σ H k => te σ H fun v H1 => ∃ d o kvs, v = .ref d ∧ H1 d = some (.frz o (.dK kvs)) ∧ k kvs (fun H => H d = some (.frz o (.dK kvs))) (RVal fun kv => kV kv.1) H1
theorem z_keys (he : PE X e te) : PIZ X tg e (zKeys te) := fun σ H k h =>
  semI.of (pi_keys pe_sem) (semE.of he h fun v H1 ⟨d, o, kvs, ea, ha, q⟩ => (⟨d, o, ea, Or.inl ⟨kvs, ha, kvs, _, _, ⟨walk_keys.mono (fun _ hh => hh) fun i H x H' _ _ ⟨e1, k, v, h1, e2⟩ => ⟨(k, v), h1, e1, e2⟩⟩, q⟩⟩ :
    ∃ d o, v = .ref d ∧ ((∃ kvs, H1 d = some (.frz o (.dK kvs)) ∧ ∃ zs Gd R, WZ (Itk d o kvs) zs Gd R ∧ k zs Gd R H1) ∨ ∃ kvs, H1 d = some (.frz o (.dT kvs)) ∧ ∃ zs Gd R, WZ (Itkt d o kvs) zs Gd R ∧ k zs Gd R H1))) fun _ _ q => q
def zVals (te : TE) : TIZ (Key × V) := fun σ H k => te σ H fun v H1 => ∃ d o kvs, v = .ref d ∧ H1 d = some (.frz o (.dK kvs)) ∧ k kvs (fun H => H d = some (.frz o (.dK kvs))) (RVal fun kv => kv.2) H1
theorem z_vals {apos cpos : Pos} (he : PE X e te) (hbase : attributeBase e "values" X.env (eval e X.env) = eval e X.env := by rfl) (hline : (apos.endLine == cpos.line) = true := by rfl) :
    PIZ X tg (.Call (.Attribute e "values" apos) [] [] cpos) (zVals te) := fun σ H k h =>
  semI.of (pi_values pe_sem hbase hline) (semE.of he h fun v H1 ⟨d, o, kvs, ea, ha, q⟩ => (⟨d, o, kvs, ea, ha, kvs, _, _, ⟨walk_values.mono (fun _ hh => hh) fun i H x H' _ _ ⟨e1, k, h1⟩ => ⟨(k, x), h1, e1, rfl⟩⟩, q⟩ :
    ∃ d o kvs, v = .ref d ∧ H1 d = some (.frz o (.dK kvs)) ∧ ∃ zs Gd R, WZ (Itd d o kvs) zs Gd R ∧ k zs Gd R H1)) fun _ _ q => q
def zItems (te : TE) : TIZ (Key × V) := fun σ H k => te σ H fun v H1 => ∃ d o kvs, v = .ref d ∧ H1 d = some (.frz o (.dK kvs)) ∧ k kvs (fun H => H d = some (.frz o (.dK kvs))) (RTup fun kv => [kV kv.1, kv.2]) H1
theorem z_items {elts : List Expr} {kk : Nat} {apos cpos tpos : Pos} (he : PE X e te) (hbase : attributeBase e "items" X.env (eval e X.env) = eval e X.env := by rfl) (hline : (apos.endLine == cpos.line) = true := by rfl) :
    PIZ X (.Tuple elts kk tpos) (.Call (.Attribute e "items" apos) [] [] cpos) (zItems te) := fun σ H k h =>
  semI.of (pi_items pe_sem hbase hline) (semE.of he h fun v H1 ⟨d, o, kvs, ea, ha, q⟩ => (⟨d, o, kvs, ea, ha, kvs, _, _, ⟨walk_items.mono (fun _ hh => hh) fun i H x H' hi _ ⟨T, a, b, e1, h1, e2, ha, hb⟩ => by
      have hk : kvs[i]? = some kvs[i] := by simp [hi]
      have ea : some (kV kvs[i].1) = some a := by rw [← ha]; simp [hk]
      have eb : some kvs[i].2 = some b := by rw [← hb]; simp [hk]
      cases (Option.some.inj ea)
      cases (Option.some.inj eb)
      exact ⟨kvs[i], hk, T, e1, h1, e2⟩⟩, q⟩ :
    ∃ d o kvs, v = .ref d ∧ H1 d = some (.frz o (.dK kvs)) ∧ ∃ zs Gd R, WZ (Iti d o kvs) zs Gd R ∧ k zs Gd R H1)) fun _ _ q => q
end

theorem split_at {α : Type} {zs : List α} {i : Nat} {z : α} (h : zs[i]? = some z) : zs = zs.take i ++ z :: zs.drop (i + 1) := by
  have hi : i < zs.length := (List.getElem?_eq_some_iff.mp h).1
  have e : zs[i] = z := (List.getElem?_eq_some_iff.mp h).2
  rw [← e, ← List.drop_eq_getElem_cons hi, List.take_append_drop]
theorem take_at {α : Type} {zs : List α} {i : Nat} {z : α} (h : zs[i]? = some z) : zs.take (i + 1) = zs.take i ++ [z] := by
  rw [List.take_succ, h]
  rfl

/-! ### for -/
/-- Pv: what stands before each turn, by the items behind and the items ahead -/
def LoopZ {α : Type} (zs : List α) (Gd : Hp → Prop) (R : α → Hp → V → Hp → Prop) (g : TG) (tb : TS) : TS := fun D σ H => ∃ Pv : List α → List α → L2.St → Hp → Prop,
  Pv [] zs σ H ∧ (∀ done rest σ H, done ++ rest = zs → Pv done rest σ H → Gd H) ∧
  (∀ done z rest σ H x H', done ++ z :: rest = zs → Pv done (z :: rest) σ H → R z H x H' → g x σ H' fun σ2 H2 => tb { D with nx := Pv (done ++ [z]) rest, ct := Pv (done ++ [z]) rest, bk := D.nx } σ2 H2) ∧
  ∀ σ H, Pv zs [] σ H → D.nx σ H
def tForZ {α : Type} (wz : TIZ α) (g : TG) (tb : TS) : TS := fun D σ H => wz σ H fun zs Gd R H1 => LoopZ zs Gd R g tb D σ H1
section
variable {X : Cx}
theorem ps_forZ {α : Type} {tg iter : Expr} {body : List Stmt} {wz : TIZ α} {g : TG} {tb : TS} {pos : Pos} (hp : PassesOwn (model X.prog X.w) X.A X.env X.xe) (hc : X.calm = true) (hi : PIZ X tg iter wz) (hg : PG X tg g) (hb : PSs X body tb)
    (hs : ∀ x, foldedSetIterable iter X.env x = pure x := by intro _; rfl) : PS X (.For tg iter body [] pos) (tForZ wz g tb) := by
  refine ⟨fun pins s σ H D I h => (ps_for hp hc pi_sem hg hb hs).run pins s σ H D I ?_⟩
  have h1 := hi σ H _ h
  refine semI.of pi_sem h1 fun J H1 ⟨zs, Gd, R, W, Pv, p0, hG, hstep, hend⟩ => ?_
  refine for_it W.walk (fun i σ H => Pv (zs.take i) (zs.drop i) σ H) (by simpa using p0) (fun i σ H hi p => hG _ _ σ H (List.take_append_drop i zs) p) ?_ ?_
  · intro i x σ H H' hi p hy
    obtain ⟨z, hz, r⟩ := hy
    have e := split_at hz
    have p' : Pv (zs.take i) (z :: zs.drop (i + 1)) σ H := by
      have e2 : zs.drop i = z :: zs.drop (i + 1) := by
        have hlt : i < zs.length := (List.getElem?_eq_some_iff.mp hz).1
        rw [List.drop_eq_getElem_cons hlt, (List.getElem?_eq_some_iff.mp hz).2]
      rw [← e2]; exact p
    have q := hstep (zs.take i) z (zs.drop (i + 1)) σ H x H' e.symm p' r
    show g x σ H' fun σ2 H2 => tb { D with nx := fun σ H => Pv (zs.take (i + 1)) (zs.drop (i + 1)) σ H, ct := fun σ H => Pv (zs.take (i + 1)) (zs.drop (i + 1)) σ H, bk := D.nx } σ2 H2
    rw [take_at hz]
    exact q
  · intro σ H p
    exact hend σ H (by simpa using p)

/-! ### comprehensions whose block changes nothing -/
theorem sub_upd {H1 H : Hp} {D : Addr} {o : HO} (s : Sub H1 H) (h : H1 D = none) : Sub H1 (upd H D o) := fun a ha => by
  rw [upd_ne fun e => ha (by rw [e]; exact h)]
  exact s a ha
/-- what was known but at D is kept -/
abbrev SubX (D : Addr) (H H' : Hp) : Prop := ∀ a, a ≠ D → H a ≠ none → H' a = H a
theorem pair_filter {α : Type} {c : α → Bool} {zs : List α} {i : Nat} {z : α} (hz : zs[i]? = some z) : (zs.take (i + 1)).filter c = (zs.take i).filter c ++ if c z = true then [z] else [] := by
  rw [take_at hz, List.filter_append]
  by_cases h : c z = true
  · rw [List.filter_cons_of_pos h, if_pos h]; rfl
  · rw [List.filter_cons_of_neg h, if_neg h]; rfl
/-- c: which items are taken; Pz: what their values are; D the new object -/
def CompZ {α : Type} (zs : List α) (Gd : Hp → Prop) (R : α → Hp → V → Hp → Prop) (g : TG) (tt : TT) (te : TE) (vs : List Nat) (σ : L2.St) (H1 : Hp) (D : Addr) (c : α → Bool) (Pz : α → V → Hp → Prop) : Prop :=
  zs.length ≤ 16777216 ∧ (∀ H', Sub H1 H' → Gd H') ∧ (∀ z v H H', SubX D H H' → Pz z v H → Pz z v H') ∧
  ∀ z ∈ zs, ∀ H x H', Sub H1 H → H D ≠ none → R z H x H' → g x (wipe σ vs) H' fun σ2 H2 => wipe σ2 vs = wipe σ vs ∧ tt σ2 H2 fun b H3 => b = c z ∧ if c z = true then te σ2 H3 fun y H4 => Sub H H4 ∧ Pz z y H4 else Sub H H3
def LcZ {α : Type} (zs : List α) (Gd : Hp → Prop) (R : α → Hp → V → Hp → Prop) (g : TG) (tt : TT) (te : TE) (vs : List Nat) (σ : L2.St) (H1 : Hp) (Q : VK) : Prop := ∀ D, H1 D = none → ∃ (c : α → Bool) (Pz : α → V → Hp → Prop), CompZ zs Gd R g tt te vs σ H1 D c Pz ∧
  ∀ ys H', Sub H1 H' → H' D = some (.lst ys) → Paired (fun z y => Pz z y H') (zs.filter c) ys → Q (.ref D) H'
def tLcZ {α : Type} (wz : TIZ α) (g : TG) (tt : TT) (te : TE) (vs : List Nat) : TE := fun σ H Q => wz σ H fun zs Gd R H1 => LcZ zs Gd R g tt te vs σ H1 Q
theorem lcZ_out {α : Type} {elt tg iter : Expr} {ifs : List Expr} {scope : Scope} {vs : List Nat} {wz : TIZ α} {g : TG} {tt : TT} {te : TE} {σ : L2.St} {H : Hp} {Q : VK} (hi : PIZ X tg iter wz)
    (hg : Blks X scope fun B => PG B tg g) (ht : Blks X scope fun B => PTs B ifs tt) (he : Blks X scope fun B => PE B elt te) (h : tLcZ wz g tt te vs σ H Q) :
    tLc (semI X tg iter) (bG X scope tg) (bT X scope ifs) (bE X scope elt) vs σ H Q := by
  refine semI.of pi_sem (hi σ H _ h) fun J H1 ⟨zs, Gd, R, W, hall⟩ => ?_
  intro D hD
  obtain ⟨c, Pz, ⟨hz, hG, hP, hel⟩, hend⟩ := hall D hD
  refine lc_it W.walk (fun i H => Sub H1 H ∧ ∃ ys, H D = some (.lst ys) ∧ ys.length ≤ i ∧ Paired (fun z y => Pz z y H) ((zs.take i).filter c) ys) ⟨Sub.new hD, [], upd_same, Nat.le_refl _, by simpa using Paired.nil⟩ (fun i H _ p => hG H p.1) ?_ ?_
  · rintro i x H H' hi ⟨s1, ys, hy, hl, pp⟩ ⟨z, hzi, r⟩
    have hm : z ∈ zs := List.mem_of_getElem? hzi
    refine bG.of hg (hel z hm H x H' s1 (by rw [hy]; exact nofun) r) fun σ2 H2 ⟨hw, q⟩ => ⟨hw, bT.of ht q fun b H3 ⟨eb, q3⟩ => ?_⟩
    subst eb
    have pf := pair_filter (c := c) hzi
    by_cases hcz : c z = true
    · rw [if_pos hcz] at q3 pf ⊢
      refine bE.of he q3 fun y H4 ⟨s4, p4⟩ => ⟨ys, s4.get hy, by rw [sizeLine_eq]; omega, ?_⟩
      refine ⟨sub_upd (s1.trans s4) hD, ys ++ [y], upd_same, by rw [List.length_append]; simp; omega, ?_⟩
      rw [pf]
      have sx : SubX D H4 (upd H4 D (.lst (ys ++ [y]))) := fun a ha _ => upd_ne ha
      refine Paired.snoc (Paired.mapP pp fun a b p => hP a b _ _ ?_ p) (hP z y _ _ sx p4)
      intro a ha hn
      rw [upd_ne ha]
      exact s4 a hn
    · rw [if_neg hcz] at q3 pf ⊢
      refine ⟨s1.trans q3, ys, q3.get hy, by omega, ?_⟩
      rw [pf, List.append_nil]
      exact Paired.mapP pp fun a b p => hP a b _ _ (fun x _ hn => q3 x hn) p
  · rintro H ⟨s1, ys, hy, _, pp⟩
    rw [List.take_length] at pp
    exact hend ys H s1 hy pp
theorem pe_lcZ {α : Type} {elt tg iter : Expr} {ifs : List Expr} {scope : Scope} {own : List (PySem.Str × Nat)} {pos : Pos} {wz : TIZ α} {g : TG} {tt : TT} {te : TE} (hc : X.calm = true) (hN : X.N.Nodup) (hi : PIZ X tg iter wz) (ok : BlkOk X.N X.env.scope scope own)
    (hg : Blks X scope fun B => PG B tg g) (ht : Blks X scope fun B => PTs B ifs tt) (he : Blks X scope fun B => PE B elt te) (hs : ∀ x, foldedSetIterable iter X.env x = pure x := by intro _; rfl) :
    PE X (.ListComp elt [⟨tg, iter, ifs, 0⟩] scope pos) (tLcZ wz g tt te (own.map (·.2))) :=
  ⟨fun pins s σ H Q I h => (pe_lc hc hN pi_sem ok pg_b pts_b pe_b hs).run pins s σ H Q I (lcZ_out hi hg ht he h)⟩
/-- the values are known outright -/
theorem paired_map {α : Type} {f : α → V} : ∀ {l : List α} {ys : List V}, Paired (fun z y => y = f z) l ys → ys = l.map f
  | _, _, .nil => rfl
  | _, _, .cons h t => by rw [List.map_cons, h, paired_map t]
theorem lc_val {α : Type} {zs : List α} {Gd : Hp → Prop} {R : α → Hp → V → Hp → Prop} {g : TG} {tt : TT} {te : TE} {vs : List Nat} {σ : L2.St} {H1 : Hp} {Q : VK} (c : α → Bool) (f : α → V) (hz : zs.length ≤ 16777216) (hG : ∀ H', Sub H1 H' → Gd H')
    (hel : ∀ z ∈ zs, ∀ H x H', Sub H1 H → R z H x H' → g x (wipe σ vs) H' fun σ2 H2 => wipe σ2 vs = wipe σ vs ∧ tt σ2 H2 fun b H3 => b = c z ∧ if c z = true then te σ2 H3 fun y H4 => Sub H H4 ∧ y = f z else Sub H H3)
    (hend : ∀ D H', H1 D = none → Sub H1 H' → H' D = some (.lst ((zs.filter c).map f)) → Q (.ref D) H') :
    ∀ D, H1 D = none → ∃ (c : α → Bool) (Pz : α → V → Hp → Prop), CompZ zs Gd R g tt te vs σ H1 D c Pz ∧ ∀ ys H', Sub H1 H' → H' D = some (.lst ys) → Paired (fun z y => Pz z y H') (zs.filter c) ys → Q (.ref D) H' := fun D hD =>
  ⟨c, fun z y _ => y = f z, ⟨hz, hG, fun _ _ _ _ _ h => h, fun z hm H x H' s _ r => hel z hm H x H' s r⟩, fun ys H' s hy pp => hend D H' hD s (by rw [hy, paired_map pp])⟩

/-! ### dict comprehensions: keys and values known outright -/
def DcV {α : Type} (zs : List α) (Gd : Hp → Prop) (R : α → Hp → V → Hp → Prop) (g : TG) (tt : TT) (tk tv : TE) (vs : List Nat) (σ : L2.St) (H1 : Hp) (Q : VK) : Prop := ∃ (c : α → Bool) (k : α → Key) (f : α → V), (zs.length ≤ 16777216 ∧ (∀ H', Sub H1 H' → Gd H') ∧
    ∀ z ∈ zs, ∀ H x H', Sub H1 H → R z H x H' → g x (wipe σ vs) H' fun σ2 H2 => wipe σ2 vs = wipe σ vs ∧ tt σ2 H2 fun b H3 => b = c z ∧ if c z = true then tk σ2 H3 fun y H4 => tv σ2 H4 fun v H5 => Sub H H5 ∧ y = kV (k z) ∧ v = f z else Sub H H3) ∧
  ∀ D H', H1 D = none → Sub H1 H' → H' D = some (.dK (mergeK [] ((zs.filter c).map fun z => (k z, f z)))) → Q (.ref D) H'
def tDcZ {α : Type} (wz : TIZ α) (g : TG) (tt : TT) (tk tv : TE) (vs : List Nat) : TE := fun σ H Q => wz σ H fun zs Gd R H1 => DcV zs Gd R g tt tk tv vs σ H1 Q
theorem dcv {α : Type} {zs : List α} {Gd : Hp → Prop} {R : α → Hp → V → Hp → Prop} {g : TG} {tt : TT} {tk tv : TE} {vs : List Nat} {σ : L2.St} {H1 : Hp} {Q : VK} (c : α → Bool) (k : α → Key) (f : α → V) (hz : zs.length ≤ 16777216) (hG : ∀ H', Sub H1 H' → Gd H')
    (hel : ∀ z ∈ zs, ∀ H x H', Sub H1 H → R z H x H' → g x (wipe σ vs) H' fun σ2 H2 => wipe σ2 vs = wipe σ vs ∧ tt σ2 H2 fun b H3 => b = c z ∧ if c z = true then tk σ2 H3 fun y H4 => tv σ2 H4 fun v H5 => Sub H H5 ∧ y = kV (k z) ∧ v = f z else Sub H H3)
    (hend : ∀ D H', H1 D = none → Sub H1 H' → H' D = some (.dK (mergeK [] ((zs.filter c).map fun z => (k z, f z)))) → Q (.ref D) H') : DcV zs Gd R g tt tk tv vs σ H1 Q := ⟨c, k, f, ⟨hz, hG, hel⟩, hend⟩
theorem mergeK_snoc {l : List (Key × V)} {m : List (Key × V)} {k : Key} {v : V} : mergeK l (m ++ [(k, v)]) = putK (mergeK l m) k v := by
  unfold mergeK
  rw [List.foldl_append]
  rfl
theorem dc_it {J : It} {n : Nat} {G : Hp → Prop} {Y : Nat → Hp → V → Hp → Prop} (w : Walk J n G Y) {g : TG} {tt : TT} {tk tv : TE} {vs : List Nat} {σ : L2.St} {H1 : Hp} {D : Addr} {Qd : Hp → Prop} (Pv : Nat → Hp → Prop) (h0 : Pv 0 (upd H1 D (.dK []))) (hG : ∀ i H, i ≤ n → Pv i H → G H)
    (hs : ∀ i x H H', i < n → Pv i H → Y i H x H' → g x (wipe σ vs) H' fun σ2 H2 => wipe σ2 vs = wipe σ vs ∧ tt σ2 H2 fun b H3 =>
      if b = true then tk σ2 H3 fun y H4 => tv σ2 H4 fun z H5 => ∃ kvs k, y = kV k ∧ H5 D = some (.dK kvs) ∧ kvs.length < sizeLine ∧ Pv (i + 1) (upd H5 D (.dK (putK kvs k z))) else Pv (i + 1) H3) (hd : ∀ H, Pv n H → Qd H) :
    ∃ W : Nat → Nat → Hp → Prop, (∃ m, W 0 m (upd H1 D (.dK []))) ∧ ∀ i m H, W i m H →
      (J.stop i H ∧ Qd H) ∨ (J.go i H ∧ ∃ Nx : Hp → Prop, (∀ H', Nx H' → ∃ m', m' < m ∧ W (i + 1) m' H') ∧ ∀ x H', J.yld i H x H' → g x (wipe σ vs) H' fun σ2 H2 => wipe σ2 vs = wipe σ vs ∧ tt σ2 H2 fun b H3 =>
        if b = true then tk σ2 H3 fun y H4 => tv σ2 H4 fun z H5 => ∃ kvs k, y = kV k ∧ H5 D = some (.dK kvs) ∧ kvs.length < sizeLine ∧ Nx (upd H5 D (.dK (putK kvs k z))) else Nx H3) := by
  refine ⟨fun i m H => m = n - i ∧ i ≤ n ∧ Pv i H, ⟨n, by simp, Nat.zero_le _, h0⟩, ?_⟩
  intro i m H hh
  obtain ⟨rfl, hi, p⟩ := hh
  by_cases hlt : i < n
  · exact Or.inr ⟨w.goes i H hlt (hG i H hi p), Pv (i + 1), fun H' p' => ⟨n - (i + 1), by omega, rfl, hlt, p'⟩, fun x H' y => hs i x H H' hlt p (w.yields i H x H' hlt (hG i H hi p) y)⟩
  · obtain rfl : i = n := by omega
    exact Or.inl ⟨w.stops H (hG i H hi p), hd H p⟩
theorem pe_dcZ {α : Type} {kx vx tg iter : Expr} {ifs : List Expr} {scope : Scope} {own : List (PySem.Str × Nat)} {pos : Pos} {wz : TIZ α} {g : TG} {tt : TT} {tk tv : TE} (hc : X.calm = true) (hN : X.N.Nodup) (hi : PIZ X tg iter wz) (ok : BlkOk X.N X.env.scope scope own)
    (hg : Blks X scope fun B => PG B tg g) (ht : Blks X scope fun B => PTs B ifs tt) (hk : Blks X scope fun B => PE B kx tk) (he : Blks X scope fun B => PE B vx tv) (hs : ∀ x, foldedSetIterable iter X.env x = pure x := by intro _; rfl) :
    PE X (.DictComp kx vx [⟨tg, iter, ifs, 0⟩] scope pos) (tDcZ wz g tt tk tv (own.map (·.2))) := by
  refine ⟨fun pins s σ H Q I h => (pe_dc hc hN pi_sem ok pg_b pts_b pe_b pe_b hs).run pins s σ H Q I ?_⟩
  refine semI.of pi_sem (hi σ H _ h) fun J H1 ⟨zs, Gd, R, W, c, k, f, ⟨hz, hG, hel⟩, hend⟩ => ?_
  intro D hD
  refine dc_it W.walk (fun i H => Sub H1 H ∧ H D = some (.dK (mergeK [] (((zs.take i).filter c).map fun z => (k z, f z)))) ∧ (mergeK [] (((zs.take i).filter c).map fun z => (k z, f z))).length ≤ i) ⟨Sub.new hD, upd_same, Nat.le_refl _⟩ (fun i H _ p => hG H p.1) ?_ ?_
  · rintro i x H H' hi ⟨s1, hy, hl⟩ ⟨z, hzi, r⟩
    have hm : z ∈ zs := List.mem_of_getElem? hzi
    refine bG.of hg (hel z hm H x H' s1 r) fun σ2 H2 ⟨hw, q⟩ => ⟨hw, bT.of ht q fun b H3 ⟨eb, q3⟩ => ?_⟩
    subst eb
    have pf := pair_filter (c := c) hzi
    by_cases hcz : c z = true
    · rw [if_pos hcz] at q3 pf ⊢
      refine bE.of hk q3 fun y H4 q4 => bE.of he q4 fun v H5 ⟨s5, ey, ev⟩ => ⟨_, k z, ey, s5.get hy, by rw [sizeLine_eq]; omega, ?_⟩
      subst ev
      have e : mergeK [] (((zs.take (i + 1)).filter c).map fun z => (k z, f z)) = putK (mergeK [] (((zs.take i).filter c).map fun z => (k z, f z))) (k z) (f z) := by
        rw [pf, List.map_append]
        exact mergeK_snoc
      refine ⟨sub_upd (s1.trans s5) hD, by rw [e]; exact upd_same, ?_⟩
      rw [e]
      have := length_putK (mergeK [] (((zs.take i).filter c).map fun z => (k z, f z))) (k z) (f z)
      omega
    · rw [if_neg hcz] at q3 pf ⊢
      rw [pf, List.append_nil]
      exact ⟨s1.trans q3, q3.get hy, by omega⟩
  · rintro H ⟨s1, hy, _⟩
    rw [List.take_length] at hy
    exact hend D H hD s1 hy

/-! ### set comprehensions: the members known outright -/
def ScV {α : Type} (P : Program) (w : World) (zs : List α) (Gd : Hp → Prop) (R : α → Hp → V → Hp → Prop) (g : TG) (tt : TT) (te : TE) (vs : List Nat) (σ : L2.St) (H1 : Hp) (Q : VK) : Prop := ∃ (c : α → Bool) (k : α → Key), (zs.length < 4000 ∧ (∀ H', Sub H1 H' → Gd H') ∧
    ∀ z ∈ zs, ∀ H x H', Sub H1 H → R z H x H' → g x (wipe σ vs) H' fun σ2 H2 => wipe σ2 vs = wipe σ vs ∧ tt σ2 H2 fun b H3 => b = c z ∧ if c z = true then te σ2 H3 fun y H4 => Sub H H4 ∧ y = kV (k z) else Sub H H3) ∧
  ∀ D H' S n, H1 D = none → Sub H1 H' → H' D = some (SetK P w D S n) → (∀ j, S j = true ↔ j ∈ (zs.filter c).map k) → (n = ((zs.filter c).map k).length ↔ ((zs.filter c).map k).Nodup) → Q (.ref D) H'
def tScZ {α : Type} (P : Program) (w : World) (wz : TIZ α) (g : TG) (tt : TT) (te : TE) (vs : List Nat) : TE := fun σ H Q => wz σ H fun zs Gd R H1 => ScV P w zs Gd R g tt te vs σ H1 Q
theorem scv {α : Type} {P : Program} {w : World} {zs : List α} {Gd : Hp → Prop} {R : α → Hp → V → Hp → Prop} {g : TG} {tt : TT} {te : TE} {vs : List Nat} {σ : L2.St} {H1 : Hp} {Q : VK} (c : α → Bool) (k : α → Key) (hz : zs.length < 4000) (hG : ∀ H', Sub H1 H' → Gd H')
    (hel : ∀ z ∈ zs, ∀ H x H', Sub H1 H → R z H x H' → g x (wipe σ vs) H' fun σ2 H2 => wipe σ2 vs = wipe σ vs ∧ tt σ2 H2 fun b H3 => b = c z ∧ if c z = true then te σ2 H3 fun y H4 => Sub H H4 ∧ y = kV (k z) else Sub H H3)
    (hend : ∀ D H' S n, H1 D = none → Sub H1 H' → H' D = some (SetK P w D S n) → (∀ j, S j = true ↔ j ∈ (zs.filter c).map k) → (n = ((zs.filter c).map k).length ↔ ((zs.filter c).map k).Nodup) → Q (.ref D) H') : ScV P w zs Gd R g tt te vs σ H1 Q := ⟨c, k, ⟨hz, hG, hel⟩, hend⟩
theorem sc_it {P : Program} {w : World} {J : It} {n : Nat} {G : Hp → Prop} {Y : Nat → Hp → V → Hp → Prop} (wk : Walk J n G Y) {g : TG} {tt : TT} {te : TE} {vs : List Nat} {σ : L2.St} {H1 : Hp} {D : Addr} {Qd : Hp → Prop} (Pv : Nat → Hp → Prop) (h0 : Pv 0 (upd H1 D (SetK P w D (fun _ => false) 0))) (hG : ∀ i H, i ≤ n → Pv i H → G H)
    (hs : ∀ i x H H', i < n → Pv i H → Y i H x H' → g x (wipe σ vs) H' fun σ2 H2 => wipe σ2 vs = wipe σ vs ∧ tt σ2 H2 fun b H3 =>
      if b = true then te σ2 H3 fun y H4 => ∃ (k : Key) (S : Key → Bool) (m : Nat), y = kV k ∧ H4 D = some (SetK P w D S m) ∧ m + 1 < scanBound ∧ Pv (i + 1) (upd H4 D (SetK P w D (fun j => S j || decide (j = k)) (if S k = true then m else m + 1))) else Pv (i + 1) H3) (hd : ∀ H, Pv n H → Qd H) :
    ∃ W : Nat → Nat → Hp → Prop, (∃ m, W 0 m (upd H1 D (SetK P w D (fun _ => false) 0))) ∧ ∀ i m H, W i m H →
      (J.stop i H ∧ Qd H) ∨ (J.go i H ∧ ∃ Nx : Hp → Prop, (∀ H', Nx H' → ∃ m', m' < m ∧ W (i + 1) m' H') ∧ ∀ x H', J.yld i H x H' → g x (wipe σ vs) H' fun σ2 H2 => wipe σ2 vs = wipe σ vs ∧ tt σ2 H2 fun b H3 => if b = true then
        te σ2 H3 fun y H4 => ∃ (k : Key) (S : Key → Bool) (n : Nat), y = kV k ∧ H4 D = some (SetK P w D S n) ∧ n + 1 < scanBound ∧ Nx (upd H4 D (SetK P w D (fun j => S j || decide (j = k)) (if S k = true then n else n + 1))) else Nx H3) := by
  refine ⟨fun i m H => m = n - i ∧ i ≤ n ∧ Pv i H, ⟨n, by simp, Nat.zero_le _, h0⟩, ?_⟩
  intro i m H hh
  obtain ⟨rfl, hi, p⟩ := hh
  by_cases hlt : i < n
  · exact Or.inr ⟨wk.goes i H hlt (hG i H hi p), Pv (i + 1), fun H' p' => ⟨n - (i + 1), by omega, rfl, hlt, p'⟩, fun x H' y => hs i x H H' hlt p (wk.yields i H x H' hlt (hG i H hi p) y)⟩
  · obtain rfl : i = n := by omega
    exact Or.inl ⟨wk.stops H (hG i H hi p), hd H p⟩
theorem nodup_snoc {α : Type} {l : List α} {x : α} : (l ++ [x]).Nodup ↔ l.Nodup ∧ x ∉ l := by
  rw [List.nodup_append]
  constructor
  · rintro ⟨h1, _, h3⟩
    exact ⟨h1, fun hx => h3 x hx x List.mem_cons_self rfl⟩
  · rintro ⟨h1, h2⟩
    refine ⟨h1, by simp, fun a ha b hb => ?_⟩
    rw [List.mem_singleton.mp hb]
    intro e
    exact h2 (e ▸ ha)
theorem pe_scZ {α : Type} {elt tg iter : Expr} {ifs : List Expr} {scope : Scope} {own : List (PySem.Str × Nat)} {pos : Pos} {wz : TIZ α} {g : TG} {tt : TT} {te : TE} (hc : X.calm = true) (hN : X.N.Nodup) (hi : PIZ X tg iter wz) (ok : BlkOk X.N X.env.scope scope own)
    (hg : Blks X scope fun B => PG B tg g) (ht : Blks X scope fun B => PTs B ifs tt) (he : Blks X scope fun B => PE B elt te) (hs : ∀ x, foldedSetIterable iter X.env x = pure x := by intro _; rfl) :
    PE X (.SetComp elt [⟨tg, iter, ifs, 0⟩] scope pos) (tScZ X.prog X.w wz g tt te (own.map (·.2))) := by
  refine ⟨fun pins s σ H Q I h => (pe_scK hc hN pi_sem ok pg_b pts_b pe_b hs).run pins s σ H Q I ?_⟩
  refine semI.of pi_sem (hi σ H _ h) fun J H1 ⟨zs, Gd, R, W, c, k, ⟨hz, hG, hel⟩, hend⟩ => ?_
  intro D hD
  refine sc_it W.walk (fun i H => Sub H1 H ∧ ∃ S m, H D = some (SetK X.prog X.w D S m) ∧ m ≤ ((zs.take i).filter c).length ∧ ((zs.take i).filter c).length ≤ i ∧ (∀ j, S j = true ↔ j ∈ ((zs.take i).filter c).map k) ∧ (m = (((zs.take i).filter c).map k).length ↔ (((zs.take i).filter c).map k).Nodup))
    ⟨Sub.new hD, _, _, upd_same, Nat.le_refl _, Nat.le_refl _, fun j => by simp, by simp⟩ (fun i H _ p => hG H p.1) ?_ ?_
  · rintro i x H H' hi ⟨s1, S, m, hy, hl, hl2, hS, hn⟩ ⟨z, hzi, r⟩
    have hm : z ∈ zs := List.mem_of_getElem? hzi
    refine bG.of hg (hel z hm H x H' s1 r) fun σ2 H2 ⟨hw, q⟩ => ⟨hw, bT.of ht q fun b H3 ⟨eb, q3⟩ => ?_⟩
    subst eb
    have pf := pair_filter (c := c) hzi
    by_cases hcz : c z = true
    · rw [if_pos hcz] at q3 pf ⊢
      have hlz : i < zs.length := hi
      refine bE.of he q3 fun y H4 ⟨s4, ey⟩ => ⟨k z, S, m, ey, s4.get hy, by show m + 1 < 4096; omega, sub_upd (s1.trans s4) hD, _, _, upd_same, ?_⟩
      rw [pf, List.map_append, List.length_append]
      have e1 : ([z].map k) = [k z] := rfl
      have hb := hS (k z)
      rw [e1]
      refine ⟨?_, ?_, fun j => ?_, ?_⟩
      · show (if S (k z) = true then m else m + 1) ≤ _ + 1
        split <;> omega
      · show _ + 1 ≤ _
        omega
      · rw [Bool.or_eq_true, hS j, decide_eq_true_eq, List.mem_append, List.mem_singleton]
      · rw [List.length_append, List.length_map, nodup_snoc]
        rw [List.length_map] at hn
        show (if S (k z) = true then m else m + 1) = _ + 1 ↔ _
        cases hin : S (k z) with
        | true =>
          rw [if_pos rfl]
          exact ⟨fun e => by omega, fun e => absurd (hb.1 hin) e.2⟩
        | false =>
          have hin : k z ∉ ((zs.take i).filter c).map k := fun q => by rw [hb.2 q] at hin; cases hin
          rw [if_neg Bool.false_ne_true]
          exact ⟨fun e => ⟨hn.1 (by omega), hin⟩, fun e => by rw [hn.2 e.1]⟩
    · rw [if_neg hcz] at q3 pf ⊢
      rw [pf, List.append_nil]
      exact ⟨s1.trans q3, S, m, q3.get hy, hl, by omega, hS, hn⟩
  · rintro H ⟨s1, S, m, hy, _, _, hS, hn⟩
    rw [List.take_length] at hS hn
    exact hend D H S m hD s1 hy hS hn
end
end G

set_option Elab.async false
set_option linter.all false
set_option maxRecDepth 100000
set_option maxHeartbeats 4000000
/-! Small things that the walks name. -/
namespace G
open PySem PySem.Spec PyProof.Rows L2

theorem hu0 {A : Around} {k : Nat} (hr : Room k A) : A.units < cLine := hr.units0
theorem hu64 {A : Around} {k : Nat} (hr : Room k A) : A.units + 64 < cLine := hr.units
/-- the getter of a property -/
def gAd (K : PySem.W.Frag) (C : Addr) (f : Str) : Addr := match PySem.W.recIn K (He.ma K C f) "property" with
  | some (.ref g :: _) => g
  | _ => 0
section
variable {X : Cx}
/-- e.f, a field of an instance of the class at C -/
def tFldU (C : Addr) (ta : TE) (f : Str) : TE := fun σ H Q => ta σ H fun x H1 => ∃ a dx fs v, x = .ref a ∧ H1 a = some (.ins C dx fs) ∧ fs.lookup f = some v ∧ Q v H1
theorem pe_fldU {C : Addr} {e : Expr} {f : Str} {pos : Pos} {ta : TE} (c : Cls X.K C) (n : NoAttr X.K C f) (he : PE X e ta) (hb : attributeBase e f X.env (eval e X.env) = eval e X.env) : PE X (.Attribute e f pos) (tFldU C ta f) := by
  refine ⟨fun pins s σ H Q I h => (pe_fld pe_sem hb).run pins s σ H Q I ?_⟩
  exact semE.of he h fun v H1 ⟨a, dx, fs, w, e1, e2, e3, q⟩ => ⟨a, C, dx, fs, w, e1, e2, c, n, e3, q⟩
/-- e.f, a constant of the class -/
def tConU (C : Addr) (v : V) (ta : TE) (f : Str) : TE := fun σ H Q => ta σ H fun x H1 => ∃ a dx fs, x = .ref a ∧ H1 a = some (.ins C dx fs) ∧ fs.lookup f = none ∧ Q v H1
theorem pe_conU {C : Addr} {v : V} {e : Expr} {f : Str} {pos : Pos} {ta : TE} (c : Cls X.K C) (k : ∃ u, Con X.K C f v u) (he : PE X e ta) (hb : attributeBase e f X.env (eval e X.env) = eval e X.env) : PE X (.Attribute e f pos) (tConU C v ta f) := by
  obtain ⟨u, k⟩ := k
  refine ⟨fun pins s σ H Q I h => (pe_con pe_sem hb).run pins s σ H Q I ?_⟩
  exact semE.of he h fun w H1 ⟨a, dx, fs, e1, e2, e3, q⟩ => ⟨a, C, dx, fs, v, u, e1, e2, c, k, e3, q⟩
/-- e.f = v -/
def sFldU (C : Addr) (ta tv : TE) (f : Str) : TS := fun D σ H => tv σ H fun y H1 => ta σ H1 fun x H2 => ∃ a dx fs, x = .ref a ∧ H2 a = some (.ins C dx fs) ∧ fs.length < 1000 ∧ D.nx σ (upd H2 a (.ins C dx (putF f y fs)))
theorem ps_fldU {C : Addr} {o value : Expr} {f : Str} {pos pos' : Pos} {ta tv : TE} (c : Cls X.K C) (n : NoAttr X.K C f) (ha : PE X o ta) (hv : PE X value tv) (hs : swapsWith value (some (.Attribute o f pos')) pos.line X.env = pure false) :
    PS X (.Assign [.Attribute o f pos'] value pos) (sFldU C ta tv f) := by
  refine ⟨fun pins s σ H D I h => (ps_fld (ta := semE X o) (tv := semE X value) pe_sem pe_sem hs).run pins s σ H D I ?_⟩
  exact semE.of hv h fun y H1 h1 => semE.of ha h1 fun x H2 ⟨a, dx, fs, e1, e2, e3, q⟩ => ⟨a, C, dx, fs, e1, e2, c, n, e3, q⟩
/-- a list's method -/
def tBML0 (r : V → List V → Hp → VK → Prop) (to : TE) : TE := fun σ H Q => to σ H fun x H1 => (∃ a xs, x = .ref a ∧ lk (H1 a) = some (.lst xs)) ∧ r x [] H1 Q
def tBML (r : V → List V → Hp → VK → Prop) (to : TE) (t : TA) : TE := fun σ H Q => to σ H fun x H1 => (∃ a xs, x = .ref a ∧ lk (H1 a) = some (.lst xs)) ∧ t σ H1 fun xs H2 => r x xs H2 Q
theorem tyV_lst {K : PySem.W.Frag} {x : V} {H : Hp} (h : ∃ a xs, x = .ref a ∧ lk (H a) = some (.lst xs)) : tyV K "list" x H := by
  obtain ⟨a, xs, rfl, h⟩ := h
  exact Or.inl ⟨rfl, xs, Or.inl (rd_lk h)⟩
theorem pe_bmL0 {o : Expr} {to : TE} {name : PySem.Str} {apos cpos : Pos} {id : String} {r : V → List V → Hp → VK → Prop} (slot : Slot "list" name id) (hty : typeOf (.builtin id) = pure (.type "method_descriptor")) (hm : MtR X id r) (ho : PE X o to)
    (hbase : attributeBase o name X.env (eval o X.env) = eval o X.env := by rfl) (hline : (apos.endLine == cpos.line) = true := by rfl) : PE X (.Call (.Attribute o name apos) [] [] cpos) (tBML0 r to) :=
  ⟨fun pins s σ H Q I h => (pe_bm0 PySem.F.plainAttrs_list slot hty hm pe_sem hbase hline).run pins s σ H Q I (semE.of ho h fun x H1 ⟨h1, q⟩ => ⟨tyV_lst h1, q⟩)⟩
theorem pe_bmL {o e : Expr} {es : List Expr} {to : TE} {t : TA} {name : PySem.Str} {apos cpos : Pos} {id : String} {r : V → List V → Hp → VK → Prop} (slot : Slot "list" name id) (hty : typeOf (.builtin id) = pure (.type "method_descriptor")) (hm : MtR X id r) (ho : PE X o to) (ha : PA X (e :: es) t)
    (hbase : attributeBase o name X.env (eval o X.env) = eval o X.env := by rfl)
    (hfew : ((backTo cpos (starEach (e :: es) X.env)).all (fun x => !x.1) && (backToKw cpos (keywordEach [] X.env)).all (fun x => x.1.isSome)
      && decide ((e :: es).length + ([] : List Keyword).length + (if ([] : List Keyword).isEmpty then 0 else 1) < 30)) = true := by rfl)
    (hline : (apos.endLine == cpos.line) = true := by rfl) (hs : starEach (e :: es) X.env = (false, eval e X.env) :: starEach es X.env := by rfl) (hplain : (backTo cpos (starEach es X.env)).any (·.1) = false := by rfl) :
    PE X (.Call (.Attribute o name apos) (e :: es) [] cpos) (tBML r to t) :=
  ⟨fun pins s σ H Q I h => (pe_bm PySem.F.plainAttrs_list slot hty hm pe_sem ha hbase hfew hline hs hplain).run pins s σ H Q I (semE.of ho h fun x H1 ⟨h1, q⟩ => ⟨tyV_lst h1, q⟩)⟩
/-- d.get(y, z) -/
def tDGetU (td ty tx : TE) : TE := fun σ H Q => td σ H fun x H1 => ∃ a, x = .ref a ∧ (∃ kvs, lk (H1 a) = some (.dK kvs)) ∧ ty σ H1 fun y H2 => tx σ H2 fun z H3 => ∃ kvs k, lk (H3 a) = some (.dK kvs) ∧ y = kV k ∧ Q ((valV kvs k).getD z) H3
theorem pe_dget2U {o e f : Expr} {td ty tx : TE} {apos cpos : Pos} (hu : X.A.units + 1 < cLine) (ho : PE X o td) (he : PE X e ty) (hf : PE X f tx) (m : M2 X o "get" apos e f cpos) : PE X (.Call (.Attribute o "get" apos) [e, f] [] cpos) (tDGetU td ty tx) := by
  refine ⟨fun pins s σ H Q I h => (pe_dget2 hu pe_sem pe_sem pe_sem m).run pins s σ H Q I ?_⟩
  refine semE.of ho h fun x H1 ⟨a, e1, ⟨kvs, h1⟩, h2⟩ => ⟨a, e1, Or.inl ⟨kvs, rd_lk h1⟩, ?_⟩
  refine semE.of he h2 fun y H2 h3 => semE.of hf h3 fun z H3 ⟨kvs, k, h4, h5, q⟩ => ⟨valV kvs k, Or.inl ⟨kvs, k, rd_lk h4, h5, rfl⟩, q⟩
/-- d[y] = v -/
def sDPutU (td ty tv : TE) : TS := fun D σ H => tv σ H fun v H1 => td σ H1 fun x H2 => ty σ H2 fun y H3 => ∃ a kvs k, x = .ref a ∧ H3 a = some (.dK kvs) ∧ y = kV k ∧ kvs.length < sizeLine ∧ D.nx σ (upd H3 a (.dK (putK kvs k v)))
theorem ps_dputU {o i value : Expr} {td ty tv : TE} {pos pos' : Pos} (hu : X.A.units + 1 < cLine) (ho : PE X o td) (hi : PE X i ty) (hv : PE X value tv) (hs : swapsWith value (some (.Subscript o i pos')) pos.line X.env = pure false) :
    PS X (.Assign [.Subscript o i pos'] value pos) (sDPutU td ty tv) := by
  refine ⟨fun pins s σ H D I h => (ps_dput hu pe_sem pe_sem pe_sem hs).run pins s σ H D I ?_⟩
  exact semE.of hv h fun v H1 h1 => semE.of ho h1 fun x H2 h2 => semE.of hi h2 fun y H3 ⟨a, kvs, k, e1, e2, e3, e4, q⟩ => ⟨a, _, e1, Or.inl ⟨kvs, k, e2, e3, e4, rfl⟩, q⟩
theorem Sub.none {H H' : Hp} {a : Addr} (s : Sub H H') (h : H' a = Option.none) : H a = Option.none := by
  cases e : H a with
  | none => rfl
  | some o =>
    have := s.get e
    rw [h] at this
    cases this
theorem rtup {α : Type} {f : α → List V} {z : α} {H H' : Hp} {x : V} (r : RTup f z H x H') : ∃ T, x = .ref T ∧ H T = none ∧ Sub H H' ∧ H' T = some (.tup (f z)) := by
  obtain ⟨T, e, h, rfl⟩ := r
  exact ⟨T, e, h, Sub.new h, upd_same⟩
/-- a tuple taken apart -/
def gTupU (n : Nat) (t : TGs) : TG := fun v σ H Q => ∃ a xs, v = .ref a ∧ lk (H a) = some (.tup xs) ∧ xs.length = n ∧ t xs σ H Q
theorem pg_tupU {es : List Expr} {k : Nat} {t : TGs} {n : Nat} {pos : Pos} (hc : X.calm = true) (h : PGs X es t)
    (hn : (assignEach es X.env).length = n := by rfl) (hst : (assignEach es X.env).findIdx? (·.1) = none := by rfl) : PG X (.Tuple es k pos) (gTupU n t) :=
  ⟨fun pins s σ H v u Q I r ⟨a, xs, e, ha, hl, q⟩ => (pg_tup hc h hn hst).run pins s σ H v u Q I r ⟨a, xs, e, Or.inl (rd_lk ha), hl, q⟩⟩
/-- a list comprehension whose values are known outright -/
def LcV {α : Type} (zs : List α) (Gd : Hp → Prop) (R : α → Hp → V → Hp → Prop) (g : TG) (tt : TT) (te : TE) (vs : List Nat) (σ : L2.St) (H1 : Hp) (Q : VK) : Prop := ∃ (c : α → Bool) (f : α → V), (zs.length ≤ 16777216 ∧ (∀ H', Sub H1 H' → Gd H') ∧
    ∀ z ∈ zs, ∀ H x H', Sub H1 H → R z H x H' → g x (wipe σ vs) H' fun σ2 H2 => wipe σ2 vs = wipe σ vs ∧ tt σ2 H2 fun b H3 => b = c z ∧ if c z = true then te σ2 H3 fun y H4 => Sub H H4 ∧ y = f z else Sub H H3) ∧
  ∀ D H', H1 D = none → Sub H1 H' → H' D = some (.lst ((zs.filter c).map f)) → Q (.ref D) H'
def tLcV {α : Type} (wz : TIZ α) (g : TG) (tt : TT) (te : TE) (vs : List Nat) : TE := fun σ H Q => wz σ H fun zs Gd R H1 => LcV zs Gd R g tt te vs σ H1 Q
theorem lcv {α : Type} {zs : List α} {Gd : Hp → Prop} {R : α → Hp → V → Hp → Prop} {g : TG} {tt : TT} {te : TE} {vs : List Nat} {σ : L2.St} {H1 : Hp} {Q : VK} (c : α → Bool) (f : α → V) (hz : zs.length ≤ 16777216) (hG : ∀ H', Sub H1 H' → Gd H')
    (hel : ∀ z ∈ zs, ∀ H x H', Sub H1 H → R z H x H' → g x (wipe σ vs) H' fun σ2 H2 => wipe σ2 vs = wipe σ vs ∧ tt σ2 H2 fun b H3 => b = c z ∧ if c z = true then te σ2 H3 fun y H4 => Sub H H4 ∧ y = f z else Sub H H3)
    (hend : ∀ D H', H1 D = none → Sub H1 H' → H' D = some (.lst ((zs.filter c).map f)) → Q (.ref D) H') : LcV zs Gd R g tt te vs σ H1 Q := ⟨c, f, ⟨hz, hG, hel⟩, hend⟩
theorem lcV_out {α : Type} {elt tg iter : Expr} {ifs : List Expr} {scope : Scope} {vs : List Nat} {wz : TIZ α} {g : TG} {tt : TT} {te : TE} {σ : L2.St} {H : Hp} {Q : VK} (hi : PIZ X tg iter wz)
    (hg : Blks X scope fun B => PG B tg g) (ht : Blks X scope fun B => PTs B ifs tt) (he : Blks X scope fun B => PE B elt te) (h : tLcV wz g tt te vs σ H Q) :
    tLc (semI X tg iter) (bG X scope tg) (bT X scope ifs) (bE X scope elt) vs σ H Q := by
  have hi' : PIZ X tg iter (fun σ H k => semI X tg iter σ H fun J H1 => ∃ zs Gd R, WZ (α := α) J zs Gd R ∧ k zs Gd R H1) := fun σ H k h => semI.of pi_sem h fun _ _ q => q
  refine lcZ_out hi' hg ht he ?_
  refine semI.of pi_sem (hi σ H _ h) fun J H1 ⟨zs, Gd, R, W, c, f, ⟨h1, h2, h3⟩, h4⟩ => ⟨zs, Gd, R, W, ?_⟩
  exact lc_val c f h1 h2 h3 h4
theorem pe_lcV {α : Type} {elt tg iter : Expr} {ifs : List Expr} {scope : Scope} {own : List (PySem.Str × Nat)} {pos : Pos} {wz : TIZ α} {g : TG} {tt : TT} {te : TE} (hc : X.calm = true) (hN : X.N.Nodup) (hi : PIZ X tg iter wz) (ok : BlkOk X.N X.env.scope scope own)
    (hg : Blks X scope fun B => PG B tg g) (ht : Blks X scope fun B => PTs B ifs tt) (he : Blks X scope fun B => PE B elt te) (hs : ∀ x, foldedSetIterable iter X.env x = pure x := by intro _; rfl) :
    PE X (.ListComp elt [⟨tg, iter, ifs, 0⟩] scope pos) (tLcV wz g tt te (own.map (·.2))) :=
  ⟨fun pins s σ H Q I h => (pe_lc hc hN pi_sem ok pg_b pts_b pe_b hs).run pins s σ H Q I (lcV_out hi hg ht he h)⟩
theorem ps_setLcV {α : Type} {i : Nat} {y : Str} {py : Pos} {elt tg iter : Expr} {ifs : List Expr} {scope : Scope} {own : List (Str × Nat)} {pos spos : Pos} {wz : TIZ α} {g : TG} {tt : TT} {te : TE} (hc : X.calm = true) (hN : X.N.Nodup) (hy : X.N[i]? = some y) (hyl : X.env.scope.names.lookup y = some .local)
    (hsw : swapsWith (.ListComp elt [⟨tg, iter, ifs, 0⟩] scope pos) (some (.Name y py)) spos.line X.env = pure true) (hi : PIZ X tg iter wz) (ok : BlkOk X.N X.env.scope scope own)
    (hg : Blks X scope fun B => PG B tg g) (ht : Blks X scope fun B => PTs B ifs tt) (he : Blks X scope fun B => PE B elt te) (hs : ∀ x, foldedSetIterable iter X.env x = pure x := by intro _; rfl) :
    PS X (.Assign [.Name y py] (.ListComp elt [⟨tg, iter, ifs, 0⟩] scope pos) spos) (tAsg (tLcV wz g tt te (own.map (·.2))) (gName i)) := by
  refine ⟨fun pins s σ H D I h => (ps_setLc hc hN hy hyl hsw pi_sem ok pg_b pts_b pe_b hs).run pins s σ H D I ?_⟩
  exact lcV_out hi hg ht he h
theorem lockE {t : TE} {σ : L2.St} {H : Hp} {Q : VK} {d : Addr} {kvs : List (Key × V)} (hd : H d = some (.dK kvs)) (h : ∀ od, t σ (upd H d (.frz od (.dK kvs))) fun v H' => H' d = some (.frz od (.dK kvs)) ∧ Q v (upd H' d (.dK kvs))) : tLockE t σ H Q :=
  ⟨d, _, hd, trivial, h⟩
/-- name = [.. for ..] -/
theorem ps_setLcZ {α : Type} {i : Nat} {y : Str} {py : Pos} {elt tg iter : Expr} {ifs : List Expr} {scope : Scope} {own : List (Str × Nat)} {pos spos : Pos} {wz : TIZ α} {g : TG} {tt : TT} {te : TE} (hc : X.calm = true) (hN : X.N.Nodup) (hy : X.N[i]? = some y) (hyl : X.env.scope.names.lookup y = some .local)
    (hsw : swapsWith (.ListComp elt [⟨tg, iter, ifs, 0⟩] scope pos) (some (.Name y py)) spos.line X.env = pure true) (hi : PIZ X tg iter wz) (ok : BlkOk X.N X.env.scope scope own)
    (hg : Blks X scope fun B => PG B tg g) (ht : Blks X scope fun B => PTs B ifs tt) (he : Blks X scope fun B => PE B elt te) (hs : ∀ x, foldedSetIterable iter X.env x = pure x := by intro _; rfl) :
    PS X (.Assign [.Name y py] (.ListComp elt [⟨tg, iter, ifs, 0⟩] scope pos) spos) (tAsg (tLcZ wz g tt te (own.map (·.2))) (gName i)) := by
  refine ⟨fun pins s σ H D I h => (ps_setLc hc hN hy hyl hsw pi_sem ok pg_b pts_b pe_b hs).run pins s σ H D I ?_⟩
  exact lcZ_out hi hg ht he h
/-- a place where what stands is said -/
def tCutG (t u : TS) : TS := fun D σ H => ∃ Mid : L2.St → Hp → Prop, t { D with nx := Mid } σ H ∧ ∀ σ' H', Mid σ' H' → u D σ' H'
theorem pss_cutG {st : Stmt} {rest : List Stmt} {t u : TS} (h1 : PS X st t) (h2 : PSs X rest u) : PSs X (st :: rest) (tCutG t u) := by
  refine ⟨fun pins s σ H D I h => ?_⟩
  obtain ⟨Mid, h3, h4⟩ := h
  refine wpAny_execs_cons (thn (h1.run pins s σ H _ I h3) fun f s1 q => ?_)
  cases f with
  | next =>
    obtain ⟨σ', H', I', m⟩ := q
    exact h2.run pins s1 σ' H' D I' (h4 σ' H' m)
  | brk => exact q
  | cont => exact q
  | ret u => exact q
/-- o[i] by a place that is not negative (for o[i] op= e) -/
def rGetL : V → V → Hp → VK → Prop := fun o i H Q => ∃ p xs k v, o = .ref p ∧ i = .int k ∧ lk (H p) = some (.lst xs) ∧ 0 ≤ k ∧ xs[k.toNat]? = some v ∧ Q v H
theorem pget_list : PGet X rGetL := by
  intro pins s σ H o i ov iv Q I ro ri h
  obtain ⟨p, xs, k, v, rfl, rfl, hp, h0, hv, q⟩ := h
  cases ro
  obtain ⟨t, rfl⟩ := ri
  obtain ⟨its, r, pl, hz⟩ := I.list (Or.inl (rd_lk hp))
  obtain ⟨u, hu, rv⟩ := r.get hv
  have hl : k.toNat < its.length := (List.getElem?_eq_some_iff.mp hu).1
  have hn := line63
  have hl2 := r.length
  exact wpAny_getItem_list pl.isList h0 (by omega) (by simpa using hu) ⟨v, H, I, rv, q⟩
theorem tyN_sub {H H' : Hp} {x : V} {t : String} (s : Sub H H') (h : tyName H x = some t) : tyName H' x = some t := by
  cases x with
  | ref a =>
    rw [tyN_ref] at h ⊢
    rw [s a (fun e => by rw [e] at h; cases h)]
    exact h
  | _ => exact h
theorem tyN_new {H : Hp} {x : V} {t : String} {p : Addr} {o : HO} (h : H p = none) (e : tyName H x = some t) : tyName (upd H p o) x = some t := tyN_sub (Sub.new h) e
/-- products of numbers of few bits -/
theorem cmul {i j : Int} (h1 : i.natAbs < 2 ^ 4000) (h2 : j.natAbs < 2 ^ 4000) : CMulW i j := wide_mul (a := 4000) (b := 4000) h1 h2 (by decide) (by decide) (by decide)
theorem cdivw {i j : Int} (h1 : 0 < j) (h2 : j.natAbs < 2 ^ 4000) : CDivW i j := wide_div h1 h2 (by decide) (by decide)
theorem few {i : Int} (h1 : -(10 ^ 1000) ≤ i) (h2 : i ≤ 10 ^ 1000) : i.natAbs < 2 ^ 4000 := by
  have h : (10 : Nat) ^ 1000 < 2 ^ 4000 := by decide
  have h3 : ((10 ^ 1000 : Nat) : Int) = 10 ^ 1000 := by norm_cast
  omega
theorem few40 {i : Int} (h1 : -(10 ^ 80) ≤ i) (h2 : i ≤ 10 ^ 80) : i.natAbs < 2 ^ 4000 := by
  have h : (10 : Nat) ^ 80 < 2 ^ 4000 := by decide
  have h3 : ((10 ^ 80 : Nat) : Int) = 10 ^ 80 := by norm_cast
  omega
/-- an if whose branches are wanted by cases -/
theorem ite_all {c A B : Prop} [Decidable c] (h1 : c → A) (h2 : ¬ c → B) : if c then A else B := ite2 h1 h2
theorem loop_ix {α : Type} {zs : List α} {Gd : Hp → Prop} {R : α → Hp → V → Hp → Prop} {g : TG} {tb : TS} {D : Ends} {σ : L2.St} {H : Hp} (Pv : Nat → L2.St → Hp → Prop) (h0 : Pv 0 σ H) (hG : ∀ i σ H, Pv i σ H → Gd H)
    (hs : ∀ i z σ H x H', zs[i]? = some z → Pv i σ H → R z H x H' → g x σ H' fun σ2 H2 => tb { D with nx := Pv (i + 1), ct := Pv (i + 1), bk := D.nx } σ2 H2) (hd : ∀ σ H, Pv zs.length σ H → D.nx σ H) : LoopZ zs Gd R g tb D σ H := by
  refine ⟨fun done rest σ H => Pv done.length σ H, h0, fun _ _ σ H _ p => hG _ σ H p, fun done z rest σ H x H' e p r => ?_, fun σ H p => hd σ H p⟩
  have hz : zs[done.length]? = some z := by rw [← e]; simp
  have q := hs _ z σ H x H' hz p r
  simpa using q
theorem intsZ_get {lo hi z : Int} {i : Nat} (h : (intsZ lo hi)[i]? = some z) : z = lo + (i : Nat) ∧ i < (hi - lo).toNat := by
  unfold intsZ at h
  rw [List.getElem?_map] at h
  cases e : (List.range (hi - lo).toNat)[i]? with
  | none => rw [e] at h; cases h
  | some j =>
    rw [e] at h
    have hj : i < (hi - lo).toNat := by simpa using (List.getElem?_eq_some_iff.mp e).1
    have ej : j = i := by simpa [hj] using e.symm
    exact ⟨by rw [← ej]; exact (Option.some.inj h).symm, hj⟩
theorem intsZ_len {lo hi : Int} : (intsZ lo hi).length = (hi - lo).toNat := by unfold intsZ; simp
theorem ixN_at {n j : Nat} (hj : j < n) : ixN n (j : Int) = some j := by
  unfold ixN
  rw [if_pos (by omega), if_pos (by omega)]
  simp
theorem atI_at {α : Type} {xs : List α} {j : Nat} {v : α} (h : xs[j]? = some v) : atI xs (j : Int) = some v := by
  unfold atI
  rw [ixN_at (List.getElem?_eq_some_iff.mp h).1]
  exact h
/-- a dict read while frozen: back to the heap as it was -/
theorem unfrz {H H' : Hp} {d : Addr} {u : HO} {od : Obj} (h : H d = some u) (s : Sub (upd H d (.frz od u)) H') : Sub H (upd H' d u) := fun a ha => by
  by_cases e : a = d
  · rw [e, upd_same, h]
  · rw [upd_ne e]
    have e2 : upd H d (.frz od u) a = H a := upd_ne e
    rw [s a (by rw [e2]; exact ha), e2]
end
/-- the type of an own plain instance, as isinstance asks for it -/
structure InsTy (K : PySem.W.Frag) (C : Addr) : Prop where
  cl : Cls K C
  ha : PySem.W.findIn K (.ref C) "__class__" = some (some (.builtin "object.__class__"))
  hn : PySem.W.specialIn K (.builtin "object.__class__") "__get__" = some (some (.builtin "getset_descriptor.__get__"))
  htk : PySem.W.takesIn K (.builtin "object.__class__") = some true
  hm : PySem.W.mroIn K C (.type "object") = some true
def rIsiO (C : Addr) (vs : List V) (H : Hp) (Q : VK) : Prop := ∃ a dx fs, vs = [.ref a, .ref C] ∧ H a = some (.ins C dx fs) ∧ Q (.bl true) H
theorem call_isiO {X : Cx} {C : Addr} (t : InsTy X.K C) : CallR X (.builtin "isinstance") (rIsiO C) := by
  intro pins s σ H xs us Q I r h
  obtain ⟨a, dx, fs, e, ha, q⟩ := h
  exact call_isi pins s σ H xs us Q I r ⟨.ref a, .ref C, .ref C, .ref C, true, e, .own C, .base (.ins ha t.cl t.ha t.hn t.htk t.hm), by simp [PySem.W.kitOne], q⟩
end G

set_option Elab.async false
set_option linter.all false
set_option maxRecDepth 100000
set_option maxHeartbeats 4000000
/-! A head's facts, each a test of its own; defs found by any path. -/
namespace G
open PySem PySem.Spec PyProof.Rows L2 He
abbrev Chk := PySem.W.Frag → Bool
structure DefG where
  adr : PySem.W.Frag → Addr
  name : Str
  qual : Str
  params : Arguments
  body : List Stmt
  scope : Scope
  dfl : List He.Dv := []
  kwd : List (Str × He.Dv) := []
def fnAt (K : PySem.W.Frag) (a : Addr) : FnW := match K.lookup a with
  | some ⟨_, _, .func fd, _⟩ => some (fd.name, fd.qualname, fd.params, fd.body, fd.scope, fd.globals, fd.closure, fd.builtins)
  | _ => none
def DefG.val (d : DefG) : FnW := some (d.name, d.qual, d.params, .stmts d.body, d.scope, mainGlobals, [], builtinsNs)
def DefG.dvs (K : PySem.W.Frag) (d : DefG) : List V := d.dfl.map (Dv.v K)
def DefG.kws (K : PySem.W.Frag) (d : DefG) : List (Str × V) := d.kwd.map fun q => (q.1, q.2.v K)
def DefG.ok (K : PySem.W.Frag) (d : DefG) : Bool := PySem.W.keepIn K (.ref (d.adr K)) && (match K.lookup (d.adr K) with
  | some ⟨_, _, .func fd, _⟩ => PySem.W.codeIn K fd.code d.qual && (dflB K fd.defaults (d.dvs K) && kwdB K fd.kwdefaults (d.kws K))
  | _ => false)
theorem DefG.funD {K : PySem.W.Frag} {d : DefG} (e : fnAt K (d.adr K) = d.val) (c : d.ok K = true) : ∃ fd, FunD K d.name d.qual d.params d.body d.scope (d.dvs K) (d.kws K) (d.adr K) fd := by
  obtain ⟨kp, c2⟩ := ba c
  unfold fnAt at e
  cases q : K.lookup (d.adr K) with
  | none => rw [q] at c2; cases c2
  | some o =>
    obtain ⟨oc, od, dt, osl⟩ := o
    rw [q] at c2 e
    cases dt with
    | func fd =>
      obtain ⟨m1, m2, m3, m4, m5, m6, m7, m8, m9, m10, m11, m12, m13, m14, m15⟩ := fd
      have e2 : (some (m1, m2, m3, m4, m5, m6, m7, m15) : FnW) = some (d.name, d.qual, d.params, .stmts d.body, d.scope, mainGlobals, [], builtinsNs) := e
      simp only [Option.some.injEq, Prod.mk.injEq] at e2
      obtain ⟨g1, g2, g3, g4, g5, g6, g7, g8⟩ := e2
      subst g1 g2 g3 g4 g5 g6 g7 g8
      obtain ⟨k1, k2⟩ := ba (show (PySem.W.codeIn K m13 d.qual && (dflB K m8 (d.dvs K) && kwdB K m9 (d.kws K))) = true from c2)
      obtain ⟨k3, k4⟩ := ba k2
      exact ⟨_, ⟨oc, od, m8, m9, m10, m11, m12, m13, m14, osl, rfl, q, k1, dflB_ok k3, kwdB_ok k4⟩, kp⟩
    | _ => cases c2
/-! ### tests -/
def propB (x f : Str) : Chk := fun K => eqO (PySem.W.findIn K (.ref (ga K x)) f) (some (some (.ref (ma K (ga K x) f)))) && (eqO (PySem.W.specialIn K (.ref (ma K (ga K x) f)) "__get__") (some (some (.builtin "property.__get__"))) &&
  (decide (PySem.W.takesIn K (.ref (ma K (ga K x) f)) = some true) && (match PySem.W.recIn K (ma K (ga K x) f) "property" with
    | some (.ref _ :: _) => true
    | _ => false)))
theorem propB_ok {K : PySem.W.Frag} {x f : Str} (h : propB x f K = true) : PropOf K (ga K x) f (ma K (ga K x) f) (gAd K (ga K x) f) := by
  obtain ⟨h1, h⟩ := ba h
  obtain ⟨h2, h⟩ := ba h
  obtain ⟨h3, h4⟩ := ba h
  refine ⟨eqO_ok h1, eqO_ok h2, of_decide_eq_true h3, ?_⟩
  unfold gAd
  cases e : PySem.W.recIn K (ma K (ga K x) f) "property" with
  | none => rw [e] at h4; cases h4
  | some l =>
    rw [e] at h4
    cases l with
    | nil => cases h4
    | cons v r =>
      cases v with
      | ref g => exact ⟨r, rfl⟩
      | _ => cases h4
def conB (x f : Str) (v : He.Dv) : Chk := fun K => !PySem.W.copiedNames.contains f && match PySem.W.findIn K (.ref (ga K x)) f with
  | some (some u) => relB (v.v K) u && eqO (PySem.W.specialIn K u "__get__") (some none)
  | _ => false
theorem conB_ok {K : PySem.W.Frag} {x f : Str} {v : He.Dv} (h : conB x f v K = true) : ∃ u, Con K (ga K x) f (v.v K) u := by
  obtain ⟨h0, h⟩ := ba h
  cases e : PySem.W.findIn K (.ref (ga K x)) f with
  | none => rw [e] at h; cases h
  | some o =>
    rw [e] at h
    cases o with
    | none => cases h
    | some u =>
      obtain ⟨h1, h2⟩ := ba h
      exact ⟨u, e, relB_ok h1, eqO_ok h2, by simpa using h0⟩
def sysB : Chk := fun K => match K.lookup sysModules with
  | some ⟨_, _, .dict _ _, _⟩ => true
  | _ => false
theorem sysB_ok {K : PySem.W.Frag} (h : sysB K = true) : KSys K := by
  unfold sysB at h
  cases e : K.lookup sysModules with
  | none => rw [e] at h; cases h
  | some o =>
    obtain ⟨oc, od, dt, osl⟩ := o
    rw [e] at h
    cases dt with
    | dict es n => exact ⟨_, es, n, e, rfl⟩
    | _ => cases h
def insB (x : Str) : Chk := fun K => (Fa.cls x).ok K && (eqO (PySem.W.findIn K (.ref (ga K x)) "__class__") (some (some (.builtin "object.__class__"))) &&
  (eqO (PySem.W.specialIn K (.builtin "object.__class__") "__get__") (some (some (.builtin "getset_descriptor.__get__"))) &&
    (decide (PySem.W.takesIn K (.builtin "object.__class__") = some true) && decide (PySem.W.mroIn K (ga K x) (.type "object") = some true))))
theorem insB_ok {K : PySem.W.Frag} {x : Str} (h : insB x K = true) : InsTy K (ga K x) := by
  obtain ⟨h1, h⟩ := ba h
  obtain ⟨h2, h⟩ := ba h
  obtain ⟨h3, h⟩ := ba h
  obtain ⟨h4, h5⟩ := ba h
  exact ⟨cls_ok h1, eqO_ok h2, eqO_ok h3, of_decide_eq_true h4, of_decide_eq_true h5⟩
def neB (x : Str) : Chk := fun K => eqO (PySem.W.findIn K (.ref (ga K x)) "__ne__") (some (some (.builtin "object.__ne__")))
def nfB (x y : Str) : Chk := fun K => PySem.W.notFirst K (ga K x) (.ref (ga K y))
/-! ### the Hook -/
def obsG (fb : List Chk) (fn : List DefG) (K : PySem.W.Frag) : AlD := ((fb.all fun f => f K) && fn.all fun d => d.ok K, fn.map fun d => fnAt K (d.adr K))
def valG (fn : List DefG) : AlD := (true, fn.map DefG.val)
def SaysG (fb : List Chk) (fn : List DefG) (K : PySem.W.Frag) : Prop := obsG fb fn K = valG fn
def obsGG (n : Nat) (fb : List Chk) (fn : List DefG) (g : Addr → Option Obj) : AlD := obsG fb fn (frG g (sysModules :: asD g n))
def hookG (n : Nat) (fb : List Chk) (fn : List DefG) : PySem.W.Hook where
  α := AlD
  obs := fun s => obsGG n fb fn s.heap.get?
  val := fun _ => valG fn
  says := fun _ h => ∃ K : PySem.W.Frag, K.In h ∧ SaysG fb fn K
  of := fun _ _ e => ⟨_, frG_in, e⟩
  keeps := fun _ _ _ ⟨K, hK, c⟩ k => ⟨K, PySem.W.Frag.In.keeps hK k, c⟩
theorem obsGG_eq {n : Nat} {fb : List Chk} {fn : List DefG} {g : Addr → Option Obj} {s : Shared} (h : ∀ a, g a = s.heap.get? a) : obsGG n fb fn g = (hookG n fb fn).obs s := by
  have e : g = s.heap.get? := funext h
  rw [e] <;> rfl
section
variable {fb : List Chk} {fn : List DefG} {K : PySem.W.Frag}
theorem SaysG.fact (c : SaysG fb fn K) (i : Nat) {f : Chk} (h : fb[i]? = some f := by rfl) : f K = true := by
  have c1 := (ba (show ((fb.all fun f => f K) && fn.all fun d => d.ok K) = true from congrArg (fun z : AlD => z.1) c)).1
  exact List.all_eq_true.mp c1 f (List.mem_of_getElem? h)
theorem SaysG.def_ (c : SaysG fb fn K) (i : Nat) {d : DefG} (h : fn[i]? = some d := by rfl) : ∃ fd, FunD K d.name d.qual d.params d.body d.scope (d.dvs K) (d.kws K) (d.adr K) fd := by
  have c2 := (ba (show ((fb.all fun f => f K) && fn.all fun d => d.ok K) = true from congrArg (fun z : AlD => z.1) c)).2
  have e : fn.map (fun d => fnAt K (d.adr K)) = fn.map DefG.val := congrArg (fun z : AlD => z.2) c
  have e2 : (fn.map fun d => fnAt K (d.adr K))[i]? = (fn.map DefG.val)[i]? := by rw [e]
  rw [List.getElem?_map, List.getElem?_map, h] at e2
  exact DefG.funD (Option.some.inj e2) (List.all_eq_true.mp c2 d (List.mem_of_getElem? h))
end
/-! ### a head's facts in parts -/
theorem obsG_app {fb0 fb1 : List Chk} {fn : List DefG} {K : PySem.W.Frag} (h0 : obsG fb0 fn K = valG fn) (h1 : obsG fb1 [] K = valG []) : obsG (fb0 ++ fb1) fn K = valG fn := by
  unfold obsG valG at *
  simp only [Prod.mk.injEq] at h0 h1 ⊢
  obtain ⟨a1, a2⟩ := h0
  obtain ⟨b1, _⟩ := h1
  obtain ⟨a3, a4⟩ := ba a1
  obtain ⟨b3, _⟩ := ba b1
  exact ⟨by rw [List.all_append, a3, b3, a4]; rfl, a2⟩
theorem run_join {r : PySem.W.OpenRow} {q : Program} {n M : Nat} {fb0 fb1 : List Chk} {fn : List DefG} {loose : List PySem.Str} {w : World}
    (h0 : HandSHeadRun.RunEq r q (hookG n fb0 fn) (fun s => obsGG n fb0 fn (HandSHeadRun.getT s)) M loose w) (h1 : HandSHeadRun.RunEq r q (hookG n fb1 []) (fun s => obsGG n fb1 [] (HandSHeadRun.getT s)) M loose w) :
    HandSHeadRun.RunEq r q (hookG n (fb0 ++ fb1) fn) (fun s => obsGG n (fb0 ++ fb1) fn (HandSHeadRun.getT s)) M loose w := fun os => by
  obtain ⟨s, e, a⟩ := Option.map_eq_some_iff.mp (h0 os)
  obtain ⟨s2, e2, b⟩ := Option.map_eq_some_iff.mp (h1 os)
  rw [e] at e2
  cases e2
  refine Option.map_eq_some_iff.mpr ⟨s, e, ?_⟩
  have a1 := congrArg (fun z => z.1) a
  have a2 := congrArg (fun z => z.2.1) a
  have a3 := congrArg (fun z => z.2.2) a
  have b3 := congrArg (fun z => z.2.2) b
  exact Prod.ext a1 (Prod.ext a2 (obsG_app a3 b3))
/-! ### .. off a written list of addresses -/
def obsLL (as : List Addr) (fb : List Chk) (fn : List DefG) (g : Addr → Option Obj) : AlD := obsG fb fn (frG g as)
def hookL (as : List Addr) (fb : List Chk) (fn : List DefG) : PySem.W.Hook where
  α := AlD
  obs := fun s => obsLL as fb fn s.heap.get?
  val := fun _ => valG fn
  says := fun _ h => ∃ K : PySem.W.Frag, K.In h ∧ SaysG fb fn K
  of := fun _ _ e => ⟨_, frG_in, e⟩
  keeps := fun _ _ _ ⟨K, hK, c⟩ k => ⟨K, PySem.W.Frag.In.keeps hK k, c⟩
theorem obsLL_eq {as : List Addr} {fb : List Chk} {fn : List DefG} {g : Addr → Option Obj} {s : Shared} (h : ∀ a, g a = s.heap.get? a) : obsLL as fb fn g = (hookL as fb fn).obs s := by
  have e : g = s.heap.get? := funext h
  rw [e] <;> rfl
theorem run_joinL {r : PySem.W.OpenRow} {q : Program} {M : Nat} {as : List Addr} {fb0 fb1 : List Chk} {fn : List DefG} {loose : List PySem.Str} {w : World}
    (h0 : HandSHeadRun.RunEq r q (hookL as fb0 fn) (fun s => obsLL as fb0 fn (HandSHeadRun.getT s)) M loose w) (h1 : HandSHeadRun.RunEq r q (hookL as fb1 []) (fun s => obsLL as fb1 [] (HandSHeadRun.getT s)) M loose w) :
    HandSHeadRun.RunEq r q (hookL as (fb0 ++ fb1) fn) (fun s => obsLL as (fb0 ++ fb1) fn (HandSHeadRun.getT s)) M loose w := fun os => by
  obtain ⟨s, e, a⟩ := Option.map_eq_some_iff.mp (h0 os)
  obtain ⟨s2, e2, b⟩ := Option.map_eq_some_iff.mp (h1 os)
  rw [e] at e2
  cases e2
  refine Option.map_eq_some_iff.mpr ⟨s, e, ?_⟩
  have a1 := congrArg (fun z => z.1) a
  have a2 := congrArg (fun z => z.2.1) a
  have a3 := congrArg (fun z => z.2.2) a
  have b3 := congrArg (fun z => z.2.2) b
  exact Prod.ext a1 (Prod.ext a2 (obsG_app a3 b3))
end G

set_option Elab.async false
set_option linter.all false
set_option maxRecDepth 100000
set_option maxHeartbeats 4000000
/-! Own + and own [] of plain instances. -/
namespace G
open PySem PySem.Spec PyProof.Rows L2
section
variable {X : Cx} {C f : Addr} {k : Nat} {fd : FuncData} {ps : List Str} {sp : Sp} {E : XK} {CX : CXT}
/-- x + y by x's own __add__, y of the same class -/
def rAddO (C : Addr) (sp : Sp) (E : XK) : R2 := fun x y H Q => ∃ a dx fs b dy gs, x = .ref a ∧ y = .ref b ∧ H a = some (.ins C dx fs) ∧ H b = some (.ins C dy gs) ∧ sp [x, y] H Q E
theorem op_addO (m : Meth X.K C "__add__" f) (sf : PySem.W.selfFirst X.K C = true) (F : FnOk X.prog X.w X.K X.mg X.base CX k f fd ps sp) (hr : Room k X.A) (hb : Binds X.K fd ps []) (hx : Passes CX X E) :
    OpR X (binaryOp .Add) (rAddO C sp E) := by
  intro pins s σ H x y v u Q I rx ry h
  obtain ⟨a, dx, fs, b, dy, gs, rfl, rfl, ha, hb', q⟩ := h
  cases (show v = Value.ref a from rx)
  cases (show u = Value.ref b from ry)
  obtain ⟨od, J⟩ := inst_of I ha
  obtain ⟨od', J'⟩ := inst_of I hb'
  obtain ⟨m0, hF⟩ := I.fr
  refine PySem.W.binop_K (op := .Add) hF I.ok.mod.kin J J'.type sf m.1 m.2 ?_
  refine wpAny_mono (run_fn (us := [.ref a, .ref b]) (vs := [.ref a, .ref b]) (ds := []) (dvs := []) F hr hb .nil hx I (.cons rfl (.cons rfl .nil)) q) ?_ (fun _ _ z => z)
  rintro w s' ⟨z, H', I', rz, qz⟩
  exact SlX.cmpback rz ⟨z, H', I', rz, qz⟩
/-- x[i] by x's own __getitem__ -/
def rIxO (C : Addr) (sp : Sp) (E : XK) : R2 := fun x y H Q => ∃ a dx fs, x = .ref a ∧ H a = some (.ins C dx fs) ∧ sp [x, y] H Q E
theorem pe_ixO {a b : Expr} {ta tb : TE} {pos : Pos} (m : Meth X.K C "__getitem__" f) (fn : PySem.W.fnIn X.K f = true) (F : FnOk X.prog X.w X.K X.mg X.base CX k f fd ps sp) (hr : Room (k + 1) X.A) (hb : Binds X.K fd ps []) (hx : Passes CX X E) (ha : PE X a ta) (hb' : PE X b tb)
    (hs : ∀ (x : Addr) (i : Value), subscripted b true (.ref x) i = runValue (.builtin "lifetime.subscript" ⟨[.ref x, i], []⟩) := by intro _ _; with_unfolding_all rfl) : PE X (.Subscript a b pos) (tOp (rIxO C sp E) ta tb) := by
  refine ⟨fun pins s σ H Q I h => Subscript_ (binT ha hb' I h fun v u s2 x y H2 I2 rx ry q => ?_)⟩
  obtain ⟨o, dx, fs, rfl, ho, q⟩ := q
  cases (show v = Value.ref o from rx)
  obtain ⟨od, J⟩ := inst_of I2 ho
  obtain ⟨m0, hF⟩ := I2.fr
  refine PySem.W.sub_K hF I2.ok.mod.kin J m.1 fn m.2 ?_ (hs _ _)
  exact run_in1 (us := [.ref o, u]) (vs := [.ref o, y]) F hr.in1 hb hx I2 (.cons rfl (.cons ry .nil)) q
end
end G

set_option Elab.async false
set_option linter.all false
set_option maxRecDepth 100000
set_option maxHeartbeats 4000000
/-! A list comprehension by an invariant. -/
namespace G
open PySem PySem.Spec PyProof.Rows L2
/-- Pv i ys H: what stands behind i items, ys the values so far -/
def LcI {α : Type} (zs : List α) (Gd : Hp → Prop) (R : α → Hp → V → Hp → Prop) (g : TG) (tt : TT) (te : TE) (vs : List Nat) (σ : L2.St) (H1 : Hp) (Q : VK) : Prop := ∀ D, H1 D = none → ∃ Pv : Nat → List V → Hp → Prop,
  zs.length ≤ 16777216 ∧ Pv 0 [] (upd H1 D (.lst [])) ∧ (∀ i ys H, Pv i ys H → Gd H) ∧
  (∀ i z ys H x H', zs[i]? = some z → H D = some (.lst ys) → Pv i ys H → R z H x H' → g x (wipe σ vs) H' fun σ2 H2 => wipe σ2 vs = wipe σ vs ∧ tt σ2 H2 fun b H3 =>
    if b = true then te σ2 H3 fun y H4 => H4 D = some (.lst ys) ∧ Pv (i + 1) (ys ++ [y]) (upd H4 D (.lst (ys ++ [y]))) else H3 D = some (.lst ys) ∧ Pv (i + 1) ys H3) ∧
  ∀ ys H', H' D = some (.lst ys) → Pv zs.length ys H' → Q (.ref D) H'
def tLcI {α : Type} (wz : TIZ α) (g : TG) (tt : TT) (te : TE) (vs : List Nat) : TE := fun σ H Q => wz σ H fun zs Gd R H1 => LcI zs Gd R g tt te vs σ H1 Q
theorem lcI_out {α : Type} {X : Cx} {elt tg iter : Expr} {ifs : List Expr} {scope : Scope} {vs : List Nat} {wz : TIZ α} {g : TG} {tt : TT} {te : TE} {σ : L2.St} {H : Hp} {Q : VK} (hi : PIZ X tg iter wz)
    (hg : Blks X scope fun B => PG B tg g) (ht : Blks X scope fun B => PTs B ifs tt) (he : Blks X scope fun B => PE B elt te) (h : tLcI wz g tt te vs σ H Q) :
    tLc (semI X tg iter) (bG X scope tg) (bT X scope ifs) (bE X scope elt) vs σ H Q := by
  refine semI.of pi_sem (hi σ H _ h) fun J H1 ⟨zs, Gd, R, W, hall⟩ => ?_
  intro D hD
  obtain ⟨Pv, hz, h0, hG, hel, hend⟩ := hall D hD
  refine lc_it W.walk (fun i H => ∃ ys, H D = some (.lst ys) ∧ ys.length ≤ i ∧ Pv i ys H) ⟨[], upd_same, Nat.le_refl _, h0⟩ (fun i H _ ⟨ys, _, _, p⟩ => hG i ys H p) ?_ ?_
  · rintro i x H H' hi ⟨ys, hy, hl, p⟩ ⟨z, hzi, r⟩
    refine bG.of hg (hel i z ys H x H' hzi hy p r) fun σ2 H2 ⟨hw, q⟩ => ⟨hw, bT.of ht q fun b H3 q3 => ?_⟩
    cases b with
    | true =>
      rw [if_pos rfl] at q3
      exact bE.of he q3 fun y H4 ⟨e4, p4⟩ => ⟨ys, e4, by rw [sizeLine_eq]; omega, ys ++ [y], upd_same, by rw [List.length_append]; simp; omega, p4⟩
    | false =>
      rw [if_neg Bool.false_ne_true] at q3
      exact ⟨ys, q3.1, by omega, q3.2⟩
  · rintro H ⟨ys, hy, _, p⟩
    exact hend ys H hy p
theorem pe_lcI {α : Type} {X : Cx} {elt tg iter : Expr} {ifs : List Expr} {scope : Scope} {own : List (PySem.Str × Nat)} {pos : Pos} {wz : TIZ α} {g : TG} {tt : TT} {te : TE} (hc : X.calm = true) (hN : X.N.Nodup) (hi : PIZ X tg iter wz) (ok : BlkOk X.N X.env.scope scope own)
    (hg : Blks X scope fun B => PG B tg g) (ht : Blks X scope fun B => PTs B ifs tt) (he : Blks X scope fun B => PE B elt te) (hs : ∀ x, foldedSetIterable iter X.env x = pure x := by intro _; rfl) :
    PE X (.ListComp elt [⟨tg, iter, ifs, 0⟩] scope pos) (tLcI wz g tt te (own.map (·.2))) :=
  ⟨fun pins s σ H Q I h => (pe_lc hc hN pi_sem ok pg_b pts_b pe_b hs).run pins s σ H Q I (lcI_out hi hg ht he h)⟩
section
variable {X : Cx} {CX : CXT} {k : Nat} {f : Addr} {sp : Sp} {E : XK} {x : Str} {p pos : Pos} {e : Expr} {es : List Expr} {t : TA}
/-- x(e, ..), x a def told by its values alone -/
theorem pe_callR (F : FnR X.prog X.w X.K X.mg X.base CX k f sp) (hr : Room k X.A) (hg : Gl X x) (hm : X.mg x = some (.ref f)) (hk : PySem.W.keepIn X.K (.ref f) = true) (hx : Passes CX X E) (ha : PA X (e :: es) t)
    (hs : starEach (e :: es) X.env = (false, eval e X.env) :: starEach es X.env := by rfl) (hpl : (backTo pos (starEach es X.env)).any (·.1) = false := by rfl) (hdb : (x == ("__debug__" : Str)) = false := by decide) :
    PE X (.Call (.Name x p) (e :: es) [] pos) (tCall sp [] E t) := by
  refine ⟨fun pins s σ H Q I h => wpAny_Call_Name_kw (ld_glob I hg hm (PySem.W.callWith_K (h₀ := X.base) I.ok.mod.kin hk (thn (ha.run pos pins s σ H _ I h) fun us s1 ⟨vs, H1, I1, r, q⟩ => ⟨I1.kIn, ?_⟩) hs hpl) hdb)⟩
  exact wpAny_call (run_fnR F hr hx I1 r (by simpa using q))
end
end G

set_option Elab.async false
set_option linter.all false
set_option maxRecDepth 100000
set_option maxHeartbeats 4000000
/-! Dicts whose keys are tuples; setdefault; a dict by its number alone. -/
namespace G
open PySem PySem.Spec PyProof.Rows L2
section
variable {X : Cx} {k : Nat}
/-- y (a tuple) in, not in a dict -/
def rInT (neg : Bool) (x : V) (y : V) (H : Hp) (Q : VK) : Prop := ∃ b p kvs k, x = .ref b ∧ y = .ref p ∧ H b = some (.tup (List.map kV k)) ∧ H p = some (.dT kvs) ∧ Q (.bl (neg ^^ (valV kvs k).isSome)) H
theorem op_notInT (hu : X.A.units + 1 < cLine) : OpR X (compareOp .NotIn) (rInT true) := by
  intro pins s σ H x y v u Q I rx ry h
  obtain ⟨b, p, kvs, k, e1, e2, hb, hp, q⟩ := h
  subst e1 e2
  cases ry
  exact d_notIn hu I (DGet.t hp hb) rx fun s3 I3 => ⟨.bl (!(valV kvs k).isSome), H, I3, rfl, by simpa using q⟩
theorem op_inT (hu : X.A.units + 1 < cLine) : OpR X (compareOp .In) (rInT false) := by
  intro pins s σ H x y v u Q I rx ry h
  obtain ⟨b, p, kvs, k, e1, e2, hb, hp, q⟩ := h
  subst e1 e2
  cases ry
  exact d_in hu I (DGet.t hp hb) rx fun s3 I3 => ⟨.bl (valV kvs k).isSome, H, I3, rfl, by simpa using q⟩
/-- d[y], y a tuple -/
def rIxT (x : V) (y : V) (H : Hp) (Q : VK) : Prop := ∃ b p kvs k v, x = .ref p ∧ y = .ref b ∧ H b = some (.tup (List.map kV k)) ∧ H p = some (.dT kvs) ∧ valV kvs k = some v ∧ Q v H
theorem ix_T (hu : X.A.units + 1 < cLine) : IxR X rIxT := by
  intro value slice pins s σ H x y v u Q I rx ry h hs
  obtain ⟨b, p, kvs, k, z, rfl, rfl, hb, hp, hv, q⟩ := h
  cases rx
  have g : DGet H p (.ref b) (some z) := by
    rw [← hv]
    exact DGet.t hp hb
  have hT := dict_typeIs I g
  unfold subscriptTail
  refine wpAny_bind ?_
  rw [getitemInPython_of_ne hT.not_modules]
  refine wpAny_bind (wpAny_specialOf hT PySem.F.slot_dict_getitem.lookup ?_)
  have fin : wpAny (model X.prog X.w) X.A (subscripted slice false (.ref p) u) (fun r s₃ => wpAny (model X.prog X.w) X.A (letTemporaryGo value (.ref p) r >>= fun _ => pure r) (EP X pins σ Q) X.xe s₃) X.xe s := by
    rw [hs]
    exact wpAny_operating (d_getItem hu I g ry fun w' s3 I3 rw' => wpAny_bind (wpAny_letTemporaryGo (wpAny_pure ⟨z, H, I3, rw', q⟩)))
  first
    | exact wpAny_pure (wpAny_bind fin)
    | exact wpAny_bind (wpAny_pure (wpAny_bind fin))
    | exact wpAny_bind fin
/-- d[y] = v, y a tuple -/
def sDPutT (td ty tv : TE) : TS := fun D σ H => tv σ H fun v H1 => td σ H1 fun x H2 => ty σ H2 fun y H3 => ∃ a kvs k b, x = .ref a ∧ H3 a = some (.dT kvs) ∧ y = .ref b ∧ H3 b = some (.tup (List.map kV k)) ∧ kvs.length < sizeLine ∧ D.nx σ (upd H3 a (.dT (putK kvs k v)))
theorem ps_dputT {o i value : Expr} {td ty tv : TE} {pos pos' : Pos} (hu : X.A.units + 1 < cLine) (ho : PE X o td) (hi : PE X i ty) (hv : PE X value tv) (hs : swapsWith value (some (.Subscript o i pos')) pos.line X.env = pure false) :
    PS X (.Assign [.Subscript o i pos'] value pos) (sDPutT td ty tv) := by
  refine ⟨fun pins s σ H D I h => (ps_dput hu pe_sem pe_sem pe_sem hs).run pins s σ H D I ?_⟩
  exact semE.of hv h fun v H1 h1 => semE.of ho h1 fun x H2 h2 => semE.of hi h2 fun y H3 ⟨a, kvs, k, b, e1, e2, e3, e3', e4, q⟩ => ⟨a, _, e1, by rw [e3]; exact DPut.t e2 e3' e4, q⟩
end
end G

set_option Elab.async false
set_option linter.all false
set_option maxRecDepth 100000
set_option maxHeartbeats 4000000
/-! A range with a step. -/
namespace G
open PySem PySem.Spec PyProof.Rows L2
def rngC (lo c : Int) (n : Nat) : List Int := (List.range n).map fun i => lo + (i : Nat) * c
theorem wz_rngC (lo c : Int) (n : Nat) : WZ (Itc lo c n) (rngC lo c n) (fun _ => True) (RVal V.int) := ⟨by
  have w := walk_rangeC (lo := lo) (c := c) (n := n)
  unfold rngC
  rw [List.length_map, List.length_range]
  exact w.mono (fun _ _ => True.intro) fun i H v H' hi _ ⟨e1, e2⟩ => ⟨lo + (i : Nat) * c, by simp [hi], e1, e2⟩⟩
def zRng3 (ta : TA) : TIZ Int := fun σ H k => ta σ H fun vs H2 => ∃ (i j c : Int) (n : Nat), vs = [.int i, .int j, .int c] ∧ RgC i j c n ∧ k (rngC i c n) (fun _ => True) (RVal V.int) H2
section
variable {X : Cx} {tg : Expr}
theorem z_rng3 {a b c : Expr} {ta : TA} {p pos : Pos} (hg : Gl X "range") (hm : X.mg "range" = none) (ha : PA X [a, b, c] ta)
    (hs : starEach [a, b, c] X.env = (false, eval a X.env) :: starEach [b, c] X.env := by rfl) (hpl : (backTo pos (starEach [b, c] X.env)).any (·.1) = false := by rfl) : PIZ X tg (.Call (.Name "range" p) [a, b, c] [] pos) (zRng3 ta) := fun σ H k h =>
  semI.of (pi_range3 hg hm pa_sem hs hpl) (semA.of ha h fun v H2 ⟨i, j, c, n, ea, hh, q⟩ => (⟨i, j, c, n, ea, hh, rngC i c n, _, RVal V.int, wz_rngC i c n, q⟩ :
    ∃ (i j c : Int) (n : Nat), v = [.int i, .int j, .int c] ∧ RgC i j c n ∧ ∃ zs Gd R, WZ (Itc i c n) zs Gd R ∧ k zs Gd R H2)) fun _ _ q => q
end
end G

set_option Elab.async false
set_option linter.all false
set_option maxRecDepth 100000
set_option maxHeartbeats 4000000
/-! A law's end with tables of code objects, for defs that know no repr runs; a head that tells the tables. -/
namespace G
open PySem PySem.Spec PyProof.Rows L2 He
section
variable {P : Program} {w : World} {K : PySem.W.Frag} {mg mb : Str → Option Value} {CX : CXT} {k : Nat} {fa a : Addr} {fd : FuncData} {x : Str} {sp : Sp} {s₁ : Shared} {vs : List Value} {ns : List Int} {cs : List (Addr × Addr)}
def emptyO : Obj := { cls := .none, data := .fields #[] }
/-- what is tracked as the law is called: the tables and perhaps the script -/
def OnlyT (cs : List (Addr × Addr)) (H : Hp) : Prop := ∀ b, H b = none ∨ b ∈ cs.map (·.2) ∨ ∃ o xs, H b = some (.frz o (.lst xs))
/-- the tables, at the heap h -/
structure TabsAt (K : PySem.W.Frag) (cs : List (Addr × Addr)) (h : Heap) : Prop where
  empty : ∀ p ∈ cs, h.get? p.2 = some emptyO
  out : ∀ p ∈ cs, K.lookup p.2 = none
  code : ∀ p ∈ cs, PySem.W.CodeHd h p.1 p.2
theorem law_fromT {H : Hp} (KX : K.In s₁.heap) (hns : s₁.heap.Ns mainGlobals mg) (hb : s₁.heap.Ns builtinsNs mb) (hbb : ∀ x : Str, x ≠ "__name__" → mb x = bootBuiltins x) (hlim : s₁.heap.NoLimit) (hg : s₁.gens = #[]) (TA : TabsAt K cs s₁.heap)
    (hbm : ∃ (bm : Addr) (ob : Obj), mg "__builtins__" = some (.ref bm) ∧ bm ≠ builtinsNs ∧ s₁.heap.get? bm = some ob ∧ ob.cls = .type "module" ∧ ob.dict = some builtinsNs ∧ ob.data = .plain)
    (ha : s₁.heap.get? a = some { cls := .type "list", data := .seq vs.toArray }) (hr : Room k callerA)
    (F : ∀ base : Heap, K.In base → base.Ns mainGlobals mg → (∀ p ∈ cs, LamX.TabB base mg p.1 p.2) → FnG P w K mg base CX k fa fd [x] sp) (hbind : ∀ (s : Shared) (u : Value), BindsTo s fd ⟨[u], []⟩ [(x, u)])
    (hsp : sp [.ref a] H (fun v _ => v = .bl true) fun _ _ _ => False) (hCX : ∀ e s', CX [] H s₁ (fun _ _ _ => False) e s' → False)
    (hH : ∀ p ∈ cs, H p.2 = some (.tbl #[])) (hO : OnlyT cs H) (hok : HOk P w H s₁.heap) (hA : ∀ b, H b ≠ none → b = a ∨ b ∈ cs.map (·.2)) (hK : H a ≠ none → K.lookup a = none) :
    codeAny (model P w) callerA (.call (.ref fa) ⟨[.ref a], []⟩) (LawEnd s₁) s₁ := by
  have atT : ∀ {b : Addr}, b ∈ cs.map (·.2) → s₁.heap.get? b = some emptyO := by
    intro b hb
    obtain ⟨p, hp, rfl⟩ := List.mem_map.mp hb
    exact TA.empty p hp
  have free : ∀ {b : Addr} {o : Obj}, s₁.heap.get? b = some o → (∀ xs n, o.data ≠ .seq xs n) → o.data ≠ .fields #[] → H b = none := by
    intro b o e n1 n2
    cases q : H b with
    | none => rfl
    | some u =>
      rcases hA b (by rw [q]; simp) with rfl | hm
      · rw [ha] at e
        cases e
        exact absurd rfl (n1 _ _)
      · rw [atT hm] at e
        cases e
        exact absurd rfl n2
  have freeD : ∀ {b : Addr} {o : Obj} {es : Array DictEntry} {ep : Nat}, s₁.heap.get? b = some o → o.data = .dict es ep → H b = none := by
    intro b o es ep e d
    exact free e (fun _ _ z => by rw [d] at z; cases z) fun z => by rw [d] at z; cases z
  have nsK : ∀ {b : Addr} {m : Str → Option Value}, s₁.heap.Ns b m → (hidT s₁.heap H).Ns b m := by
    rintro b m ⟨o, es, ep, e, d, r⟩
    exact ⟨o, es, ep, hidT_get e (freeD e d), d, r⟩
  have hKb : K.In (hidT s₁.heap H) := by
    intro b o e
    refine hidT_get (KX b o e) ?_
    cases q : H b with
    | none => rfl
    | some u =>
      rcases hA b (by rw [q]; simp) with rfl | hm
      · rw [hK (by rw [q]; simp)] at e
        cases e
      · obtain ⟨p, hp, rfl⟩ := List.mem_map.mp hm
        rw [TA.out p hp] at e
        cases e
  have hM : Mod K mg (hidT s₁.heap H) := by
    obtain ⟨mc, h1, h2⟩ := hlim
    exact ⟨hKb, nsK hns, ⟨mb, nsK hb, hbb⟩, ⟨mc, nsK h1, h2⟩⟩
  have TB : ∀ p ∈ cs, LamX.TabB (hidT s₁.heap H) mg p.1 p.2 := by
    intro p hp
    have eP := TA.empty p hp
    obtain ⟨bm, ob, b1, b2, b3, b4, b5, b6⟩ := hbm
    obtain ⟨og, esg, epg, eg, dg, _⟩ := hns
    have nG : bm ≠ mainGlobals := by
      intro q
      rw [q, eg] at b3
      cases b3
      rw [dg] at b6
      cases b6
    have nP : bm ≠ p.2 := by
      intro q
      rw [q, eP] at b3
      cases b3
      cases b6
    have fb : H bm = none := free b3 (fun _ _ z => by rw [b6] at z; cases z) fun z => by rw [b6] at z; cases z
    refine ⟨?_, ⟨bm, ob, b1, b2, nG, nP, hidT_get b3 fb, b4, b5, b6⟩, ?_⟩
    · obtain ⟨o, us, file, tf, flags, tg, inF, text, tt, e1, r1, r2, r3, r4⟩ := TA.code p hp
      refine ⟨o, us, file, tf, flags, tg, inF, text, tt, hidT_get e1 (free e1 (fun _ _ z => by rw [r2] at z; cases z) fun z => ?_), r1, r2, r3, r4⟩
      rw [r2] at z
      cases z
      simp at r3
    · intro q
      rw [q, eP] at eg
      cases eg
      cases dg
  have e0 : Env0 P w K mg (hidT s₁.heap H) callerA [] s₁ H :=
    ⟨rfl, hM, fun b o e => of_hidT e, Nat.le_of_eq (hidT_size _ _), trivial, (fun b z => (List.not_mem_nil z).elim), hok, .of_eq hg⟩
  refine codeAny_mono ((F _ hKb (nsK hns) TB).run callerA [] s₁ H ⟨[.ref a], []⟩ [.ref a] [.ref a] _ _ rfl hr e0 (hbind s₁ (.ref a)) (.cons rfl .nil) hsp) ?_
  intro r s' h
  cases r with
  | error e => exact (hCX e s' h).elim
  | ok fl =>
    cases fl with
    | next => exact h.elim
    | brk => exact h.elim
    | cont => exact h.elim
    | ret u =>
      obtain ⟨v, H', os, bare, un, hok', r', q⟩ := h
      cases (show v = .bl true from q)
      obtain rfl : u = Value.bool true := r'
      have keep : ∀ b o, b ∉ cs.map (·.2) → s₁.heap.get? b = some o → s'.heap.get? b = some o := by
        intro b o nb e
        cases q : H b with
        | none => exact un.keep b o e q (by intro z; cases z) (by simp)
        | some u =>
          rcases hO b with z | z | ⟨ob, xs, z⟩
          · rw [q] at z
            cases z
          · exact absurd z nb
          · obtain ⟨e1, _⟩ := hok b _ z
            obtain ⟨e2, _⟩ := hok' b _ (un.frzs b ob _ z)
            rw [e] at e1
            cases e1
            exact e2
      have grown : ∀ b ∈ cs.map (·.2), ∃ more : Array Value, s'.heap.get? b = some { cls := .none, data := .fields more } := by
        intro b hb
        obtain ⟨p, hp, rfl⟩ := List.mem_map.mp hb
        obtain ⟨more, z⟩ := un.tbls p.2 #[] (hH p hp)
        exact ⟨_, hok' p.2 _ z⟩
      refine ⟨rfl, ⟨fun b o e => ?_, fun b o e => ?_⟩, os, bare⟩
      · by_cases hb : b ∈ cs.map (·.2)
        · obtain ⟨more, hm⟩ := grown b hb
          rw [atT hb] at e
          cases e
          obtain ⟨p, hp, rfl⟩ := List.mem_map.mp hb
          exact .inr (.inl ⟨((TA.code p hp).tab (TA.empty p hp)).isCodeTable, rfl, #[], more, rfl, by rw [Array.empty_append]; exact hm⟩)
        · exact .inl (keep b o hb e)
      · by_cases hb : b ∈ cs.map (·.2)
        · obtain ⟨more, hm⟩ := grown b hb
          exact ⟨_, hm⟩
        · exact ⟨o, keep b o hb e⟩
theorem law_callT (KX : K.In s₁.heap) (hns : s₁.heap.Ns mainGlobals mg) (hb : s₁.heap.Ns builtinsNs mb) (hbb : ∀ x : Str, x ≠ "__name__" → mb x = bootBuiltins x) (hlim : s₁.heap.NoLimit) (hg : s₁.gens = #[]) (TA : TabsAt K cs s₁.heap)
    (hbm : ∃ (bm : Addr) (ob : Obj), mg "__builtins__" = some (.ref bm) ∧ bm ≠ builtinsNs ∧ s₁.heap.get? bm = some ob ∧ ob.cls = .type "module" ∧ ob.dict = some builtinsNs ∧ ob.data = .plain)
    (ha : s₁.heap.get? a = some { cls := .type "list", data := .seq vs.toArray }) (hi : IntsAre vs ns) (hl : ns.length ≤ sizeLine) (hr : Room k callerA)
    (F : ∀ base : Heap, K.In base → base.Ns mainGlobals mg → (∀ p ∈ cs, LamX.TabB base mg p.1 p.2) → FnG P w K mg base CX k fa fd [x] sp) (hbind : ∀ (s : Shared) (u : Value), BindsTo s fd ⟨[u], []⟩ [(x, u)])
    (hsp : ∀ H : Hp, (∀ p ∈ cs, H p.2 = some (.tbl #[])) → OnlyT cs H → SqL K H a (ns.map V.int) → sp [.ref a] H (fun v _ => v = .bl true) fun _ _ _ => False) (hCX : ∀ H e s', CX [] H s₁ (fun _ _ _ => False) e s' → False) :
    codeAny (model P w) callerA (.call (.ref fa) ⟨[.ref a], []⟩) (LawEnd s₁) s₁ := by
  have rv := vals_ints hi
  have lenV := hi.length
  have aT : a ∉ cs.map (·.2) := by
    intro z
    obtain ⟨p, hp, e⟩ := List.mem_map.mp z
    have := TA.empty p hp
    rw [e, ha] at this
    cases this
  have memT : ∀ p ∈ cs, p.2 ∈ cs.map (·.2) := fun p hp => List.mem_map.mpr ⟨p, hp, rfl⟩
  have neT : ∀ p ∈ cs, p.2 ≠ a := fun p hp e => aT (e ▸ memT p hp)
  have okT : ∀ b ∈ cs.map (·.2), ∀ H : Hp, ObjOk P w H s₁.heap b (.tbl #[]) := by
    intro b hb H
    obtain ⟨p, hp, rfl⟩ := List.mem_map.mp hb
    exact TA.empty p hp
  cases hk : K.lookup a with
  | some o =>
    have e := KX a o hk
    rw [ha] at e
    cases e
    obtain ⟨H, eH⟩ : ∃ H : Hp, H = fun b => if b ∈ cs.map (·.2) then some (HO.tbl #[]) else none := ⟨_, rfl⟩
    have h1 : ∀ b, b ∈ cs.map (·.2) → H b = some (.tbl #[]) := fun b hb => by rw [eH]; exact if_pos hb
    have h2 : ∀ b, b ∉ cs.map (·.2) → H b = none := fun b hb => by rw [eH]; exact if_neg hb
    have hO : OnlyT cs H := fun b => by
      by_cases c : b ∈ cs.map (·.2)
      · exact .inr (.inl c)
      · exact .inl (h2 b c)
    have hS : SqL K H a (ns.map V.int) := .inr ⟨_, vs.toArray, _, hk, rfl, rfl, rfl, by rw [List.size_toArray, lenV]; exact hl, by simpa using rv⟩
    have hH := fun p hp => h1 p.2 (memT p hp)
    refine law_fromT (H := H) KX hns hb hbb hlim hg TA hbm ha hr F hbind (hsp H hH hO hS) (hCX _) hH hO (fun b u z => ?_) (fun b z => ?_) fun z => absurd (h2 a aT) z
    · by_cases c : b ∈ cs.map (·.2)
      · rw [h1 b c] at z
        cases z
        exact okT b c H
      · rw [h2 b c] at z
        cases z
    · by_cases c : b ∈ cs.map (·.2)
      · exact .inr c
      · exact absurd (h2 b c) z
  | none =>
    obtain ⟨H, eH⟩ : ∃ H : Hp, H = fun b => if b = a then some (HO.frz { cls := .type "list", data := .seq vs.toArray } (.lst (ns.map V.int))) else if b ∈ cs.map (·.2) then some (HO.tbl #[]) else none := ⟨_, rfl⟩
    have h0 : H a = some (.frz { cls := .type "list", data := .seq vs.toArray } (.lst (ns.map V.int))) := by rw [eH]; exact if_pos rfl
    have h1 : ∀ b, b ≠ a → b ∈ cs.map (·.2) → H b = some (.tbl #[]) := fun b ne hb => by rw [eH]; exact (if_neg ne).trans (if_pos hb)
    have h2 : ∀ b, b ≠ a → b ∉ cs.map (·.2) → H b = none := fun b ne hb => by rw [eH]; exact (if_neg ne).trans (if_neg hb)
    have hO : OnlyT cs H := fun b => by
      by_cases e : b = a
      · exact .inr (.inr ⟨_, _, by rw [e]; exact h0⟩)
      · by_cases c : b ∈ cs.map (·.2)
        · exact .inr (.inl c)
        · exact .inl (h2 b e c)
    have hH := fun p hp => h1 p.2 (neT p hp) (memT p hp)
    refine law_fromT (H := H) KX hns hb hbb hlim hg TA hbm ha hr F hbind (hsp H hH hO (.inl (.inr ⟨_, h0⟩))) (hCX _) hH hO (fun b u z => ?_) (fun b z => ?_) fun _ => hk
    · by_cases e : b = a
      · subst e
        rw [h0] at z
        cases z
        exact ⟨ha, by rw [List.length_map]; exact hl, vs, _, rv, ha⟩
      · by_cases c : b ∈ cs.map (·.2)
        · rw [h1 b e c] at z
          cases z
          exact okT b c H
        · rw [h2 b e c] at z
          cases z
    · by_cases e : b = a
      · exact .inl e
      · by_cases c : b ∈ cs.map (·.2)
        · exact .inr c
        · exact absurd (h2 b e c) z
end
theorem walk_ofT {l : PySem.W.OpenLaw} {n k : Nat} {q : Program} {loose : List Str} {XP : (Str → Option Value) → Heap → Prop} {YP : World → Heap → Prop} {d : DefRec} {CX : World → CXT} {x : Str}
    (hn : l.most = some n) (hn2 : n ≤ sizeLine) (hdf : d.params.defaults = []) (hr : Room k callerA)
    (F : ∀ (w : World) (mg : Str → Option Value) (fa : Addr) (h : Heap), YP w h → h.Ns mainGlobals mg → mg d.name = some (.ref fa) →
      ∃ (K : PySem.W.Frag) (fd : FuncData) (sp : Sp) (cs : List (Addr × Addr)), K.In h ∧ TabsAt K cs h ∧ (∀ (s : Shared) (u : Value), BindsTo s fd ⟨[u], []⟩ [(x, u)]) ∧
        (∀ (H : Hp) (a : Addr) (ns : List Int), ns.length ≤ n → (∀ z ∈ ns, Builtin.Int.intBits z ≤ 1048576) → (∀ p ∈ cs, H p.2 = some (.tbl #[])) → OnlyT cs H → SqL K H a (ns.map V.int) → sp [.ref a] H (fun v _ => v = .bl true) fun _ _ _ => False) ∧
        ∀ base : Heap, K.In base → base.Ns mainGlobals mg → (∀ p ∈ cs, LamX.TabB base mg p.1 p.2) → FnG l.prog w K mg base (CX w) k fa fd [x] sp)
    (hCX : ∀ (w : World) (H : Hp) (s : Shared) (e : Value) (s' : Shared), CX w [] H s (fun _ _ _ => False) e s' → False) :
    PySem.W.WalkO q loose XP YP l.row.toRowW d [] (fun f vs => PySem.call f vs) := by
  refine Att.attach_callB hn hdf ?_
  intro w s₀ s₁ mg mb fa o pm cd doc a vs ns G Y ho hd hcd hmg hobj hints hlen hbits hg
  obtain ⟨K, fd, sp, cs, KX, TA, hb, hsp, hF⟩ := F w mg fa _ Y G.T.g hmg
  exact law_callT KX G.T.g G.T.b G.T.builtins G.T.nolimit hg TA G.T.bmain hobj hints (Nat.le_trans hlen hn2) hr hF hb (fun H hH hO hS => hsp H a ns hlen hbits hH hO hS) fun H e s' => hCX w H s₁ e s'
/-! ### the Hook, with tables -/
/-- a def's code object and its table -/
def codeAd (K : PySem.W.Frag) (a : Addr) : Addr := match K.lookup a with
  | some ⟨_, _, .func fd, _⟩ => (match fd.code with
    | .ref c => c
    | _ => 0)
  | _ => 0
def cTd (f : PySem.W.Frag → Addr) (K : PySem.W.Frag) : Addr × Addr := (codeAd K (f K), He.tabOf K (codeAd K (f K)))
def tabsG (g : Addr → Option Obj) (tf : List (PySem.W.Frag → Addr)) (K : PySem.W.Frag) : Bool := tf.all fun f => PySem.W.codeHdIn K (cTd f K).1 (cTd f K).2 && (match g (cTd f K).2 with
  | some o => He.emptyTab o
  | none => false)
structure SaysLT (fb : List Chk) (fn : List DefG) (tf : List (PySem.W.Frag → Addr)) (h : Heap) (K : PySem.W.Frag) : Prop where
  says : SaysG fb fn K
  tabs : TabsAt K (tf.map fun f => cTd f K) h
def obsLT (as : List Addr) (fb : List Chk) (fn : List DefG) (tf : List (PySem.W.Frag → Addr)) (g : Addr → Option Obj) : AlD × Bool := (obsG fb fn (He.frT g as), tabsG g tf (He.frT g as))
theorem saysLT_of {as : List Addr} {fb : List Chk} {fn : List DefG} {tf : List (PySem.W.Frag → Addr)} {h : Heap} (e : obsLT as fb fn tf h.get? = (valG fn, true)) : SaysLT fb fn tf h (He.frT h.get? as) := by
  have e1 : obsG fb fn (He.frT h.get? as) = valG fn := congrArg (fun z => z.1) e
  have e2 : tabsG h.get? tf (He.frT h.get? as) = true := congrArg (fun z => z.2) e
  have key : ∀ f ∈ tf, PySem.W.codeHdIn (He.frT h.get? as) (cTd f (He.frT h.get? as)).1 (cTd f (He.frT h.get? as)).2 = true ∧ ∃ o, h.get? (cTd f (He.frT h.get? as)).2 = some o ∧ He.emptyTab o = true := by
    intro f hf
    obtain ⟨h1, h2⟩ := ba (List.all_eq_true.mp e2 f hf)
    refine ⟨h1, ?_⟩
    cases q : h.get? (cTd f (He.frT h.get? as)).2 with
    | none =>
      rw [q] at h2
      cases h2
    | some o =>
      rw [q] at h2
      exact ⟨o, rfl, h2⟩
  refine ⟨e1, fun p hp => ?_, fun p hp => ?_, fun p hp => ?_⟩
  · obtain ⟨f, hf, rfl⟩ := List.mem_map.mp hp
    obtain ⟨_, o, q, z⟩ := key f hf
    rw [q, He.emptyTab_eq z]
    rfl
  · obtain ⟨f, hf, rfl⟩ := List.mem_map.mp hp
    obtain ⟨_, o, q, z⟩ := key f hf
    exact He.frT_none q z
  · obtain ⟨f, hf, rfl⟩ := List.mem_map.mp hp
    exact PySem.W.codeHd_of_K He.frT_in (key f hf).1
def hookLT (as : List Addr) (fb : List Chk) (fn : List DefG) (tf : List (PySem.W.Frag → Addr)) : PySem.W.Hook where
  α := AlD × Bool
  obs := fun s => obsLT as fb fn tf s.heap.get?
  val := fun _ => (valG fn, true)
  says := fun _ h => ∃ K : PySem.W.Frag, K.In h ∧ SaysLT fb fn tf h K
  of := fun _ _ e => ⟨_, He.frT_in, saysLT_of e⟩
  keeps := fun _ _ _ ⟨K, hK, c⟩ k => ⟨K, PySem.W.Frag.In.keeps hK k, c.says, fun p hp => k _ _ (c.tabs.empty p hp), c.tabs.out, fun p hp => by
    obtain ⟨o, us, file, tf, flags, tg, inF, text, tt, e1, r⟩ := c.tabs.code p hp
    exact ⟨o, us, file, tf, flags, tg, inF, text, tt, k _ _ e1, r⟩⟩
theorem obsLT_eq {as : List Addr} {fb : List Chk} {fn : List DefG} {tf : List (PySem.W.Frag → Addr)} {g : Addr → Option Obj} {s : Shared} (h : ∀ a, g a = s.heap.get? a) : obsLT as fb fn tf g = (hookLT as fb fn tf).obs s := by
  have e : g = s.heap.get? := funext h
  rw [e] <;> rfl
/-! ### exceptions, by tests -/
def oexB (K : PySem.W.Frag) (C : Addr) : Bool := (match K.lookup C with
  | some ⟨.type "type", _, .cls cd, sl⟩ => (match cd.mro, sl.toList with
    | .ref C' :: bm, [_, _, _, _, some (.builtin n), _] => C' == C && n == "ValueError.__new__" && !cd.hasDel && cd.hasDict && PySem.HandSPX.refsVE bm
    | _, _ => false)
  | _ => false) && (eqO (PySem.W.findIn K (.ref C) "__setattr__") (some (some (.builtin "object.__setattr__"))) && (decide (PySem.W.subIn K (.ref C) (.type "BaseException") = some true) && (decide (PySem.W.typeIn K (.ref C) = some (.type "type")) && PySem.W.keepIn K (.ref C))))
theorem oexB_ok {K : PySem.W.Frag} {C : Addr} (h : oexB K C = true) : OexC K C := by
  obtain ⟨h1, h⟩ := ba h
  obtain ⟨h2, h⟩ := ba h
  obtain ⟨h3, h⟩ := ba h
  obtain ⟨h4, h5⟩ := ba h
  refine ⟨?_, eqO_ok h2, of_decide_eq_true h3, of_decide_eq_true h4, h5⟩
  split at h1
  · rename_i dd cd sl ho
    split at h1
    · rename_i C' bm k0 k1 k2 k3 n k5 hm hs
      simp only [Bool.and_eq_true, beq_iff_eq, Bool.not_eq_true'] at h1
      obtain ⟨⟨⟨⟨rfl, rfl⟩, hdel⟩, hdict⟩, ht⟩ := h1
      obtain ⟨nm, bs, mro, ns, qn, hd, sn, sub, ab, col, del⟩ := cd
      dsimp only at hm hdel hdict
      subst hm hdel hdict
      have hsl : sl = #[k0, k1, k2, k3, some (.builtin "ValueError.__new__"), k5] := by
        obtain ⟨l⟩ := sl
        simp only at hs
        rw [hs]
      subst hsl
      exact ⟨nm, qn, ns, bs, bm, sn, sub, ab, col, dd, k0, k1, k2, k3, k5, ho, ht⟩
    · cases h1
  · cases h1
/-- an exception class that __init__ gives the field f -/
structure RaiseC (K : PySem.W.Frag) (C : Addr) (f : Str) (fI : Addr) : Prop where
  T : OexC K C
  hno : PySem.W.findIn K (.ref C) f = some none
  iC : PySem.W.findIn K (.ref C) "__init__" = some (some (.ref fI))
  tI : PySem.W.typeIn K (.ref fI) = some (.type "function")
def raiseB (x f : Str) : Chk := fun K => oexB K (ga K x) && (eqO (PySem.W.findIn K (.ref (ga K x)) f) (some none) && (eqO (PySem.W.findIn K (.ref (ga K x)) "__init__") (some (some (.ref (ma K (ga K x) "__init__")))) && decide (PySem.W.typeIn K (.ref (ma K (ga K x) "__init__")) = some (.type "function"))))
theorem raiseB_ok {K : PySem.W.Frag} {x f : Str} (h : raiseB x f K = true) : RaiseC K (ga K x) f (ma K (ga K x) "__init__") := by
  obtain ⟨h1, h⟩ := ba h
  obtain ⟨h2, h⟩ := ba h
  obtain ⟨h3, h4⟩ := ba h
  exact ⟨oexB_ok h1, eqO_ok h2, eqO_ok h3, of_decide_eq_true h4⟩
def excCB (x : Str) : Chk := fun K => He.Fa.ok K (.keep x) && (xfB K (ga K x) && (eqO (PySem.W.findIn K (.ref (ga K x)) "__class__") (some (some (.builtin "object.__class__"))) && (eqO (PySem.W.specialIn K (.builtin "object.__class__") "__get__") (some (some (.builtin "getset_descriptor.__get__"))) &&
  (decide (PySem.W.takesIn K (.builtin "object.__class__") = some true) && decide (PySem.W.mroIn K (ga K x) (.type "object") = some true)))))
theorem excCB_ok {K : PySem.W.Frag} {x : Str} (h : excCB x K = true) : XfC K (ga K x) ∧ ExcC K (ga K x) := by
  obtain ⟨h0, h⟩ := ba h
  obtain ⟨h1, h⟩ := ba h
  obtain ⟨h2, h⟩ := ba h
  obtain ⟨h3, h⟩ := ba h
  obtain ⟨h4, h5⟩ := ba h
  have z := xfB_ok h1
  exact ⟨z, z.ga, z.gg, z.exC, z.hdC, eqO_ok h2, eqO_ok h3, of_decide_eq_true h4, of_decide_eq_true h5⟩
def kitB (x : Str) (v : Value) (b : Bool) : Chk := fun K => decide (PySem.W.kitOne K (.ref (ga K x)) v = some b)
def kitCB (x y : Str) (b : Bool) : Chk := fun K => decide (PySem.W.kitOne K (.ref (ga K x)) (.ref (ga K y)) = some b)
def exmsB (xs ys : List Str) : Chk := fun K => xs.all fun x => ys.all fun y => decide (PySem.W.exmOne K (.ref (ga K x)) (.ref (ga K y)) = some (decide (x = y)))
theorem exmsB_ok {K : PySem.W.Frag} {xs ys : List Str} (h : exmsB xs ys K = true) : ∀ x ∈ xs, ∀ y ∈ ys, PySem.W.exmOne K (.ref (ga K x)) (.ref (ga K y)) = some (decide (x = y)) := fun x hx y hy =>
  of_decide_eq_true (List.all_eq_true.mp (List.all_eq_true.mp h x hx) y hy)
def veIB : Chk := fun K => match PySem.W.findCls K (.type "ValueError") (.type "type") "__init__" with
  | some (.val (.builtin "ValueError.__init__")) => true
  | _ => false
theorem veIB_ok {K : PySem.W.Frag} (h : veIB K = true) : PySem.W.findCls K (.type "ValueError") (.type "type") "__init__" = some (.val (.builtin "ValueError.__init__")) := by
  unfold veIB at h
  split at h
  · assumption
  · cases h
end G

set_option Elab.async false
set_option linter.all false
set_option maxRecDepth 100000
set_option maxHeartbeats 4000000
noncomputable section
open Classical
namespace K03
open PySem PySem.Spec PyProof.Rows L2 G
/-! ### the text -/
def top (i : Nat) : Stmt := PySem.Challenge.pw_hymnplates_k03_kinds.main.body.getD i (.Pass ⟨0, 0, 0, 0⟩)
abbrev s__law_draw : Stmt := top 24
theorem sc__law_draw : FnScope ["_law_pen_here", "_law_many", "_law_digit", "_law_used", "_law_cell", "_law_blend"] ["_law_pen_here", "_law_many"] (defScope s__law_draw) := ⟨rfl, rfl, rfl, by decide +kernel, rfl, by decide +kernel, by decide +kernel⟩
abbrev s__law_pick : Stmt := top 25
theorem sc__law_pick : FnScope ["_law_pen_here", "_law_options"] ["_law_pen_here", "_law_options"] (defScope s__law_pick) := ⟨rfl, rfl, rfl, by decide +kernel, rfl, by decide +kernel, by decide +kernel⟩
abbrev s__law_shuffled : Stmt := top 26
theorem sc__law_shuffled : FnScope ["_law_pen_here", "_law_items", "_law_left", "_law_found"] ["_law_pen_here", "_law_items"] (defScope s__law_shuffled) := ⟨rfl, rfl, rfl, by decide +kernel, rfl, by decide +kernel, by decide +kernel⟩
abbrev s__law_font : Stmt := top 28
theorem sc__law_font : FnScope ["_law_pen_here", "_law_most", "_law_many", "_law_pool", "_law_signs", "_law_left", "_law_turns", "_law_one", "_law_way"] ["_law_pen_here", "_law_most"] (defScope s__law_font) := ⟨rfl, rfl, rfl, by decide +kernel, rfl, by decide +kernel, by decide +kernel⟩
abbrev s__law_kinds : Stmt := top 31
theorem sc__law_kinds : FnScope ["_law_signs", "_law_found", "_law_k", "_law_side"] ["_law_signs"] (defScope s__law_kinds) := ⟨rfl, rfl, rfl, by decide +kernel, rfl, by decide +kernel, by decide +kernel⟩
abbrev s_is_font_text : Stmt := top 19
theorem sc_is_font_text : FnScope ["value", "most", "sign"] ["value", "most"] (defScope s_is_font_text) := ⟨rfl, rfl, rfl, by decide +kernel, rfl, by decide +kernel, by decide +kernel⟩
abbrev s_is_list : Stmt := top 12
theorem sc_is_list : FnScope ["value"] ["value"] (defScope s_is_list) := ⟨rfl, rfl, rfl, by decide +kernel, rfl, by decide +kernel, by decide +kernel⟩
abbrev s_is_tuple_of : Stmt := top 13
theorem sc_is_tuple_of : FnScope ["value", "size"] ["value", "size"] (defScope s_is_tuple_of) := ⟨rfl, rfl, rfl, by decide +kernel, rfl, by decide +kernel, by decide +kernel⟩
abbrev s_are_turns : Stmt := top 20
theorem sc_are_turns : FnScope ["value", "ranks", "seen", "pair", "sign"] ["value", "ranks"] (defScope s_are_turns) := ⟨rfl, rfl, rfl, by decide +kernel, rfl, by decide +kernel, by decide +kernel⟩
abbrev s_Font_ddinitdd : Stmt := inClass (top 21) 1
theorem sc_Font_ddinitdd : FnScope ["self", "signs", "turns", "one", "other", "rank", "sign"] ["self", "signs", "turns"] (defScope s_Font_ddinitdd) := ⟨rfl, rfl, rfl, by decide +kernel, rfl, by decide +kernel, by decide +kernel⟩
abbrev s__law_flipped : Stmt := top 32
theorem sc__law_flipped : FnScope ["_law_pen_here", "_law_pair"] ["_law_pen_here", "_law_pair"] (defScope s__law_flipped) := ⟨rfl, rfl, rfl, by decide +kernel, rfl, by decide +kernel, by decide +kernel⟩
abbrev s__law_font_made : Stmt := top 33
theorem sc__law_font_made : FnScope ["_law_pen_here", "_law_font_here", "_law_pair"] ["_law_pen_here", "_law_font_here"] (defScope s__law_font_made) := ⟨rfl, rfl, rfl, by decide +kernel, rfl, by decide +kernel, by decide +kernel⟩
abbrev s__law_is_kind : Stmt := top 34
theorem sc__law_is_kind : FnScope ["_law_signs", "_law_value", "_law_side"] ["_law_signs", "_law_value"] (defScope s__law_is_kind) := ⟨rfl, rfl, rfl, by decide +kernel, rfl, by decide +kernel, by decide +kernel⟩
abbrev s__law_odd : Stmt := top 27
theorem sc__law_odd : FnScope ["_law_pen_here", "_law_some"] ["_law_pen_here"] (defScope s__law_odd) := ⟨rfl, rfl, rfl, by decide +kernel, rfl, by decide +kernel, by decide +kernel⟩
abbrev s_Font_normal : Stmt := inClass (top 21) 10
theorem sc_Font_normal : FnScope ["self", "kind", "front", "back"] ["self", "kind"] (defScope s_Font_normal) := ⟨rfl, rfl, rfl, by decide +kernel, rfl, by decide +kernel, by decide +kernel⟩
abbrev s_is_kind : Stmt := top 14
theorem sc_is_kind : FnScope ["font", "value", "side"] ["font", "value"] (defScope s_is_kind) := ⟨rfl, rfl, rfl, by decide +kernel, rfl, by decide +kernel, by decide +kernel⟩
abbrev s_need_kind : Stmt := top 15
theorem sc_need_kind : FnScope ["font", "value"] ["font", "value"] (defScope s_need_kind) := ⟨rfl, rfl, rfl, by decide +kernel, rfl, by decide +kernel, by decide +kernel⟩
abbrev s_Font_kept : Stmt := inClass (top 21) 13
theorem sc_Font_kept : FnScope ["self", "kind"] ["self", "kind"] (defScope s_Font_kept) := ⟨rfl, rfl, rfl, by decide +kernel, rfl, by decide +kernel, by decide +kernel⟩
abbrev s_Font_ascending : Stmt := inClass (top 21) 9
theorem sc_Font_ascending : FnScope ["self", "signs", "sign"] ["self", "signs"] (defScope s_Font_ascending) := ⟨rfl, rfl, rfl, by decide +kernel, rfl, by decide +kernel, by decide +kernel⟩
abbrev s_Font_seen : Stmt := inClass (top 21) 11
theorem sc_Font_seen : FnScope ["self", "kind", "sides", "side"] ["self", "kind"] (defScope s_Font_seen) := ⟨rfl, rfl, rfl, by decide +kernel, rfl, by decide +kernel, by decide +kernel⟩
abbrev s_Font_shown : Stmt := inClass (top 21) 14
theorem sc_Font_shown : FnScope ["self", "kind"] ["self", "kind"] (defScope s_Font_shown) := ⟨rfl, rfl, rfl, by decide +kernel, rfl, by decide +kernel, by decide +kernel⟩
abbrev s__law_heads : Stmt := top 29
theorem sc__law_heads : FnScope ["_law_turns", "_law_found", "_law_one", "_law_other"] ["_law_turns"] (defScope s__law_heads) := ⟨rfl, rfl, rfl, by decide +kernel, rfl, by decide +kernel, by decide +kernel⟩
abbrev s__law_seen : Stmt := top 30
theorem sc__law_seen : FnScope ["_law_font_here", "_law_kind", "_law_signs", "_law_turns", "_law_heads_here", "_law_some", "_law_side", "_law_sign"] ["_law_font_here", "_law_kind"] (defScope s__law_seen) := ⟨rfl, rfl, rfl, by decide +kernel, rfl, by decide +kernel, by decide +kernel⟩
abbrev s_law : Stmt := top 36
theorem sc_law : FnScope ["_law_script", "_law_pen_here", "_law_turn", "_law_font_here", "_law_made", "_law_signs", "_law_kind", "_law_one", "_law_some", "_law_value"] ["_law_script"] (defScope s_law) := ⟨rfl, rfl, rfl, by decide +kernel, rfl, by decide +kernel, by decide +kernel⟩
abbrev s__law_pen : Stmt := top 23
theorem sc__law_pen : FnScope ["_law_script"] ["_law_script"] (defScope s__law_pen) := ⟨rfl, rfl, rfl, by decide +kernel, rfl, by decide +kernel, by decide +kernel⟩
abbrev s__law_told : Stmt := top 35
theorem sc__law_told : FnScope ["_law_call", "e"] ["_law_call"] (defScope s__law_told) := ⟨rfl, rfl, rfl, by decide +kernel, rfl, by decide +kernel, by decide +kernel⟩
abbrev s_InvalidFont_ddinitdd : Stmt := inClass (top 2) 0
theorem sc_InvalidFont_ddinitdd : FnScope ["self", "value"] ["self", "value"] (defScope s_InvalidFont_ddinitdd) := ⟨rfl, rfl, rfl, by decide +kernel, rfl, by decide +kernel, by decide +kernel⟩
abbrev s_InvalidTurns_ddinitdd : Stmt := inClass (top 3) 0
theorem sc_InvalidTurns_ddinitdd : FnScope ["self", "value"] ["self", "value"] (defScope s_InvalidTurns_ddinitdd) := ⟨rfl, rfl, rfl, by decide +kernel, rfl, by decide +kernel, by decide +kernel⟩
abbrev s_InvalidKind_ddinitdd : Stmt := inClass (top 4) 0
theorem sc_InvalidKind_ddinitdd : FnScope ["self", "value"] ["self", "value"] (defScope s_InvalidKind_ddinitdd) := ⟨rfl, rfl, rfl, by decide +kernel, rfl, by decide +kernel, by decide +kernel⟩
/-- what stands behind the top -/
structure Txt (K : PySem.W.Frag) (mg : Str → Option Value) where
  fd__law_draw : FuncData
  F__law_draw : FunD K "_law_draw" "_law_draw" (defArgs s__law_draw) (defBody s__law_draw) (defScope s__law_draw) [] [] (He.ga K "_law_draw") fd__law_draw
  g__law_draw : mg "_law_draw" = some (.ref (He.ga K "_law_draw"))
  fd__law_pick : FuncData
  F__law_pick : FunD K "_law_pick" "_law_pick" (defArgs s__law_pick) (defBody s__law_pick) (defScope s__law_pick) [] [] (He.ga K "_law_pick") fd__law_pick
  g__law_pick : mg "_law_pick" = some (.ref (He.ga K "_law_pick"))
  fd__law_shuffled : FuncData
  F__law_shuffled : FunD K "_law_shuffled" "_law_shuffled" (defArgs s__law_shuffled) (defBody s__law_shuffled) (defScope s__law_shuffled) [] [] (He.ga K "_law_shuffled") fd__law_shuffled
  g__law_shuffled : mg "_law_shuffled" = some (.ref (He.ga K "_law_shuffled"))
  fd__law_font : FuncData
  F__law_font : FunD K "_law_font" "_law_font" (defArgs s__law_font) (defBody s__law_font) (defScope s__law_font) [] [] (He.ga K "_law_font") fd__law_font
  g__law_font : mg "_law_font" = some (.ref (He.ga K "_law_font"))
  fd__law_kinds : FuncData
  F__law_kinds : FunD K "_law_kinds" "_law_kinds" (defArgs s__law_kinds) (defBody s__law_kinds) (defScope s__law_kinds) [] [] (He.ga K "_law_kinds") fd__law_kinds
  g__law_kinds : mg "_law_kinds" = some (.ref (He.ga K "_law_kinds"))
  fd_is_font_text : FuncData
  F_is_font_text : FunD K "is_font_text" "is_font_text" (defArgs s_is_font_text) (defBody s_is_font_text) (defScope s_is_font_text) [] [] (He.ga K "is_font_text") fd_is_font_text
  g_is_font_text : mg "is_font_text" = some (.ref (He.ga K "is_font_text"))
  fd_is_list : FuncData
  F_is_list : FunD K "is_list" "is_list" (defArgs s_is_list) (defBody s_is_list) (defScope s_is_list) [] [] (He.ga K "is_list") fd_is_list
  g_is_list : mg "is_list" = some (.ref (He.ga K "is_list"))
  fd_is_tuple_of : FuncData
  F_is_tuple_of : FunD K "is_tuple_of" "is_tuple_of" (defArgs s_is_tuple_of) (defBody s_is_tuple_of) (defScope s_is_tuple_of) [] [] (He.ga K "is_tuple_of") fd_is_tuple_of
  g_is_tuple_of : mg "is_tuple_of" = some (.ref (He.ga K "is_tuple_of"))
  fd_are_turns : FuncData
  F_are_turns : FunD K "are_turns" "are_turns" (defArgs s_are_turns) (defBody s_are_turns) (defScope s_are_turns) [] [] (He.ga K "are_turns") fd_are_turns
  g_are_turns : mg "are_turns" = some (.ref (He.ga K "are_turns"))
  fd_Font_ddinitdd : FuncData
  F_Font_ddinitdd : FunD K "__init__" "Font.__init__" (defArgs s_Font_ddinitdd) (defBody s_Font_ddinitdd) (defScope s_Font_ddinitdd) [.ref (He.dflAt ("Font", some "__init__") 0 K)] [] (He.ma K (He.ga K "Font") "__init__") fd_Font_ddinitdd
  fd__law_flipped : FuncData
  F__law_flipped : FunD K "_law_flipped" "_law_flipped" (defArgs s__law_flipped) (defBody s__law_flipped) (defScope s__law_flipped) [] [] (He.ga K "_law_flipped") fd__law_flipped
  g__law_flipped : mg "_law_flipped" = some (.ref (He.ga K "_law_flipped"))
  fd__law_font_made : FuncData
  F__law_font_made : FunD K "_law_font_made" "_law_font_made" (defArgs s__law_font_made) (defBody s__law_font_made) (defScope s__law_font_made) [] [] (He.ga K "_law_font_made") fd__law_font_made
  g__law_font_made : mg "_law_font_made" = some (.ref (He.ga K "_law_font_made"))
  fd__law_is_kind : FuncData
  F__law_is_kind : FunD K "_law_is_kind" "_law_is_kind" (defArgs s__law_is_kind) (defBody s__law_is_kind) (defScope s__law_is_kind) [] [] (He.ga K "_law_is_kind") fd__law_is_kind
  g__law_is_kind : mg "_law_is_kind" = some (.ref (He.ga K "_law_is_kind"))
  fd__law_odd : FuncData
  F__law_odd : FunD K "_law_odd" "_law_odd" (defArgs s__law_odd) (defBody s__law_odd) (defScope s__law_odd) [] [] (He.ga K "_law_odd") fd__law_odd
  g__law_odd : mg "_law_odd" = some (.ref (He.ga K "_law_odd"))
  fd_Font_normal : FuncData
  F_Font_normal : FunD K "normal" "Font.normal" (defArgs s_Font_normal) (defBody s_Font_normal) (defScope s_Font_normal) [] [] (He.ma K (He.ga K "Font") "normal") fd_Font_normal
  fd_is_kind : FuncData
  F_is_kind : FunD K "is_kind" "is_kind" (defArgs s_is_kind) (defBody s_is_kind) (defScope s_is_kind) [] [] (He.ga K "is_kind") fd_is_kind
  g_is_kind : mg "is_kind" = some (.ref (He.ga K "is_kind"))
  fd_need_kind : FuncData
  F_need_kind : FunD K "need_kind" "need_kind" (defArgs s_need_kind) (defBody s_need_kind) (defScope s_need_kind) [] [] (He.ga K "need_kind") fd_need_kind
  g_need_kind : mg "need_kind" = some (.ref (He.ga K "need_kind"))
  fd_Font_kept : FuncData
  F_Font_kept : FunD K "kept" "Font.kept" (defArgs s_Font_kept) (defBody s_Font_kept) (defScope s_Font_kept) [] [] (He.ma K (He.ga K "Font") "kept") fd_Font_kept
  fd_Font_ascending : FuncData
  F_Font_ascending : FunD K "ascending" "Font.ascending" (defArgs s_Font_ascending) (defBody s_Font_ascending) (defScope s_Font_ascending) [] [] (He.ma K (He.ga K "Font") "ascending") fd_Font_ascending
  fd_Font_seen : FuncData
  F_Font_seen : FunD K "seen" "Font.seen" (defArgs s_Font_seen) (defBody s_Font_seen) (defScope s_Font_seen) [] [] (He.ma K (He.ga K "Font") "seen") fd_Font_seen
  fd_Font_shown : FuncData
  F_Font_shown : FunD K "shown" "Font.shown" (defArgs s_Font_shown) (defBody s_Font_shown) (defScope s_Font_shown) [] [] (He.ma K (He.ga K "Font") "shown") fd_Font_shown
  fd__law_heads : FuncData
  F__law_heads : FunD K "_law_heads" "_law_heads" (defArgs s__law_heads) (defBody s__law_heads) (defScope s__law_heads) [] [] (He.ga K "_law_heads") fd__law_heads
  g__law_heads : mg "_law_heads" = some (.ref (He.ga K "_law_heads"))
  fd__law_seen : FuncData
  F__law_seen : FunD K "_law_seen" "_law_seen" (defArgs s__law_seen) (defBody s__law_seen) (defScope s__law_seen) [] [] (He.ga K "_law_seen") fd__law_seen
  g__law_seen : mg "_law_seen" = some (.ref (He.ga K "_law_seen"))
  fd_law : FuncData
  F_law : FunD K "law" "law" (defArgs s_law) (defBody s_law) (defScope s_law) [] [] (He.ga K "law") fd_law
  g_law : mg "law" = some (.ref (He.ga K "law"))
  fd__law_pen : FuncData
  F__law_pen : FunD K "_law_pen" "_law_pen" (defArgs s__law_pen) (defBody s__law_pen) (defScope s__law_pen) [] [] (He.ga K "_law_pen") fd__law_pen
  g__law_pen : mg "_law_pen" = some (.ref (He.ga K "_law_pen"))
  fd__law_told : FuncData
  F__law_told : FunD K "_law_told" "_law_told" (defArgs s__law_told) (defBody s__law_told) (defScope s__law_told) [] [] (He.ga K "_law_told") fd__law_told
  g__law_told : mg "_law_told" = some (.ref (He.ga K "_law_told"))
  fd_InvalidFont_ddinitdd : FuncData
  F_InvalidFont_ddinitdd : FunD K "__init__" "InvalidFont.__init__" (defArgs s_InvalidFont_ddinitdd) (defBody s_InvalidFont_ddinitdd) (defScope s_InvalidFont_ddinitdd) [] [] (He.ma K (He.ga K "InvalidFont") "__init__") fd_InvalidFont_ddinitdd
  fd_InvalidTurns_ddinitdd : FuncData
  F_InvalidTurns_ddinitdd : FunD K "__init__" "InvalidTurns.__init__" (defArgs s_InvalidTurns_ddinitdd) (defBody s_InvalidTurns_ddinitdd) (defScope s_InvalidTurns_ddinitdd) [] [] (He.ma K (He.ga K "InvalidTurns") "__init__") fd_InvalidTurns_ddinitdd
  fd_InvalidKind_ddinitdd : FuncData
  F_InvalidKind_ddinitdd : FunD K "__init__" "InvalidKind.__init__" (defArgs s_InvalidKind_ddinitdd) (defBody s_InvalidKind_ddinitdd) (defScope s_InvalidKind_ddinitdd) [] [] (He.ma K (He.ga K "InvalidKind") "__init__") fd_InvalidKind_ddinitdd
  f_ValueError : mg "ValueError" = none
  f_abs : mg "abs" = none
  f_all : mg "all" = none
  f_enumerate : mg "enumerate" = none
  f_int : mg "int" = none
  f_isinstance : mg "isinstance" = none
  f_len : mg "len" = none
  f_list : mg "list" = none
  f_range : mg "range" = none
  f_repr : mg "repr" = none
  f_str : mg "str" = none
  f_tuple : mg "tuple" = none
  c_BLANK : ∃ t, mg "BLANK" = some (.str "-" t)
  c_LEAST_SIGNS : ∃ t, mg "LEAST_SIGNS" = some (.int (2) t)
  c_SIGNS : ∃ t, mg "SIGNS" = some (.str "0123456789abcdefghijklmnopqrstuvwxyz" t)
  g_Font : mg "Font" = some (.ref (He.ga K "Font"))
  cls_Font : Cls K (He.ga K "Font")
  mk_Font : Mk K (He.ga K "Font") (He.ma K (He.ga K "Font") "__init__")
  na_Font_word : NoAttr K (He.ga K "Font") "word"
  na_Font_ranks : NoAttr K (He.ga K "Font") "ranks"
  na_Font_heads : NoAttr K (He.ga K "Font") "heads"
  pr_Font_signs : PropOf K (He.ga K "Font") "signs" (He.ma K (He.ga K "Font") "signs") (gAd K (He.ga K "Font") "signs")
  me_Font_ascending : Meth K (He.ga K "Font") "ascending" (He.ma K (He.ga K "Font") "ascending")
  me_Font_normal : Meth K (He.ga K "Font") "normal" (He.ma K (He.ga K "Font") "normal")
  me_Font_seen : Meth K (He.ga K "Font") "seen" (He.ma K (He.ga K "Font") "seen")
  me_Font_kept : Meth K (He.ga K "Font") "kept" (He.ma K (He.ga K "Font") "kept")
  me_Font_shown : Meth K (He.ga K "Font") "shown" (He.ma K (He.ga K "Font") "shown")
  co_Font_MAX_SIGNS : ∃ u, Con K (He.ga K "Font") "MAX_SIGNS" (.int 10) u
  g_InvalidKind : mg "InvalidKind" = some (.ref (He.ga K "InvalidKind"))
  g_InvalidNumber : mg "InvalidNumber" = some (.ref (He.ga K "InvalidNumber"))
  g_TooFew : mg "TooFew" = some (.ref (He.ga K "TooFew"))
  g_TooMany : mg "TooMany" = some (.ref (He.ga K "TooMany"))
  g_OtherFont : mg "OtherFont" = some (.ref (He.ga K "OtherFont"))
  g_InvalidSigns : mg "InvalidSigns" = some (.ref (He.ga K "InvalidSigns"))
  g_InvalidFont : mg "InvalidFont" = some (.ref (He.ga K "InvalidFont"))
  g_InvalidTurns : mg "InvalidTurns" = some (.ref (He.ga K "InvalidTurns"))
  rc_InvalidFont : RaiseC K (He.ga K "InvalidFont") "value" (He.ma K (He.ga K "InvalidFont") "__init__")
  rc_InvalidTurns : RaiseC K (He.ga K "InvalidTurns") "value" (He.ma K (He.ga K "InvalidTurns") "__init__")
  rc_InvalidKind : RaiseC K (He.ga K "InvalidKind") "value" (He.ma K (He.ga K "InvalidKind") "__init__")
  vV : PySem.W.findCls K (.type "ValueError") (.type "type") "__init__" = some (.val (.builtin "ValueError.__init__"))
  sys : KSys K
  ek_InvalidKind : XfC K (He.ga K "InvalidKind") ∧ ExcC K (He.ga K "InvalidKind")
  kit_InvalidKind_ValueError : PySem.W.kitOne K (.ref (He.ga K "InvalidKind")) (.type "ValueError") = some true
  exm__law_told : ∀ x ∈ (["InvalidKind"] : List Str), ∀ y ∈ (["InvalidKind", "InvalidNumber", "TooFew", "TooMany", "OtherFont", "InvalidSigns"] : List Str), PySem.W.exmOne K (.ref (He.ga K x)) (.ref (He.ga K y)) = some (decide (x = y))
section
variable {P : Program} {w : World} {K : PySem.W.Frag} {mg : Str → Option Value} {base : Heap}
theorem b__law_draw (T : Txt K mg) : Binds K T.fd__law_draw ["_law_pen_here", "_law_many"] [] := T.F__law_draw.bindsN fun _ _ _ _ _ _ us hl => match us, hl with | [_, _], _ => rfl
theorem b__law_pick (T : Txt K mg) : Binds K T.fd__law_pick ["_law_pen_here", "_law_options"] [] := T.F__law_pick.bindsN fun _ _ _ _ _ _ us hl => match us, hl with | [_, _], _ => rfl
theorem b__law_shuffled (T : Txt K mg) : Binds K T.fd__law_shuffled ["_law_pen_here", "_law_items"] [] := T.F__law_shuffled.bindsN fun _ _ _ _ _ _ us hl => match us, hl with | [_, _], _ => rfl
theorem b__law_font (T : Txt K mg) : Binds K T.fd__law_font ["_law_pen_here", "_law_most"] [] := T.F__law_font.bindsN fun _ _ _ _ _ _ us hl => match us, hl with | [_, _], _ => rfl
theorem b__law_kinds (T : Txt K mg) : Binds K T.fd__law_kinds ["_law_signs"] [] := T.F__law_kinds.bindsN fun _ _ _ _ _ _ us hl => match us, hl with | [_], _ => rfl
theorem b_is_font_text (T : Txt K mg) : Binds K T.fd_is_font_text ["value", "most"] [] := T.F_is_font_text.bindsN fun _ _ _ _ _ _ us hl => match us, hl with | [_, _], _ => rfl
theorem b_is_list (T : Txt K mg) : Binds K T.fd_is_list ["value"] [] := T.F_is_list.bindsN fun _ _ _ _ _ _ us hl => match us, hl with | [_], _ => rfl
theorem b_is_tuple_of (T : Txt K mg) : Binds K T.fd_is_tuple_of ["value", "size"] [] := T.F_is_tuple_of.bindsN fun _ _ _ _ _ _ us hl => match us, hl with | [_, _], _ => rfl
theorem b_are_turns (T : Txt K mg) : Binds K T.fd_are_turns ["value", "ranks"] [] := T.F_are_turns.bindsN fun _ _ _ _ _ _ us hl => match us, hl with | [_, _], _ => rfl
theorem b__law_flipped (T : Txt K mg) : Binds K T.fd__law_flipped ["_law_pen_here", "_law_pair"] [] := T.F__law_flipped.bindsN fun _ _ _ _ _ _ us hl => match us, hl with | [_, _], _ => rfl
theorem b__law_font_made (T : Txt K mg) : Binds K T.fd__law_font_made ["_law_pen_here", "_law_font_here"] [] := T.F__law_font_made.bindsN fun _ _ _ _ _ _ us hl => match us, hl with | [_, _], _ => rfl
theorem b__law_is_kind (T : Txt K mg) : Binds K T.fd__law_is_kind ["_law_signs", "_law_value"] [] := T.F__law_is_kind.bindsN fun _ _ _ _ _ _ us hl => match us, hl with | [_, _], _ => rfl
theorem b__law_odd (T : Txt K mg) : Binds K T.fd__law_odd ["_law_pen_here"] [] := T.F__law_odd.bindsN fun _ _ _ _ _ _ us hl => match us, hl with | [_], _ => rfl
theorem b_Font_normal (T : Txt K mg) : Binds K T.fd_Font_normal ["self", "kind"] [] := T.F_Font_normal.bindsN fun _ _ _ _ _ _ us hl => match us, hl with | [_, _], _ => rfl
theorem b_is_kind (T : Txt K mg) : Binds K T.fd_is_kind ["font", "value"] [] := T.F_is_kind.bindsN fun _ _ _ _ _ _ us hl => match us, hl with | [_, _], _ => rfl
theorem b_need_kind (T : Txt K mg) : Binds K T.fd_need_kind ["font", "value"] [] := T.F_need_kind.bindsN fun _ _ _ _ _ _ us hl => match us, hl with | [_, _], _ => rfl
theorem b_Font_kept (T : Txt K mg) : Binds K T.fd_Font_kept ["self", "kind"] [] := T.F_Font_kept.bindsN fun _ _ _ _ _ _ us hl => match us, hl with | [_, _], _ => rfl
theorem b_Font_ascending (T : Txt K mg) : Binds K T.fd_Font_ascending ["self", "signs"] [] := T.F_Font_ascending.bindsN fun _ _ _ _ _ _ us hl => match us, hl with | [_, _], _ => rfl
theorem b_Font_seen (T : Txt K mg) : Binds K T.fd_Font_seen ["self", "kind"] [] := T.F_Font_seen.bindsN fun _ _ _ _ _ _ us hl => match us, hl with | [_, _], _ => rfl
theorem b_Font_shown (T : Txt K mg) : Binds K T.fd_Font_shown ["self", "kind"] [] := T.F_Font_shown.bindsN fun _ _ _ _ _ _ us hl => match us, hl with | [_, _], _ => rfl
theorem b__law_heads (T : Txt K mg) : Binds K T.fd__law_heads ["_law_turns"] [] := T.F__law_heads.bindsN fun _ _ _ _ _ _ us hl => match us, hl with | [_], _ => rfl
theorem b__law_seen (T : Txt K mg) : Binds K T.fd__law_seen ["_law_font_here", "_law_kind"] [] := T.F__law_seen.bindsN fun _ _ _ _ _ _ us hl => match us, hl with | [_, _], _ => rfl
theorem b_law (T : Txt K mg) : Binds K T.fd_law ["_law_script"] [] := T.F_law.bindsN fun _ _ _ _ _ _ us hl => match us, hl with | [_], _ => rfl
theorem b__law_pen (T : Txt K mg) : Binds K T.fd__law_pen ["_law_script"] [] := T.F__law_pen.bindsN fun _ _ _ _ _ _ us hl => match us, hl with | [_], _ => rfl
theorem b__law_told (T : Txt K mg) : Binds K T.fd__law_told ["_law_call"] [] := T.F__law_told.bindsN fun _ _ _ _ _ _ us hl => match us, hl with | [_], _ => rfl
theorem b_InvalidFont_ddinitdd (T : Txt K mg) : Binds K T.fd_InvalidFont_ddinitdd ["self", "value"] [] := T.F_InvalidFont_ddinitdd.bindsN fun _ _ _ _ _ _ us hl => match us, hl with | [_, _], _ => rfl
theorem b_InvalidTurns_ddinitdd (T : Txt K mg) : Binds K T.fd_InvalidTurns_ddinitdd ["self", "value"] [] := T.F_InvalidTurns_ddinitdd.bindsN fun _ _ _ _ _ _ us hl => match us, hl with | [_, _], _ => rfl
theorem b_InvalidKind_ddinitdd (T : Txt K mg) : Binds K T.fd_InvalidKind_ddinitdd ["self", "value"] [] := T.F_InvalidKind_ddinitdd.bindsN fun _ _ _ _ _ _ us hl => match us, hl with | [_, _], _ => rfl
theorem b_Font_ddinitdd (T : Txt K mg) : Binds K T.fd_Font_ddinitdd ["self", "signs", "turns"] [] := by
  obtain ⟨ds, hv, hb⟩ := T.F_Font_ddinitdd.binds1 (ps := ["self", "signs", "turns"]) 3 1 (by simp) rfl (fun _ _ _ _ _ _ _ us its hl hi => match us, its, hl, hi with | [_, _, _], [_], _, _ => ⟨_, rfl, rfl⟩)
  cases hv
  exact hb
end
def tf : List (PySem.W.Frag → Addr) := [fun K => He.ga K "law"]
def cs (K : PySem.W.Frag) : List (Addr × Addr) := tf.map fun f => cTd f K
end K03
end

set_option Elab.async false
set_option linter.all false
set_option maxRecDepth 100000
set_option maxHeartbeats 0
noncomputable section
open Classical
namespace K03
open PySem PySem.Spec PyProof.Rows L2 G
def h__law_draw : DefG := ⟨fun K => He.ga K "_law_draw", "_law_draw", "_law_draw", defArgs s__law_draw, defBody s__law_draw, defScope s__law_draw, [], []⟩
def h__law_pick : DefG := ⟨fun K => He.ga K "_law_pick", "_law_pick", "_law_pick", defArgs s__law_pick, defBody s__law_pick, defScope s__law_pick, [], []⟩
def h__law_shuffled : DefG := ⟨fun K => He.ga K "_law_shuffled", "_law_shuffled", "_law_shuffled", defArgs s__law_shuffled, defBody s__law_shuffled, defScope s__law_shuffled, [], []⟩
def h__law_font : DefG := ⟨fun K => He.ga K "_law_font", "_law_font", "_law_font", defArgs s__law_font, defBody s__law_font, defScope s__law_font, [], []⟩
def h__law_kinds : DefG := ⟨fun K => He.ga K "_law_kinds", "_law_kinds", "_law_kinds", defArgs s__law_kinds, defBody s__law_kinds, defScope s__law_kinds, [], []⟩
def h_is_font_text : DefG := ⟨fun K => He.ga K "is_font_text", "is_font_text", "is_font_text", defArgs s_is_font_text, defBody s_is_font_text, defScope s_is_font_text, [], []⟩
def h_is_list : DefG := ⟨fun K => He.ga K "is_list", "is_list", "is_list", defArgs s_is_list, defBody s_is_list, defScope s_is_list, [], []⟩
def h_is_tuple_of : DefG := ⟨fun K => He.ga K "is_tuple_of", "is_tuple_of", "is_tuple_of", defArgs s_is_tuple_of, defBody s_is_tuple_of, defScope s_is_tuple_of, [], []⟩
def h_are_turns : DefG := ⟨fun K => He.ga K "are_turns", "are_turns", "are_turns", defArgs s_are_turns, defBody s_are_turns, defScope s_are_turns, [], []⟩
def h_Font_ddinitdd : DefG := ⟨fun K => He.ma K (He.ga K "Font") "__init__", "__init__", "Font.__init__", defArgs s_Font_ddinitdd, defBody s_Font_ddinitdd, defScope s_Font_ddinitdd, [.adr (He.dflAt ("Font", some "__init__") 0)], []⟩
def h__law_flipped : DefG := ⟨fun K => He.ga K "_law_flipped", "_law_flipped", "_law_flipped", defArgs s__law_flipped, defBody s__law_flipped, defScope s__law_flipped, [], []⟩
def h__law_font_made : DefG := ⟨fun K => He.ga K "_law_font_made", "_law_font_made", "_law_font_made", defArgs s__law_font_made, defBody s__law_font_made, defScope s__law_font_made, [], []⟩
def h__law_is_kind : DefG := ⟨fun K => He.ga K "_law_is_kind", "_law_is_kind", "_law_is_kind", defArgs s__law_is_kind, defBody s__law_is_kind, defScope s__law_is_kind, [], []⟩
def h__law_odd : DefG := ⟨fun K => He.ga K "_law_odd", "_law_odd", "_law_odd", defArgs s__law_odd, defBody s__law_odd, defScope s__law_odd, [], []⟩
def h_Font_normal : DefG := ⟨fun K => He.ma K (He.ga K "Font") "normal", "normal", "Font.normal", defArgs s_Font_normal, defBody s_Font_normal, defScope s_Font_normal, [], []⟩
def h_is_kind : DefG := ⟨fun K => He.ga K "is_kind", "is_kind", "is_kind", defArgs s_is_kind, defBody s_is_kind, defScope s_is_kind, [], []⟩
def h_need_kind : DefG := ⟨fun K => He.ga K "need_kind", "need_kind", "need_kind", defArgs s_need_kind, defBody s_need_kind, defScope s_need_kind, [], []⟩
def h_Font_kept : DefG := ⟨fun K => He.ma K (He.ga K "Font") "kept", "kept", "Font.kept", defArgs s_Font_kept, defBody s_Font_kept, defScope s_Font_kept, [], []⟩
def h_Font_ascending : DefG := ⟨fun K => He.ma K (He.ga K "Font") "ascending", "ascending", "Font.ascending", defArgs s_Font_ascending, defBody s_Font_ascending, defScope s_Font_ascending, [], []⟩
def h_Font_seen : DefG := ⟨fun K => He.ma K (He.ga K "Font") "seen", "seen", "Font.seen", defArgs s_Font_seen, defBody s_Font_seen, defScope s_Font_seen, [], []⟩
def h_Font_shown : DefG := ⟨fun K => He.ma K (He.ga K "Font") "shown", "shown", "Font.shown", defArgs s_Font_shown, defBody s_Font_shown, defScope s_Font_shown, [], []⟩
def h__law_heads : DefG := ⟨fun K => He.ga K "_law_heads", "_law_heads", "_law_heads", defArgs s__law_heads, defBody s__law_heads, defScope s__law_heads, [], []⟩
def h__law_seen : DefG := ⟨fun K => He.ga K "_law_seen", "_law_seen", "_law_seen", defArgs s__law_seen, defBody s__law_seen, defScope s__law_seen, [], []⟩
def h_law : DefG := ⟨fun K => He.ga K "law", "law", "law", defArgs s_law, defBody s_law, defScope s_law, [], []⟩
def h__law_pen : DefG := ⟨fun K => He.ga K "_law_pen", "_law_pen", "_law_pen", defArgs s__law_pen, defBody s__law_pen, defScope s__law_pen, [], []⟩
def h__law_told : DefG := ⟨fun K => He.ga K "_law_told", "_law_told", "_law_told", defArgs s__law_told, defBody s__law_told, defScope s__law_told, [], []⟩
def h_InvalidFont_ddinitdd : DefG := ⟨fun K => He.ma K (He.ga K "InvalidFont") "__init__", "__init__", "InvalidFont.__init__", defArgs s_InvalidFont_ddinitdd, defBody s_InvalidFont_ddinitdd, defScope s_InvalidFont_ddinitdd, [], []⟩
def h_InvalidTurns_ddinitdd : DefG := ⟨fun K => He.ma K (He.ga K "InvalidTurns") "__init__", "__init__", "InvalidTurns.__init__", defArgs s_InvalidTurns_ddinitdd, defBody s_InvalidTurns_ddinitdd, defScope s_InvalidTurns_ddinitdd, [], []⟩
def h_InvalidKind_ddinitdd : DefG := ⟨fun K => He.ma K (He.ga K "InvalidKind") "__init__", "__init__", "InvalidKind.__init__", defArgs s_InvalidKind_ddinitdd, defBody s_InvalidKind_ddinitdd, defScope s_InvalidKind_ddinitdd, [], []⟩
def fbs : List Chk := [(He.Fa.glo "_law_draw").ok,
  (He.Fa.glo "_law_pick").ok,
  (He.Fa.glo "_law_shuffled").ok,
  (He.Fa.glo "_law_font").ok,
  (He.Fa.glo "_law_kinds").ok,
  (He.Fa.glo "is_font_text").ok,
  (He.Fa.glo "is_list").ok,
  (He.Fa.glo "is_tuple_of").ok,
  (He.Fa.glo "are_turns").ok,
  (He.Fa.glo "_law_flipped").ok,
  (He.Fa.glo "_law_font_made").ok,
  (He.Fa.glo "_law_is_kind").ok,
  (He.Fa.glo "_law_odd").ok,
  (He.Fa.glo "is_kind").ok,
  (He.Fa.glo "need_kind").ok,
  (He.Fa.glo "_law_heads").ok,
  (He.Fa.glo "_law_seen").ok,
  (He.Fa.glo "law").ok,
  (He.Fa.glo "_law_pen").ok,
  (He.Fa.glo "_law_told").ok,
  (He.Fa.free "ValueError").ok,
  (He.Fa.free "abs").ok,
  (He.Fa.free "all").ok,
  (He.Fa.free "enumerate").ok,
  (He.Fa.free "int").ok,
  (He.Fa.free "isinstance").ok,
  (He.Fa.free "len").ok,
  (He.Fa.free "list").ok,
  (He.Fa.free "range").ok,
  (He.Fa.free "repr").ok,
  (He.Fa.free "str").ok,
  (He.Fa.free "tuple").ok,
  (He.Fa.str "BLANK" "-").ok,
  (He.Fa.int "LEAST_SIGNS" (2)).ok,
  (He.Fa.str "SIGNS" "0123456789abcdefghijklmnopqrstuvwxyz").ok,
  (He.Fa.glo "Font").ok,
  (He.Fa.cls "Font").ok,
  (He.Fa.mkr "Font").ok,
  (He.Fa.noat "Font" "word").ok,
  (He.Fa.noat "Font" "ranks").ok,
  (He.Fa.noat "Font" "heads").ok,
  (propB "Font" "signs"),
  (He.Fa.meth "Font" "ascending").ok,
  (He.Fa.meth "Font" "normal").ok,
  (He.Fa.meth "Font" "seen").ok,
  (He.Fa.meth "Font" "kept").ok,
  (He.Fa.meth "Font" "shown").ok,
  (conB "Font" "MAX_SIGNS" (.int 10)),
  (He.Fa.glo "InvalidKind").ok,
  (He.Fa.glo "InvalidNumber").ok,
  (He.Fa.glo "TooFew").ok,
  (He.Fa.glo "TooMany").ok,
  (He.Fa.glo "OtherFont").ok,
  (He.Fa.glo "InvalidSigns").ok,
  (He.Fa.glo "InvalidFont").ok,
  (He.Fa.glo "InvalidTurns").ok,
  (raiseB "InvalidFont" "value"),
  (raiseB "InvalidTurns" "value"),
  (raiseB "InvalidKind" "value"),
  veIB,
  sysB,
  (excCB "InvalidKind"),
  (kitB "InvalidKind" (.type "ValueError") true),
  (exmsB ["InvalidKind"] ["InvalidKind", "InvalidNumber", "TooFew", "TooMany", "OtherFont", "InvalidSigns"])]
def fns : List DefG := [h__law_draw, h__law_pick, h__law_shuffled, h__law_font, h__law_kinds, h_is_font_text, h_is_list, h_is_tuple_of, h_are_turns, h_Font_ddinitdd, h__law_flipped, h__law_font_made, h__law_is_kind, h__law_odd, h_Font_normal, h_is_kind, h_need_kind, h_Font_kept, h_Font_ascending, h_Font_seen, h_Font_shown, h__law_heads, h__law_seen, h_law, h__law_pen, h__law_told, h_InvalidFont_ddinitdd, h_InvalidTurns_ddinitdd, h_InvalidKind_ddinitdd]
def names0 : List PySem.Str := ["_wall", "InvalidFont", "InvalidTurns", "InvalidKind", "InvalidSigns", "InvalidNumber", "OtherFont", "TooMany", "TooFew", "BLANK", "is_list", "is_tuple_of", "is_kind", "need_kind", "SIGNS", "LEAST_SIGNS", "is_font_text", "are_turns", "Font", "_law_pen", "_law_draw", "_law_pick", "_law_shuffled", "_law_odd", "_law_font", "_law_heads", "_law_seen", "_law_kinds", "_law_flipped", "_law_font_made"]
def names1 : List PySem.Str := ["_law_is_kind", "_law_told"]
def names : List PySem.Str := names0 ++ names1
def adrs : List Addr := sysModules :: List.range 800
abbrev theRow : PySem.W.OpenRow := PySem.W.OpenLaw.row PySem.Challenge.rw_hymnplates_k03_kinds
abbrev hook : PySem.W.Hook := hookLT adrs fbs fns tf
def ob (s : PySem.W.SharedT) : He.AlD × Bool := obsLT adrs fbs fns tf (HandSHeadRun.getT s)
theorem ob_eq (s : PySem.W.SharedT) : ob s = hook.obs s.abs := obsLT_eq (HandSHeadRun.getT_eq s)
theorem run (w : World) : HandSHeadRun.RunEq theRow (PySem.W.view theRow.prog [36]) hook ob 20000 names w := by
  intro os
  kernel_rfl
end K03
end

set_option Elab.async false
set_option linter.all false
set_option maxRecDepth 100000
set_option maxHeartbeats 4000000
/-! Data, mirrored objects, and what they have to do with the heap. -/
namespace Q
open PySem PySem.Spec PyProof.Rows L2 G
/-- a value that nobody changes -/
inductive D where
  | non | bl (b : Bool) | int (i : Int) | str (x : Str) | lst (xs : List D) | tup (xs : List D) | dct (kvs : List (Key × D)) | ins (c : Str) (fs : List (Str × D)) | cls (c : Str)
/-- an object of the def's own, or one that it was given to change -/
inductive R where
  | b (k : Nat) | l (k : Nat)
  deriving DecidableEq
inductive MV where
  | d (x : D) | r (p : R)
inductive MO where
  | lst (xs : List MV) | dct (kvs : List (Key × MV)) | ins (c : Str) (fs : List (Str × MV)) | frz (d : D)
/-- frozen -/
def MO.isF : MO → Prop
  | .frz _ => True
  | _ => False
structure MS where
  B : List MO
  L : List MO
namespace MS
def get (μ : MS) : R → Option MO
  | .b k => μ.B[k]?
  | .l k => μ.L[k]?
def set (μ : MS) (o : MO) : R → MS
  | .b k => ⟨μ.B.set k o, μ.L⟩
  | .l k => ⟨μ.B, μ.L.set k o⟩
def live (μ : MS) (p : R) : Prop := ∃ o, μ.get p = some o ∧ ¬ o.isF
def new (μ : MS) (o : MO) : MS := ⟨μ.B, μ.L ++ [o]⟩
end MS

/-- v is the data d, all of whose objects stand in F -/
inductive Den (Cl : Str → Addr) (F : Addr → Prop) (H : Hp) : V → D → Prop
  | non : Den Cl F H .non .non
  | bl (b : Bool) : Den Cl F H (.bl b) (.bl b)
  | int (i : Int) : Den Cl F H (.int i) (.int i)
  | str (x : Str) : Den Cl F H (.str x) (.str x)
  | cls (c : Str) : Den Cl F H (.ref (Cl c)) (.cls c)
  | lst {a : Addr} {vs : List V} {xs : List D} : F a → H a = some (.lst vs) → vs.length = xs.length → (∀ (i : Nat) v d, vs[i]? = some v → xs[i]? = some d → Den Cl F H v d) → Den Cl F H (.ref a) (.lst xs)
  | tup {a : Addr} {vs : List V} {xs : List D} : F a → H a = some (.tup vs) → vs.length = xs.length → (∀ (i : Nat) v d, vs[i]? = some v → xs[i]? = some d → Den Cl F H v d) → Den Cl F H (.ref a) (.tup xs)
  | dct {a : Addr} {kvs : List (Key × V)} {xs : List (Key × D)} : F a → lk (H a) = some (.dK kvs) → kvs.map (·.1) = xs.map (·.1) → (∀ (i : Nat) v d, (kvs.map (·.2))[i]? = some v → (xs.map (·.2))[i]? = some d → Den Cl F H v d) → Den Cl F H (.ref a) (.dct xs)
  | ins {a dx : Addr} {c : Str} {fs : List (Str × V)} {xs : List (Str × D)} : F a → H a = some (.ins (Cl c) dx fs) → fs.map (·.1) = xs.map (·.1) → (∀ (i : Nat) v d, (fs.map (·.2))[i]? = some v → (xs.map (·.2))[i]? = some d → Den Cl F H v d) → Den Cl F H (.ref a) (.ins c xs)
/-! what stands frozen stays -/
/-- (a dict may be locked, or let go) -/
def KeepF (F : Addr → Prop) (H H' : Hp) : Prop := ∀ a, F a → (∃ ps qs, H a = some (.tbl ps) ∧ H' a = some (.tbl qs)) ∨ lk (H' a) = lk (H a) ∧ (H' a = H a ∨ ∃ kvs, lk (H a) = some (.dK kvs))
section
variable {Cl : Str → Addr} {F F' : Addr → Prop} {H H' H2 : Hp}
theorem KeepF.of (h : ∀ a, F a → H' a = H a) : KeepF F H H' := fun a ha => .inr ⟨by rw [h a ha], .inl (h a ha)⟩
theorem KeepF.lkE (h : KeepF F H H') {a : Addr} (ha : F a) {u : HO} (e : lk (H a) = some u) (nt : ∀ ps, u ≠ .tbl ps) : lk (H' a) = some u := by
  rcases h a ha with ⟨ps, _, h1, _⟩ | ⟨h1, _⟩
  · rw [h1] at e
    exact absurd (Option.some.inj e).symm (nt ps)
  · exact h1.trans e
theorem KeepF.get (h : KeepF F H H') {a : Addr} (ha : F a) {o : HO} (e : H a = some o) (n : ∀ kvs, lk (some o) ≠ some (.dK kvs)) (nt : ∀ ps, o ≠ .tbl ps) : H' a = some o := by
  rcases h a ha with ⟨ps, _, h1, _⟩ | ⟨_, h1 | ⟨kvs, h1⟩⟩
  · rw [h1] at e
    exact absurd (Option.some.inj e).symm (nt ps)
  · rw [h1, e]
  · rw [e] at h1
    exact absurd h1 (n kvs)
theorem KeepF.refl : KeepF F H H := KeepF.of fun _ _ => rfl
theorem KeepF.trans (h : KeepF F H H') (hF : ∀ a, F a → F' a) (h2 : KeepF F' H' H2) : KeepF F H H2 := fun a ha => by
  rcases h2 a (hF a ha) with ⟨ps, qs, h3, h4⟩ | ⟨k1, h3⟩
  · rcases h a ha with ⟨ps', qs', h5, h6⟩ | ⟨k2, h5 | ⟨kvs, h5⟩⟩
    · exact .inl ⟨ps', qs, h5, h4⟩
    · exact .inl ⟨ps, qs, by rw [← h5]; exact h3, h4⟩
    · rw [h3, h5] at k2
      cases k2
  · rcases h a ha with ⟨ps', qs', h5, h6⟩ | ⟨k2, h5⟩
    · rcases h3 with h3 | ⟨kvs, h3⟩
      · exact .inl ⟨ps', qs', h5, h3.trans h6⟩
      · rw [h6] at h3
        cases h3
    · refine .inr ⟨k1.trans k2, ?_⟩
      rcases h3 with h3 | ⟨kvs, h3⟩
      · rcases h5 with h5 | h5
        · exact .inl (h3.trans h5)
        · exact .inr h5
      · exact .inr ⟨kvs, k2.symm.trans h3⟩
theorem Den.mono {v : V} {d : D} (h : Den Cl F H v d) (hF : ∀ a, F a → F' a) (hk : KeepF F H H') : Den Cl F' H' v d := by
  induction h with
  | non => exact .non
  | bl b => exact .bl b
  | int i => exact .int i
  | str x => exact .str x
  | cls c => exact .cls c
  | lst ha e hl _ ih => exact .lst (hF _ ha) (hk.get ha e nofun nofun) hl ih
  | tup ha e hl _ ih => exact .tup (hF _ ha) (hk.get ha e nofun nofun) hl ih
  | dct ha e hl _ ih => exact .dct (hF _ ha) (hk.lkE ha e nofun) hl ih
  | ins ha e hl _ ih => exact .ins (hF _ ha) (hk.get ha e nofun nofun) hl ih
end
abbrev DenL (Cl : Str → Addr) (F : Addr → Prop) (H : Hp) : List V → List D → Prop := Paired (Den Cl F H)
theorem paired_of {α β : Type} {P : α → β → Prop} : ∀ {vs : List α} {xs : List β}, vs.length = xs.length → (∀ (i : Nat) v d, vs[i]? = some v → xs[i]? = some d → P v d) → Paired P vs xs
  | [], [], _, _ => .nil
  | v :: vs, x :: xs, hl, h => .cons (h 0 v x rfl rfl) (paired_of (by simpa using hl) fun i v d h1 h2 => h (i + 1) v d (by simpa using h1) (by simpa using h2))
  | [], _ :: _, hl, _ => by simp at hl
  | _ :: _, [], hl, _ => by simp at hl
theorem paired_get {α β : Type} {P : α → β → Prop} : ∀ {vs : List α} {xs : List β}, Paired P vs xs → ∀ (i : Nat) v d, vs[i]? = some v → xs[i]? = some d → P v d
  | _, _, .nil, i, v, d, h, _ => by simp at h
  | _, _, .cons h t, 0, v, d, h1, h2 => by
    simp at h1 h2
    rw [← h1, ← h2]
    exact h
  | _, _, .cons h t, i + 1, v, d, h1, h2 => paired_get t i v d (by simpa using h1) (by simpa using h2)

/-- addresses of the mirrored objects -/
abbrev Rho := R → Addr
/-- a mirrored state over a heap -/
structure Wd where
  F : Addr → Prop
  ρ : Rho
  H : Hp
  μ : MS
def RelM (Cl : Str → Addr) (w : Wd) (v : V) : MV → Prop
  | .d x => Den Cl w.F w.H v x
  | .r p => v = .ref (w.ρ p) ∧ ∃ o, w.μ.get p = some o
abbrev RelL (Cl : Str → Addr) (w : Wd) : List V → List MV → Prop := Paired (RelM Cl w)
/-- what stands in the heap has this content -/
def Fits (Cl : Str → Addr) (w : Wd) : HO → MO → Prop
  | .lst vs, .lst ms => RelL Cl w vs ms
  | .dK kvs, .dct ms => kvs.map (·.1) = ms.map (·.1) ∧ RelL Cl w (kvs.map (·.2)) (ms.map (·.2))
  | .ins C _ fs, .ins c ms => C = Cl c ∧ fs.map (·.1) = ms.map (·.1) ∧ RelL Cl w (fs.map (·.2)) (ms.map (·.2))
  | _, _ => False
def ObjR (Cl : Str → Addr) (w : Wd) (a : Addr) (o : MO) : Prop := (∃ d, o = .frz d ∧ Den Cl w.F w.H (.ref a) d) ∨ ∃ u, w.H a = some u ∧ Fits Cl w u o
/-- what stood stands, and no table of code objects is new -/
structure SubQ (H H' : Hp) : Prop where
  s : G.Sub H H'
  t : ∀ a ps, H' a = some (.tbl ps) → H a = some (.tbl ps)
instance {H H' : Hp} : CoeFun (SubQ H H') fun _ => ∀ a, H a ≠ none → H' a = H a := ⟨fun h => h.s⟩
theorem SubQ.refl (H : Hp) : SubQ H H := ⟨G.Sub.refl H, fun _ _ h => h⟩
theorem SubQ.get {H H' : Hp} (h : SubQ H H') {a : Addr} {o : HO} (e : H a = some o) : H' a = some o := h.s.get e
theorem SubQ.new {H : Hp} {p : Addr} {o : HO} (h : H p = none) (nt : ∀ ps, o ≠ .tbl ps := by nofun) : SubQ H (upd H p o) := ⟨G.Sub.new h, fun a ps e => by
  by_cases z : a = p
  · rw [z, upd_same] at e
    exact absurd (Option.some.inj e) (nt ps)
  · rw [upd_ne z] at e
    exact e⟩
theorem SubQ.trans {H H1 H2 : Hp} (h : SubQ H H1) (k : SubQ H1 H2) : SubQ H H2 := ⟨h.s.trans k.s, fun a ps e => h.t a ps (k.t a ps e)⟩
/-- the tables of code objects that stand -/
class Tables where
  T : List (Addr × Str)
def Plain (u : HO) : Prop := (∀ ps, u ≠ .tbl ps) ∧ ∀ c q, u ≠ LamX.CodeO c q
theorem plain_lst {xs : List V} : Plain (.lst xs) := ⟨nofun, fun c q z => by unfold LamX.CodeO at z; cases z⟩
theorem plain_dK {xs : List (Key × V)} : Plain (.dK xs) := ⟨nofun, fun c q z => by unfold LamX.CodeO at z; cases z⟩
theorem plain_ins {C d : Addr} {fs : List (Str × V)} : Plain (.ins C d fs) := ⟨nofun, fun c q z => by unfold LamX.CodeO at z; cases z⟩
theorem Fits.plain {Cl : Str → Addr} {w : Wd} {u : HO} {o : MO} (h : Fits Cl w u o) : Plain u := by
  cases u <;> cases o <;> first
    | exact h.elim
    | exact plain_lst
    | exact plain_dK
    | exact plain_ins
theorem tabs_upd {T : List (Addr × Str)} {H : Hp} {a : Addr} {u v : HO} (t : LamX.Tabs T H) (e : H a = some u) (p : Plain u) : LamX.Tabs T (upd H a v) := fun q hq => by
  obtain ⟨ps, h1, h2, h3⟩ := t q hq
  refine ⟨ps, (upd_ne fun z => ?_).trans h1, h2, fun pos cv hc => ?_⟩
  · rw [z, e] at h1
    exact p.1 _ (Option.some.inj h1)
  · obtain ⟨c, e1, e2⟩ := h3 pos cv hc
    refine ⟨c, e1, (upd_ne fun z => ?_).trans e2⟩
    rw [z, e] at e2
    exact p.2 _ _ (Option.some.inj e2)
/-- the mirrored state is held -/
structure SR [Tables] (Cl : Str → Addr) (w : Wd) : Prop where
  tb : LamX.Tabs Tables.T w.H
  obj : ∀ p o, w.μ.get p = some o → ObjR Cl w (w.ρ p) o
  inj : ∀ p q, w.μ.live p → w.μ.live q → w.ρ p = w.ρ q → p = q
  nf : ∀ p, w.μ.live p → ¬ w.F (w.ρ p)
  th : ∀ a, w.F a → w.H a ≠ none
  tO : ∀ a ps, w.H a = some (.tbl ps) → ∃ q, (a, q) ∈ Tables.T
theorem tO_upd [Tables] {H : Hp} {a : Addr} {u : HO} (t : ∀ a ps, H a = some (.tbl ps) → ∃ q, (a, q) ∈ Tables.T) (nt : ∀ ps, u ≠ .tbl ps) : ∀ b ps, upd H a u b = some (.tbl ps) → ∃ q, (b, q) ∈ Tables.T := fun b ps e => by
  by_cases z : b = a
  · rw [z, upd_same] at e
    exact absurd (Option.some.inj e) (nt ps)
  · rw [upd_ne z] at e
    exact t b ps e
/-- what stands at a stays; a frozen dict may be locked, a table of code objects may grow -/
def Kp (F : Addr → Prop) (H H' : Hp) (a : Addr) : Prop := H' a = H a ∨ (F a ∧ ∃ o kvs, H a = some (.dK kvs) ∧ H' a = some (.frz o (.dK kvs))) ∨ ∃ ps qs, H a = some (.tbl ps) ∧ H' a = some (.tbl qs)
variable [Tables]
/-- from one state to the next -/
structure Ext (w w' : Wd) : Prop where
  ff : ∀ a, w.F a → w'.F a
  keep : ∀ a, w.H a ≠ none → (∀ p, w.μ.live p → w.ρ p ≠ a) → Kp w.F w.H w'.H a
  rho : ∀ p o, w.μ.get p = some o → w'.ρ p = w.ρ p ∧ ∃ o', w'.μ.get p = some o' ∧ (o.isF → o' = o)
  new : ∀ a, w'.F a → w.F a ∨ w.H a = none ∨ ∃ p, w.μ.live p ∧ w.ρ p = a
  liv : ∀ p, w'.μ.live p → w.μ.get p = none → w.H (w'.ρ p) = none
  nn : ∀ a, w.H a ≠ none → w'.H a ≠ none
  sz : w'.μ.B.length = w.μ.B.length
section
variable {Cl : Str → Addr} {w w' w2 : Wd}
theorem isF_frz {o : MO} {d : D} (h : o = .frz d) : o.isF := by
  rw [h]
  trivial
theorem isF_ex {o : MO} (h : o.isF) : ∃ d, o = .frz d := by
  cases o with
  | frz d => exact ⟨d, rfl⟩
  | _ => exact h.elim
theorem ObjR.nn {a : Addr} {o : MO} (h : ObjR Cl w a o) (n : ¬ o.isF) : w.H a ≠ none := by
  rcases h with ⟨d, h, _⟩ | ⟨u, h, _⟩
  · exact absurd (isF_frz h) n
  · rw [h]
    nofun
theorem SR.nn (s : SR Cl w) {p : R} (h : w.μ.live p) : w.H (w.ρ p) ≠ none := by
  obtain ⟨o, e, n⟩ := h
  exact (s.obj p o e).nn n
theorem Ext.keepF (x : Ext w w') (s : SR Cl w) : KeepF w.F w.H w'.H := fun a ha => by
  rcases x.keep a (s.th a ha) fun p hp e => s.nf p hp (by rw [e]; exact ha) with h | ⟨_, o, kvs, h1, h2⟩ | h
  · exact .inr ⟨by rw [h], .inl h⟩
  · exact .inr ⟨by rw [h1, h2]; rfl, .inr ⟨kvs, by rw [h1]; rfl⟩⟩
  · exact .inl h
theorem Kp.eq {F : Addr → Prop} {H H' : Hp} {a : Addr} (h : Kp F H H' a) (n : ¬ F a) {u : HO} (hu : H a = some u) (nt : ∀ ps, u ≠ .tbl ps) : H' a = H a := by
  rcases h with h | h | ⟨ps, _, h, _⟩
  · exact h
  · exact absurd h.1 n
  · rw [hu] at h
    exact absurd (Option.some.inj h) (nt ps)
theorem Ext.refl : Ext w w := ⟨fun _ h => h, fun _ _ _ => .inl rfl, fun p o e => ⟨rfl, o, e, fun _ => rfl⟩, fun _ h => .inl h, (fun p ⟨o, e, _⟩ h => by rw [h] at e; cases e), fun _ h => h, rfl⟩
theorem Ext.live (x : Ext w w') {p : R} {o : MO} (h : w.μ.get p = some o) (hl : w'.μ.live p) : w.μ.live p := by
  refine ⟨o, h, fun e => ?_⟩
  obtain ⟨_, o', e', hd⟩ := x.rho p o h
  obtain ⟨o2, e2, n2⟩ := hl
  rw [e'] at e2
  cases e2
  rw [hd e] at n2
  exact n2 e
theorem RelM.ext (x : Ext w w') (s : SR Cl w) {v : V} {m : MV} (h : RelM Cl w v m) : RelM Cl w' v m := by
  cases m with
  | d d => exact Den.mono h x.ff (x.keepF s)
  | r p =>
    obtain ⟨e, o, ho⟩ := h
    obtain ⟨h1, o', h2, _⟩ := x.rho p o ho
    exact ⟨by rw [h1]; exact e, o', h2⟩
theorem frzE (x : Ext w w') (s : SR Cl w) {v : V} {o : MO} : (∃ d, o = .frz d ∧ Den Cl w.F w.H v d) → (∃ d, o = .frz d ∧ Den Cl w'.F w'.H v d) := fun ⟨d, e, h⟩ => ⟨d, e, Den.mono h x.ff (x.keepF s)⟩
theorem RelL.ext (x : Ext w w') (s : SR Cl w) {vs : List V} {ms : List MV} (h : RelL Cl w vs ms) : RelL Cl w' vs ms := Paired.mapP h fun _ _ h => h.ext x s
theorem Fits.ext (x : Ext w w') (s : SR Cl w) {u : HO} {o : MO} (h : Fits Cl w u o) : Fits Cl w' u o := by
  cases u <;> cases o <;> first
    | exact h.elim
    | exact RelL.ext x s h
    | exact ⟨h.1, RelL.ext x s h.2⟩
    | exact ⟨h.1, h.2.1, RelL.ext x s h.2.2⟩
/-- an address that no live object of the first state bears is borne by none of the second -/
theorem Ext.away (x : Ext w w') {a : Addr} (h : w.H a ≠ none) (n : ∀ p, w.μ.live p → w.ρ p ≠ a) : ∀ p, w'.μ.live p → w'.ρ p ≠ a := fun p hp e => by
  cases q : w.μ.get p with
  | none =>
    have h1 := x.liv p hp q
    rw [e] at h1
    exact h h1
  | some o => exact n p (x.live q hp) (by rw [← (x.rho p o q).1, e])
theorem Ext.back (x : Ext w w') {a : Addr} (h : w'.H a = none) : w.H a = none := by
  by_cases q : w.H a = none
  · exact q
  · exact absurd h (x.nn a q)
theorem Ext.trans (x : Ext w w') (y : Ext w' w2) : Ext w w2 where
  ff := fun a h => y.ff a (x.ff a h)
  keep := fun a h n => by
    rcases y.keep a (x.nn a h) (x.away h n) with h2 | ⟨f, o, kvs, h2, h3⟩ | ⟨ps, qs, h2, h3⟩
    · rcases x.keep a h n with h1 | ⟨f, o, kvs, h1, h4⟩ | ⟨ps, qs, h1, h4⟩
      · exact .inl (h2.trans h1)
      · exact .inr (.inl ⟨f, o, kvs, h1, h2.trans h4⟩)
      · exact .inr (.inr ⟨ps, qs, h1, h2.trans h4⟩)
    · have fa : w.F a := by
        rcases x.new a f with z | z | ⟨p, z1, z2⟩
        · exact z
        · exact absurd z h
        · exact absurd z2 (n p z1)
      rcases x.keep a h n with h1 | ⟨_, o', kvs', h1, h4⟩ | ⟨_, _, _, h4⟩
      · exact .inr (.inl ⟨fa, o, kvs, by rw [← h1]; exact h2, h3⟩)
      · rw [h4] at h2
        cases h2
      · rw [h4] at h2
        cases h2
    · rcases x.keep a h n with h1 | ⟨_, _, _, _, h4⟩ | ⟨ps', qs', h1, h4⟩
      · exact .inr (.inr ⟨ps, qs, by rw [← h1]; exact h2, h3⟩)
      · rw [h4] at h2
        cases h2
      · exact .inr (.inr ⟨ps', qs, h1, h3⟩)
  rho := fun p o h => by
    obtain ⟨h1, o', h2, h3⟩ := x.rho p o h
    obtain ⟨h4, o2, h5, h6⟩ := y.rho p o' h2
    exact ⟨by rw [h4, h1], o2, h5, fun e => by
      have e' := h3 e
      subst e'
      exact h6 e⟩
  new := fun a h => by
    rcases y.new a h with h1 | h1 | ⟨p, h1, h2⟩
    · exact x.new a h1
    · exact .inr (.inl (x.back h1))
    · cases q : w.μ.get p with
      | none =>
        have h3 := x.liv p h1 q
        rw [h2] at h3
        exact .inr (.inl h3)
      | some o => exact .inr (.inr ⟨p, x.live q h1, by rw [← (x.rho p o q).1, h2]⟩)
  liv := fun p h q => by
    cases q2 : w'.μ.get p with
    | none => exact x.back (y.liv p h q2)
    | some o =>
      have h3 := y.live q2 h
      obtain ⟨h4, _⟩ := y.rho p o q2
      rw [h4]
      exact x.liv p h3 q
  nn := fun a h => y.nn a (x.nn a h)
  sz := y.sz.trans x.sz
/-- nothing but new objects that nobody tracks, or that stand frozen -/
theorem SR.sub (s : SR Cl w) {H' : Hp} {F' : Addr → Prop} (hs : SubQ w.H H') (hf : ∀ a, w.F a → F' a) (hn : ∀ a, F' a → w.F a ∨ w.H a = none) (ht : ∀ a, F' a → H' a ≠ none) : SR Cl ⟨F', w.ρ, H', w.μ⟩ ∧ Ext w ⟨F', w.ρ, H', w.μ⟩ := by
  have x : Ext w ⟨F', w.ρ, H', w.μ⟩ := ⟨hf, fun a h _ => .inl (hs a h), fun p o e => ⟨rfl, o, e, fun _ => rfl⟩, fun a h => (hn a h).imp id Or.inl, (fun p ⟨o, e, _⟩ h => by rw [show w.μ.get p = some o from e] at h; cases h), (fun a h => by show H' a ≠ none; rw [hs a h]; exact h), rfl⟩
  refine ⟨⟨s.tb.ext fun b o h => hs.get h, fun p o e => ?_, s.inj, fun p hp h => ?_, ht, fun a ps e => s.tO a ps (hs.t a ps e)⟩, x⟩
  · rcases s.obj p o e with h | ⟨u, h1, h2⟩
    · exact .inl (frzE x s h)
    · exact .inr ⟨u, hs.get h1, h2.ext x s⟩
  · rcases hn _ h with h1 | h1
    · exact s.nf p hp h1
    · exact s.nn hp h1
theorem get_new {μ : MS} {o : MO} {p : R} : (μ.new o).get p = if p = .l μ.L.length then some o else μ.get p := by
  cases p with
  | b k =>
    rw [if_neg (by nofun)]
    rfl
  | l k =>
    show (μ.L ++ [o])[k]? = _
    by_cases h : k = μ.L.length
    · rw [if_pos (by rw [h]), h]
      simp
    · rw [if_neg (by intro e; cases e; exact h rfl)]
      show _ = μ.L[k]?
      by_cases h2 : k < μ.L.length
      · rw [List.getElem?_append_left h2]
      · rw [List.getElem?_eq_none (by simp; omega), List.getElem?_eq_none (by omega)]
theorem get_last {μ : MS} : μ.get (.l μ.L.length) = none := List.getElem?_eq_none (Nat.le_refl _)
theorem get_set {μ : MS} {o : MO} {p q : R} (h : ∃ o', μ.get p = some o') : (μ.set o p).get q = if q = p then some o else μ.get q := by
  obtain ⟨o', h⟩ := h
  cases p with
  | b k =>
    cases q with
    | b j =>
      show (μ.B.set k o)[j]? = if R.b j = R.b k then some o else μ.B[j]?
      have hk := (List.getElem?_eq_some_iff.mp h).1
      by_cases e : j = k
      · subst e
        rw [if_pos rfl]
        simp [hk]
      · rw [if_neg (fun z => e (by cases z; rfl)), List.getElem?_set_ne (Ne.symm e)]
    | l j =>
      rw [if_neg (by nofun)]
      rfl
  | l k =>
    cases q with
    | b j =>
      rw [if_neg (by nofun)]
      rfl
    | l j =>
      show (μ.L.set k o)[j]? = if R.l j = R.l k then some o else μ.L[j]?
      have hk := (List.getElem?_eq_some_iff.mp h).1
      by_cases e : j = k
      · subst e
        rw [if_pos rfl]
        simp [hk]
      · rw [if_neg (fun z => e (by cases z; rfl)), List.getElem?_set_ne (Ne.symm e)]
def Wd.rho (w : Wd) (p : Addr) : Rho := fun q => if q = .l w.μ.L.length then p else w.ρ q
/-- a new object of one's own -/
theorem SR.alloc (s : SR Cl w) {H' : Hp} (hs : SubQ w.H H') {p : Addr} {u : HO} {o : MO} (hp : w.H p = none) (hu : H' p = some u) (ho : Fits Cl w u o) (n : ¬ o.isF) :
    SR Cl ⟨w.F, w.rho p, H', w.μ.new o⟩ ∧ Ext w ⟨w.F, w.rho p, H', w.μ.new o⟩ ∧ RelM Cl ⟨w.F, w.rho p, H', w.μ.new o⟩ (.ref p) (.r (.l w.μ.L.length)) := by
  have old : ∀ q o, w.μ.get q = some o → q ≠ .l w.μ.L.length := fun q o h e => by rw [e, get_last] at h; cases h
  have rn : w.rho p (.l w.μ.L.length) = p := if_pos rfl
  have ro : ∀ q, q ≠ .l w.μ.L.length → w.rho p q = w.ρ q := fun q h => if_neg h
  have lv : ∀ q, (w.μ.new o).live q → q = .l w.μ.L.length ∨ (q ≠ .l w.μ.L.length ∧ w.μ.live q) := fun q ⟨o', e, ne⟩ => by
    rw [get_new] at e
    by_cases c : q = .l w.μ.L.length
    · exact .inl c
    · rw [if_neg c] at e
      exact .inr ⟨c, o', e, ne⟩
  have x : Ext w ⟨w.F, w.rho p, H', w.μ.new o⟩ := ⟨fun _ h => h, fun a h _ => .inl (hs a h), fun q o' e => ⟨ro q (old q o' e), o', by rw [show (Wd.mk w.F (w.rho p) H' (w.μ.new o)).μ = w.μ.new o from rfl, get_new, if_neg (old q o' e)]; exact e, fun _ => rfl⟩, fun _ h => .inl h,
    (fun q h e => by
      rcases lv q h with c | ⟨_, o', e', _⟩
      · show w.H (w.rho p q) = none
        rw [c, rn]
        exact hp
      · rw [e] at e'
        cases e'), (fun a h => by show H' a ≠ none; rw [hs a h]; exact h), rfl⟩
  refine ⟨⟨s.tb.ext fun b o h => hs.get h, fun q o' e => ?_, fun q q' h h' e => ?_, fun q h f => ?_, fun a h => ?_, fun a ps e => s.tO a ps (hs.t a ps e)⟩, x, ⟨congrArg V.ref rn.symm, o, by rw [show (Wd.mk w.F (w.rho p) H' (w.μ.new o)).μ = w.μ.new o from rfl, get_new, if_pos rfl]⟩⟩
  · rw [show (Wd.mk w.F (w.rho p) H' (w.μ.new o)).μ = w.μ.new o from rfl, get_new] at e
    show ObjR Cl ⟨w.F, w.rho p, H', w.μ.new o⟩ (w.rho p q) o'
    by_cases c : q = .l w.μ.L.length
    · rw [if_pos c] at e
      cases e
      rw [c, rn]
      exact .inr ⟨u, hu, ho.ext x s⟩
    · rw [if_neg c] at e
      rw [ro q c]
      rcases s.obj q o' e with h | ⟨u', h1, h2⟩
      · exact .inl (frzE x s h)
      · exact .inr ⟨u', hs.get h1, h2.ext x s⟩
  · have e : w.rho p q = w.rho p q' := e
    rcases lv q h with c | ⟨c, h1⟩ <;> rcases lv q' h' with c' | ⟨c', h2⟩
    · rw [c, c']
    · rw [c, rn, ro q' c'] at e
      exact absurd (by rw [← e]; exact hp) (s.nn h2)
    · rw [c', rn, ro q c] at e
      exact absurd (by rw [e]; exact hp) (s.nn h1)
    · rw [ro q c, ro q' c'] at e
      exact s.inj q q' h1 h2 e
  · have f : w.F (w.rho p q) := f
    rcases lv q h with c | ⟨c, h1⟩
    · rw [c, rn] at f
      exact s.th _ f hp
    · rw [ro q c] at f
      exact s.nf q h1 f
  · have h0 : w.H a ≠ none := s.th a h
    show H' a ≠ none
    rw [hs a h0]
    exact h0
/-- an object of one's own is written -/
theorem SR.write (s : SR Cl w) {p : R} (hl : w.μ.live p) {u : HO} {o : MO} (ho : Fits Cl w u o) (n : ¬ o.isF) :
    SR Cl ⟨w.F, w.ρ, upd w.H (w.ρ p) u, w.μ.set o p⟩ ∧ Ext w ⟨w.F, w.ρ, upd w.H (w.ρ p) u, w.μ.set o p⟩ := by
  have ex : ∃ o', w.μ.get p = some o' := let ⟨o', h, _⟩ := hl; ⟨o', h⟩
  have lv : ∀ q, (w.μ.set o p).live q → w.μ.live q := fun q ⟨o', e, ne⟩ => by
    rw [get_set ex] at e
    by_cases c : q = p
    · rw [c]
      exact hl
    · rw [if_neg c] at e
      exact ⟨o', e, ne⟩
  have nf : ∀ a, w.F a → a ≠ w.ρ p := fun a h e => s.nf p hl (by rw [← e]; exact h)
  have x : Ext w ⟨w.F, w.ρ, upd w.H (w.ρ p) u, w.μ.set o p⟩ := ⟨fun _ h => h, fun a h nl => .inl (upd_ne fun e => nl p hl e.symm), fun q o' e => ⟨rfl, by
      rw [show (Wd.mk w.F w.ρ (upd w.H (w.ρ p) u) (w.μ.set o p)).μ = w.μ.set o p from rfl, get_set ex]
      by_cases c : q = p
      · rw [if_pos c]
        refine ⟨o, rfl, fun z => ?_⟩
        obtain ⟨o2, e2, n2⟩ := hl
        rw [c, e2] at e
        cases e
        exact absurd z n2
      · rw [if_neg c]
        exact ⟨o', e, fun _ => rfl⟩⟩, fun _ h => .inl h, (fun q h e => by
      obtain ⟨o', e', _⟩ := lv q h
      rw [e] at e'
      cases e'), (fun a h => by
      show upd w.H (w.ρ p) u a ≠ none
      by_cases c : a = w.ρ p
      · rw [c, upd_same]
        nofun
      · rw [upd_ne c]
        exact h), (by
      cases p with
      | b k => exact List.length_set
      | l k => rfl)⟩
  have tb : LamX.Tabs Tables.T (upd w.H (w.ρ p) u) := by
    obtain ⟨o2, e2, n2⟩ := hl
    rcases s.obj p o2 e2 with ⟨d, z, _⟩ | ⟨u2, h1, h2⟩
    · exact absurd (isF_frz z) n2
    · exact tabs_upd s.tb h1 h2.plain
  refine ⟨⟨tb, fun q o' e => ?_, fun q q' h h' e => s.inj q q' (lv q h) (lv q' h') e, fun q h f => s.nf q (lv q h) f, fun a h => ?_, tO_upd s.tO fun ps z => by subst z; exact Fits.plain ho |>.1 ps rfl⟩, x⟩
  · rw [show (Wd.mk w.F w.ρ (upd w.H (w.ρ p) u) (w.μ.set o p)).μ = w.μ.set o p from rfl, get_set ex] at e
    show ObjR Cl ⟨w.F, w.ρ, upd w.H (w.ρ p) u, w.μ.set o p⟩ (w.ρ q) o'
    by_cases c : q = p
    · rw [if_pos c] at e
      cases e
      rw [c]
      exact .inr ⟨u, upd_same, ho.ext x s⟩
    · rw [if_neg c] at e
      by_cases d : o'.isF
      · rcases s.obj q o' e with h | ⟨u', h1, h2⟩
        · exact .inl (frzE x s h)
        · obtain ⟨d', rfl⟩ := isF_ex d
          cases u' <;> exact h2.elim
      · rcases s.obj q o' e with h | ⟨u', h1, h2⟩
        · exact .inl (frzE x s h)
        · exact .inr ⟨u', by rw [show (Wd.mk w.F w.ρ (upd w.H (w.ρ p) u) (w.μ.set o p)).H = upd w.H (w.ρ p) u from rfl, upd_ne fun z => c (s.inj q p ⟨o', e, d⟩ hl z)]; exact h1, h2.ext x s⟩
  · show upd w.H (w.ρ p) u a ≠ none
    rw [upd_ne (nf a h)]
    exact s.th a h
/-! ### freezing -/
def allD : List MV → Option (List D)
  | [] => some []
  | .d x :: ms => (allD ms).map (x :: ·)
  | .r _ :: _ => none
def flat : MO → Option D
  | .lst ms => (allD ms).map .lst
  | .dct ms => (allD (ms.map (·.2))).map fun ds => .dct ((ms.map (·.1)).zip ds)
  | .ins c ms => (allD (ms.map (·.2))).map fun ds => .ins c ((ms.map (·.1)).zip ds)
  | .frz d => some d
theorem allD_rel : ∀ {vs : List V} {ms : List MV} {ds : List D}, RelL Cl w vs ms → allD ms = some ds → DenL Cl w.F w.H vs ds
  | _, _, ds, .nil, h => by
    cases h
    exact .nil
  | _, .d x :: ms, ds, .cons h t, e => by
    obtain ⟨ds', e', rfl⟩ := Option.map_eq_some_iff.mp (show (allD ms).map (x :: ·) = some ds from e)
    exact .cons h (allD_rel t e')
  | _, .r p :: ms, ds, .cons h t, e => by cases e
/-- the node at v has the content d, all below stands frozen -/
def DenN (Cl : Str → Addr) (F : Addr → Prop) (H : Hp) (v : V) : D → Prop
  | .lst xs => ∃ a vs, v = .ref a ∧ H a = some (.lst vs) ∧ DenL Cl F H vs xs
  | .tup xs => ∃ a vs, v = .ref a ∧ H a = some (.tup vs) ∧ DenL Cl F H vs xs
  | .dct xs => ∃ a kvs, v = .ref a ∧ lk (H a) = some (.dK kvs) ∧ kvs.map (·.1) = xs.map (·.1) ∧ DenL Cl F H (kvs.map (·.2)) (xs.map (·.2))
  | .ins c xs => ∃ a dx fs, v = .ref a ∧ H a = some (.ins (Cl c) dx fs) ∧ fs.map (·.1) = xs.map (·.1) ∧ DenL Cl F H (fs.map (·.2)) (xs.map (·.2))
  | d => Den Cl F H v d
theorem Den.N {F : Addr → Prop} {H : Hp} {v : V} {d : D} (h : Den Cl F H v d) : DenN Cl F H v d := by
  cases h with
  | non => exact .non
  | bl b => exact .bl b
  | int i => exact .int i
  | str x => exact .str x
  | cls c => exact .cls c
  | lst ha e hl k => exact ⟨_, _, rfl, e, paired_of hl k⟩
  | tup ha e hl k => exact ⟨_, _, rfl, e, paired_of hl k⟩
  | dct ha e hl k => exact ⟨_, _, rfl, e, hl, paired_of (by have := congrArg List.length hl; simpa using this) k⟩
  | ins ha e hl k => exact ⟨_, _, _, rfl, e, hl, paired_of (by have := congrArg List.length hl; simpa using this) k⟩
/-! what was frozen is read as data -/
def fzm (μ : MS) : MV → MV
  | .d x => .d x
  | .r p => match μ.get p with
    | some (.frz d) => .d d
    | _ => .r p
def nz (μ : MS) : MO → MO
  | .lst ms => .lst (ms.map (fzm μ))
  | .dct ms => .dct (ms.map fun kv => (kv.1, fzm μ kv.2))
  | .ins c ms => .ins c (ms.map fun kv => (kv.1, fzm μ kv.2))
  | .frz d => .frz d
theorem RelM.fz (s : SR Cl w) {v : V} {m : MV} (h : RelM Cl w v m) : RelM Cl w v (fzm w.μ m) := by
  cases m with
  | d x => exact h
  | r p =>
    obtain ⟨hv, o, ho⟩ := h
    cases o with
    | frz d =>
      have e : fzm w.μ (.r p) = .d d := by
        unfold fzm
        simp only [ho]
      rw [e]
      rcases s.obj p _ ho with ⟨d', e', k⟩ | ⟨u, _, k⟩
      · cases e'
        rw [hv]
        exact k
      · cases u <;> exact k.elim
    | _ =>
      have e : fzm w.μ (.r p) = .r p := by
        unfold fzm
        simp only [ho]
      rw [e]
      exact ⟨hv, _, ho⟩
theorem RelL.fz (s : SR Cl w) {vs : List V} {ms : List MV} (h : RelL Cl w vs ms) : RelL Cl w vs (ms.map (fzm w.μ)) := by
  induction h with
  | nil => exact .nil
  | cons h t ih => exact .cons (h.fz s) ih
theorem Fits.nz (s : SR Cl w) {u : HO} {o : MO} (h : Fits Cl w u o) : Fits Cl w u (nz w.μ o) := by
  cases u <;> cases o <;> first
    | exact h.elim
    | exact RelL.fz s h
    | exact ⟨by rw [List.map_map]; exact h.1, by
        have := RelL.fz s h.2
        rw [List.map_map] at this ⊢
        exact this⟩
    | exact ⟨h.1, by rw [List.map_map]; exact h.2.1, by
        have := RelL.fz s h.2.2
        rw [List.map_map] at this ⊢
        exact this⟩
/-- the data that a value is, seen at once -/
def vw (μ : MS) : MV → Option D
  | .d x => some x
  | .r p => (μ.get p).bind fun o => flat (nz μ o)
theorem zip_snd {α β : Type} : ∀ {l : List α} {m : List β}, l.length = m.length → (l.zip m).map (·.1) = l ∧ (l.zip m).map (·.2) = m
  | [], [], _ => ⟨rfl, rfl⟩
  | a :: l, b :: m, h => by
    obtain ⟨h1, h2⟩ := zip_snd (l := l) (m := m) (by simpa using h)
    exact ⟨by rw [List.zip_cons_cons, List.map_cons, h1], by rw [List.zip_cons_cons, List.map_cons, h2]⟩
  | [], _ :: _, h => by simp at h
  | _ :: _, [], h => by simp at h
theorem fits_flat {a : Addr} {u : HO} {o : MO} {d : D} (h : w.H a = some u) (f : Fits Cl w u o) (e : flat o = some d) : DenN Cl w.F w.H (.ref a) d ∧ ∀ F' : Addr → Prop, (∀ a, w.F a → F' a) → F' a → Den Cl F' w.H (.ref a) d := by
  have up : ∀ {F' : Addr → Prop}, (∀ a, w.F a → F' a) → ∀ {vs : List V} {ds : List D}, DenL Cl w.F w.H vs ds → DenL Cl F' w.H vs ds := fun hF _ _ h => Paired.mapP h fun _ _ h => h.mono hF KeepF.refl
  cases u <;> cases o <;> first
    | exact f.elim
    | skip
  · obtain ⟨ds, e1, rfl⟩ := Option.map_eq_some_iff.mp e
    have r := allD_rel f e1
    exact ⟨⟨_, _, rfl, h, r⟩, fun F' hF ha => .lst ha h (Paired.length (up hF r)) (paired_get (up hF r))⟩
  · obtain ⟨ds, e1, rfl⟩ := Option.map_eq_some_iff.mp e
    obtain ⟨f1, f2⟩ := f
    have r := allD_rel f2 e1
    have hl := Paired.length r
    have hl1 := congrArg List.length f1
    obtain ⟨z1, z2⟩ := zip_snd (l := List.map (·.1) (_ : List (Key × MV))) (m := ds) (by rw [← f1]; simpa using hl)
    exact ⟨⟨_, _, rfl, by rw [h]; rfl, by rw [z1]; exact f1, by rw [z2]; exact r⟩, fun F' hF ha => .dct ha (by rw [h]; rfl) (by rw [z1]; exact f1) (by rw [z2]; exact paired_get (up hF r))⟩
  · obtain ⟨ds, e1, rfl⟩ := Option.map_eq_some_iff.mp e
    obtain ⟨f0, f1, f2⟩ := f
    subst f0
    have r := allD_rel f2 e1
    have hl := Paired.length r
    obtain ⟨z1, z2⟩ := zip_snd (l := List.map (·.1) (_ : List (Str × MV))) (m := ds) (by rw [← f1]; simpa using hl)
    exact ⟨⟨_, _, _, rfl, h, by rw [z1]; exact f1, by rw [z2]; exact r⟩, fun F' hF ha => .ins ha h (by rw [z1]; exact f1) (by rw [z2]; exact paired_get (up hF r))⟩
theorem RelM.view (s : SR Cl w) {v : V} {m : MV} {d : D} (h : RelM Cl w v m) (e : vw w.μ m = some d) : DenN Cl w.F w.H v d := by
  cases m with
  | d x =>
    cases e
    exact Den.N h
  | r p =>
    obtain ⟨rfl, _⟩ := h
    obtain ⟨o, e1, e2⟩ := Option.bind_eq_some_iff.mp (show (w.μ.get p).bind (fun o => flat (nz w.μ o)) = some d from e)
    rcases s.obj p o e1 with ⟨d', c, k⟩ | ⟨u, h1, h2⟩
    · rw [c] at e2
      cases e2
      exact Den.N k
    · exact (fits_flat h1 (h2.nz s) e2).1
theorem set_get {μ : MS} {p : R} {o : MO} (h : μ.get p = some o) : μ.set o p = μ := by
  cases p with
  | b k =>
    have h : μ.B[k]? = some o := h
    show MS.mk (μ.B.set k o) μ.L = μ
    have : μ.B.set k o = μ.B := by
      apply List.ext_getElem?
      intro j
      by_cases c : k = j
      · subst c
        rw [List.getElem?_set_self (List.getElem?_eq_some_iff.mp h).1, h]
      · rw [List.getElem?_set_ne c]
    rw [this]
  | l k =>
    have h : μ.L[k]? = some o := h
    show MS.mk μ.B (μ.L.set k o) = μ
    have : μ.L.set k o = μ.L := by
      apply List.ext_getElem?
      intro j
      by_cases c : k = j
      · subst c
        rw [List.getElem?_set_self (List.getElem?_eq_some_iff.mp h).1, h]
      · rw [List.getElem?_set_ne c]
    rw [this]
/-- an object whose content stands frozen is frozen -/
theorem SR.freeze (s : SR Cl w) {p : R} {o : MO} {d : D} (ho : w.μ.get p = some o) (e : flat (nz w.μ o) = some d) :
    ∃ w' : Wd, w'.H = w.H ∧ w'.μ = w.μ.set (.frz d) p ∧ SR Cl w' ∧ Ext w w' ∧ Den Cl w'.F w'.H (.ref (w.ρ p)) d := by
  by_cases nd : o.isF
  · obtain ⟨d', rfl⟩ := isF_ex nd
    cases e
    refine ⟨w, rfl, (set_get ho).symm, s, Ext.refl, ?_⟩
    rcases s.obj p _ ho with ⟨d', e', k⟩ | ⟨u, _, k⟩
    · cases e'
      exact k
    · cases u <;> exact k.elim
  have hl : w.μ.live p := ⟨o, ho, nd⟩
  have ex : ∃ o', w.μ.get p = some o' := ⟨o, ho⟩
  obtain ⟨u, hu, hf⟩ := (s.obj p o ho).resolve_left fun ⟨d', e', _⟩ => nd (isF_frz e')
  have lv : ∀ q, (w.μ.set (.frz d) p).live q → q ≠ p ∧ w.μ.live q := fun q ⟨o', e', ne⟩ => by
    rw [get_set ex] at e'
    by_cases c : q = p
    · rw [if_pos c] at e'
      cases e'
      exact absurd trivial ne
    · rw [if_neg c] at e'
      exact ⟨c, o', e', ne⟩
  have x : Ext w ⟨fun a => w.F a ∨ a = w.ρ p, w.ρ, w.H, w.μ.set (.frz d) p⟩ := ⟨fun _ h => .inl h, fun a h nl => .inl rfl, fun q o' e' => ⟨rfl, by
      rw [show (Wd.mk (fun a => w.F a ∨ a = w.ρ p) w.ρ w.H (w.μ.set (.frz d) p)).μ = w.μ.set (.frz d) p from rfl, get_set ex]
      by_cases c : q = p
      · rw [if_pos c]
        refine ⟨.frz d, rfl, fun z => ?_⟩
        rw [c, ho] at e'
        cases e'
        exact absurd z nd
      · rw [if_neg c]
        exact ⟨o', e', fun _ => rfl⟩⟩, fun a h => by
      rcases h with h | h
      · exact .inl h
      · exact .inr (.inr ⟨p, hl, h.symm⟩), (fun q h e' => by
      obtain ⟨_, o', e2, _⟩ := lv q h
      rw [e'] at e2
      cases e2), (fun _ h => h), (by
      cases p with
      | b k => exact List.length_set
      | l k => rfl)⟩
  refine ⟨⟨fun a => w.F a ∨ a = w.ρ p, w.ρ, w.H, w.μ.set (.frz d) p⟩, rfl, rfl, ⟨s.tb, fun q o' e' => ?_, fun q q' h h' e' => s.inj q q' (lv q h).2 (lv q' h').2 e', fun q h f => ?_, fun a h => ?_, s.tO⟩, x, (fits_flat hu (hf.nz s) e).2 _ (fun _ h => .inl h) (.inr rfl)⟩
  · rw [show (Wd.mk (fun a => w.F a ∨ a = w.ρ p) w.ρ w.H (w.μ.set (.frz d) p)).μ = w.μ.set (.frz d) p from rfl, get_set ex] at e'
    by_cases c : q = p
    · rw [if_pos c] at e'
      cases e'
      exact .inl ⟨d, rfl, by rw [c]; exact (fits_flat hu (hf.nz s) e).2 _ (fun _ h => .inl h) (.inr rfl)⟩
    · rw [if_neg c] at e'
      rcases s.obj q o' e' with h | ⟨u', h1, h2⟩
      · exact .inl (frzE x s h)
      · exact .inr ⟨u', h1, h2.ext x s⟩
  · obtain ⟨c, h1⟩ := lv q h
    rcases f with f | f
    · exact s.nf q h1 f
    · exact c (s.inj q p h1 hl f)
  · rcases h with h | h
    · exact s.th a h
    · rw [h]
      exact s.nn hl
end
end Q

set_option Elab.async false
set_option linter.all false
set_option maxRecDepth 100000
set_option maxHeartbeats 4000000
/-! What an expression does, mirrored: a function of the slots and the own objects. -/
namespace Q
variable [Tables]
open PySem PySem.Spec PyProof.Rows L2 G
/-- the slots -/
abbrev En := List (Option MV)
inductive Res (β : Type) where
  | ok (a : β) (μ : MS) | exc (c : Str) (fs : List (Str × D)) (μ : MS) | bad
def Res.bind {β γ : Type} (r : Res β) (k : β → MS → Res γ) : Res γ := match r with
  | .ok a μ => k a μ
  | .exc c fs μ => .exc c fs μ
  | .bad => .bad
structure EnvR (Cl : Str → Addr) (w : Wd) (σ : L2.St) (env : En) : Prop where
  len : env.length = σ.length
  at_ : ∀ (i : Nat) (m : MV), env[i]? = some (some m) → ∃ v, σ[i]? = some (some v) ∧ RelM Cl w v m
theorem EnvR.ext {Cl : Str → Addr} {w w' : Wd} {σ : L2.St} {env : En} (x : Ext w w') (s : SR Cl w) (h : EnvR Cl w σ env) : EnvR Cl w' σ env :=
  ⟨h.len, fun i m e => let ⟨v, e1, r⟩ := h.at_ i m e; ⟨v, e1, r.ext x s⟩⟩
/-- an exception of the class c with the fields fs lies at d -/
def ExcAt (Cl : Str → Addr) (w : Wd) (d : Addr) (fs : List (Str × D)) : Prop := ∃ vs : List (Str × V), w.H d = some (.xd vs) ∧ vs.map (·.1) = fs.map (·.1) ∧ DenL Cl w.F w.H (vs.map (·.2)) (fs.map (·.2))
def EOk (Cl : Str → Addr) (E : XK) (w : Wd) (c : Str) (fs : List (Str × D)) (μ' : MS) : Prop := ∀ (w' : Wd) (d : Addr), Ext w w' → SR Cl w' → w'.μ = μ' → ExcAt Cl w' d fs → E (.ref (Cl c)) (some d) w'.H
theorem EOk.ext {Cl : Str → Addr} {E : XK} {w w' : Wd} {c : Str} {fs : List (Str × D)} {μ' : MS} (x : Ext w w') (h : EOk Cl E w c fs μ') : EOk Cl E w' c fs μ' := fun w2 d y s e r => h w2 d (x.trans y) s e r
abbrev TG' (α : Type) := L2.St → Hp → (α → Hp → Prop) → Prop
def Post {α β : Type} (Cl : Str → Addr) (Rl : Wd → α → β → Prop) (w : Wd) (μ' : MS) (y : β) : α → Hp → Prop := fun a H' => ∃ w' : Wd, w'.H = H' ∧ w'.μ = μ' ∧ SR Cl w' ∧ Ext w w' ∧ Rl w' a y
/-- T does what n says -/
def MT {α β : Type} (Cl : Str → Addr) (E : XK) (Rl : Wd → α → β → Prop) (rel : Wd → Prop) (T : TG' α) (n : En → MS → Res β) : Prop := ∀ σ env w, SR Cl w → EnvR Cl w σ env → rel w → match n env w.μ with
  | .ok y μ' => T σ w.H (Post Cl Rl w μ' y)
  | .exc c fs μ' => EOk Cl E w c fs μ' → T σ w.H fun _ _ => False
  | .bad => True
def Mono {α : Type} (T : TG' α) : Prop := ∀ σ H (Q Q' : α → Hp → Prop), T σ H Q → (∀ a H', Q a H' → Q' a H') → T σ H Q'
/-- stays from state to state -/
def Stays (Cl : Str → Addr) (rel : Wd → Prop) : Prop := ∀ w w', SR Cl w → Ext w w' → rel w → rel w'
section
variable {Cl : Str → Addr} {E : XK} {α β γ δ : Type} {Ra : Wd → α → β → Prop} {Rb : Wd → γ → δ → Prop} {rel rel' : Wd → Prop}
theorem Post.trans {w w1 : Wd} {μ' : MS} {y : β} (x : Ext w w1) {a : α} {H' : Hp} (h : Post Cl Ra w1 μ' y a H') : Post Cl Ra w μ' y a H' := by
  obtain ⟨w', h1, h2, h3, h4, h5⟩ := h
  exact ⟨w', h1, h2, h3, x.trans h4, h5⟩
theorem MT.bind {T1 : TG' α} {T2 : α → TG' γ} {n1 : En → MS → Res β} {n2 : β → En → MS → Res δ} (mo : Mono T1) (mo2 : ∀ a, Mono (T2 a)) (st : Stays Cl rel) (h1 : MT Cl E Ra rel T1 n1)
    (h2 : ∀ a y, MT Cl E Rb (fun w => rel w ∧ Ra w a y) (T2 a) (n2 y)) : MT Cl E Rb rel (fun σ H Q => T1 σ H fun a H1 => T2 a σ H1 Q) fun env μ => (n1 env μ).bind fun y μ1 => n2 y env μ1 := by
  intro σ env w s he hr
  have k1 := h1 σ env w s he hr
  cases e1 : n1 env w.μ with
  | bad =>
    simp only [e1, Res.bind]
  | exc c fs μ' =>
    rw [e1] at k1
    simp only [e1, Res.bind]
    exact fun hE => mo σ w.H _ _ (k1 hE) fun _ _ h => h.elim
  | ok y μ1 =>
    rw [e1] at k1
    simp only [e1, Res.bind]
    have nx : ∀ a H1, Post Cl Ra w μ1 y a H1 → ∃ w1 : Wd, w1.H = H1 ∧ w1.μ = μ1 ∧ SR Cl w1 ∧ Ext w w1 ∧ EnvR Cl w1 σ env ∧ rel w1 ∧ Ra w1 a y := fun a H1 ⟨w1, a1, a2, a3, a4, a5⟩ => ⟨w1, a1, a2, a3, a4, he.ext a4 s, st w w1 s a4 hr, a5⟩
    cases e2 : n2 y env μ1 with
    | bad => trivial
    | exc c fs μ2 =>
      intro hE
      refine mo σ w.H _ _ k1 fun a H1 h => ?_
      obtain ⟨w1, a1, a2, a3, a4, a5, a6, a7⟩ := nx a H1 h
      have k2 := h2 a y σ env w1 a3 a5 ⟨a6, a7⟩
      rw [a2, e2] at k2
      rw [← a1]
      exact k2 (hE.ext a4)
    | ok z μ2 =>
      refine mo σ w.H _ _ k1 fun a H1 h => ?_
      obtain ⟨w1, a1, a2, a3, a4, a5, a6, a7⟩ := nx a H1 h
      have k2 := h2 a y σ env w1 a3 a5 ⟨a6, a7⟩
      rw [a2, e2] at k2
      rw [← a1]
      exact mo2 a σ w1.H _ _ k2 fun b H2 q => q.trans a4
theorem MT.weak {T : TG' α} {n : En → MS → Res β} (h : MT Cl E Ra rel T n) (k : ∀ w, rel' w → rel w) : MT Cl E Ra rel' T n := fun σ env w s he hr => h σ env w s he (k w hr)
theorem MT.pull {T T' : TG' α} {n : En → MS → Res β} (h : MT Cl E Ra rel T n) (k : ∀ σ H Q, T σ H Q → T' σ H Q) : MT Cl E Ra rel T' n := fun σ env w s he hr => by
  have h1 := h σ env w s he hr
  cases e : n env w.μ with
  | bad => trivial
  | exc c fs μ' =>
    rw [e] at h1
    exact fun hE => k _ _ _ (h1 hE)
  | ok y μ' =>
    rw [e] at h1
    exact k _ _ _ h1
theorem stays_T : Stays Cl fun _ => True := fun _ _ _ _ _ => trivial
theorem Stays.and (h : Stays Cl rel) (h' : Stays Cl rel') : Stays Cl fun w => rel w ∧ rel' w := fun w w' s x r => ⟨h w w' s x r.1, h' w w' s x r.2⟩
theorem stays_M {v : V} {m : MV} : Stays Cl fun w => RelM Cl w v m := fun _ _ s x r => r.ext x s
theorem stays_L {vs : List V} {ms : List MV} : Stays Cl fun w => RelL Cl w vs ms := fun _ _ s x r => RelL.ext x s r
end
section
variable {X : Cx} {e a b : Expr} {es : List Expr}
theorem mono_E : Mono (semE X e) := fun σ H Q Q' h k => semE.of pe_sem h k
theorem mono_A : Mono (semA X es) := fun σ H Q Q' h k => semA.of pa_sem h k
/-- a test, said of the run itself -/
def semC (X : Cx) (c : Expr) : TT := fun σ H Q => ∀ pins s, Inv X pins σ H s → wpAny (model X.prog X.w) X.A (isTrue c X.env (eval c X.env)) (TP X pins σ Q) X.xe s
theorem pt_sem : PT X e (semC X e) := ⟨fun pins s _ _ _ I h => h pins s I⟩
theorem semC.of {t : TT} {σ : L2.St} {H : Hp} {Q Q' : Bool → Hp → Prop} (h : PT X e t) (q : t σ H Q) (k : ∀ c H', Q c H' → Q' c H') : semC X e σ H Q' := fun pins s I =>
  thn (h.run pins s σ H Q I q) fun _ _ ⟨H', I', q'⟩ => ⟨H', I', k _ H' q'⟩
theorem mono_C : Mono (semC X e) := fun σ H Q Q' h k => semC.of pt_sem h k
end
abbrev Any : Wd → Prop := fun _ => True
/-- e does what m says; so a list of arguments; a test -/
abbrev ME (X : Cx) (Cl : Str → Addr) (E : XK) (e : Expr) (m : En → MS → Res MV) : Prop := MT Cl E (RelM Cl) Any (semE X e) m
abbrev MA (X : Cx) (Cl : Str → Addr) (E : XK) (es : List Expr) (m : En → MS → Res (List MV)) : Prop := MT Cl E (RelL Cl) Any (semA X es) m
abbrev MC (X : Cx) (Cl : Str → Addr) (E : XK) (e : Expr) (m : En → MS → Res Bool) : Prop := MT Cl E (fun _ (a b : Bool) => a = b) Any (semC X e) m
section
variable {X : Cx} {Cl : Str → Addr} {E : XK} {e a b : Expr} {es : List Expr} {m ma mb : En → MS → Res MV} {t : TE}
theorem ME.of (h : PE X e t) (k : MT Cl E (RelM Cl) Any t m) : ME X Cl E e m := k.pull fun _ _ _ q => semE.of h q fun _ _ q => q
theorem MC.of {c : En → MS → Res Bool} {t : TT} (h : PT X e t) (k : MT Cl E (fun _ (a b : Bool) => a = b) Any t c) : MC X Cl E e c := k.pull fun _ _ _ q => semC.of h q fun _ _ q => q
theorem MA.of {n : En → MS → Res (List MV)} {t : TA} (h : PA X es t) (k : MT Cl E (RelL Cl) Any t n) : MA X Cl E es n := k.pull fun _ _ _ q => semA.of h q fun _ _ q => q
/-! ### names, constants -/
def mVar (i : Nat) : En → MS → Res MV := fun env μ => match env[i]? with
  | some (some m) => .ok m μ
  | _ => .bad
theorem me_var {i : Nat} (h : PE X e (tVar i)) : ME X Cl E e (mVar i) := ME.of h fun σ env w s he _ => by
  unfold mVar
  cases q : env[i]? with
  | none => trivial
  | some o =>
    cases o with
    | none => trivial
    | some m =>
      obtain ⟨v, e1, r⟩ := he.at_ i m q
      exact ⟨v, e1, w, rfl, rfl, s, Ext.refl, r⟩
def mC (d : D) : En → MS → Res MV := fun _ μ => .ok (.d d) μ
theorem me_c {v : V} {d : D} (h : PE X e (tC v)) (r : ∀ F H, Den Cl F H v d) : ME X Cl E e (mC d) := ME.of h fun σ env w s he _ => ⟨w, rfl, rfl, s, Ext.refl, r _ _⟩
/-! ### what comes out of an operation -/
inductive Out where
  | v (d : D) | n (o : MO)
def OutR (Cl : Str → Addr) (F : Addr → Prop) (H H' : Hp) (x : V) : Out → Prop
  | .v d => ∃ F' : Addr → Prop, (∀ a, F a → F' a) ∧ (∀ a, F' a → F a ∨ H a = none) ∧ (∀ a, F' a → H' a ≠ none) ∧ Den Cl F' H' x d
  | .n o => ∃ p u, x = .ref p ∧ H p = none ∧ H' p = some u ∧ (∀ ρ μ, Fits Cl ⟨F, ρ, H, μ⟩ u o) ∧ ¬ o.isF
def mOut : Option Out → MS → Res MV
  | some (.v d), μ => .ok (.d d) μ
  | some (.n o), μ => .ok (.r (.l μ.L.length)) (μ.new o)
  | none, _ => .bad
theorem out_post {w : Wd} {H' : Hp} {x : V} {o : Out} (s : SR Cl w) (hs : SubQ w.H H') (h : OutR Cl w.F w.H H' x o) : match mOut (some o) w.μ with
    | .ok y μ' => Post Cl (RelM Cl) w μ' y x H'
    | _ => False := by
  cases o with
  | v d =>
    obtain ⟨F', h1, h2, h3, h4⟩ := h
    obtain ⟨s', x'⟩ := s.sub hs h1 h2 h3
    exact ⟨⟨F', w.ρ, H', w.μ⟩, rfl, rfl, s', x', h4⟩
  | n o =>
    obtain ⟨p, u, rfl, h1, h2, h3, h4⟩ := h
    obtain ⟨s', x', r⟩ := s.alloc hs h1 h2 (h3 w.ρ w.μ) h4
    exact ⟨_, rfl, rfl, s', x', r⟩
def Th (F : Addr → Prop) (H : Hp) : Prop := ∀ a, F a → H a ≠ none
/-- r reads two values, changes nothing that stood there, and gives what f says -/
def Pure2 (Cl : Str → Addr) (r : R2) (f : D → D → Option Out) : Prop := ∀ F H v u dv du o (Q : VK), Th F H → DenN Cl F H v dv → DenN Cl F H u du → f dv du = some o → (∀ x H', SubQ H H' → OutR Cl F H H' x o → Q x H') → r v u H Q
def Pure1 (Cl : Str → Addr) (r : V → Hp → VK → Prop) (f : D → Option Out) : Prop := ∀ F H v dv o (Q : VK), Th F H → DenN Cl F H v dv → f dv = some o → (∀ x H', SubQ H H' → OutR Cl F H H' x o → Q x H') → r v H Q
def PureL (Cl : Str → Addr) (r : List V → Hp → VK → Prop) (f : List D → Option Out) : Prop := ∀ F H vs ds o (Q : VK), Th F H → Paired (DenN Cl F H) vs ds → f ds = some o → (∀ x H', SubQ H H' → OutR Cl F H H' x o → Q x H') → r vs H Q
def vws (μ : MS) : List MV → Option (List D)
  | [] => some []
  | m :: ms => (vw μ m).bind fun d => (vws μ ms).map (d :: ·)
theorem vws_rel {w : Wd} (s : SR Cl w) : ∀ {vs : List V} {ms : List MV} {ds : List D}, RelL Cl w vs ms → vws w.μ ms = some ds → Paired (DenN Cl w.F w.H) vs ds
  | _, _, ds, .nil, h => by
    cases h
    exact .nil
  | _, m :: ms, ds, .cons h t, e => by
    obtain ⟨d, e1, e2⟩ := Option.bind_eq_some_iff.mp (show (vw w.μ m).bind (fun d => (vws w.μ ms).map (d :: ·)) = some ds from e)
    obtain ⟨ds', e3, rfl⟩ := Option.map_eq_some_iff.mp e2
    exact .cons (h.view s e1) (vws_rel s t e3)
theorem out_leaf {rel : Wd → Prop} {T : TE} {n : En → MS → Res MV} (h : ∀ σ env w, SR Cl w → EnvR Cl w σ env → rel w → n env w.μ = .bad ∨ ∃ o, n env w.μ = mOut (some o) w.μ ∧ ∀ Q : VK, (∀ x H', SubQ w.H H' → OutR Cl w.F w.H H' x o → Q x H') → T σ w.H Q) : MT Cl E (RelM Cl) rel T n := fun σ env w s he hr => by
  rcases h σ env w s he hr with h1 | ⟨o, h1, h2⟩
  · rw [h1]
    trivial
  · rw [h1]
    cases o with
    | v d => exact h2 _ fun x H' hs ho => out_post s hs ho
    | n o => exact h2 _ fun x H' hs ho => out_post s hs ho
def mOp (f : D → D → Option Out) (ma mb : En → MS → Res MV) : En → MS → Res MV := fun env μ => (ma env μ).bind fun x μ1 => (mb env μ1).bind fun y μ2 => mOut ((vw μ2 x).bind fun d => (vw μ2 y).bind fun d' => f d d') μ2
theorem mt_op {r : R2} {f : D → D → Option Out} (hf : Pure2 Cl r f) (mr : ∀ v u, Mono fun (_ : L2.St) H Q => r v u H Q) (ha : ME X Cl E a ma) (hb : ME X Cl E b mb) : MT Cl E (RelM Cl) Any (tOp r (semE X a) (semE X b)) (mOp f ma mb) := by
  refine MT.bind (T2 := fun v σ H Q => semE X b σ H fun u H2 => r v u H2 Q) mono_E (fun v σ H Q Q' h k => mono_E σ H _ _ h fun u H2 q => mr v u σ H2 _ _ q k) stays_T ha fun v x => ?_
  refine MT.bind (T2 := fun u σ H Q => r v u H Q) mono_E (fun u => mr v u) (stays_T.and stays_M) (hb.weak fun _ _ => trivial) fun u y => ?_
  refine out_leaf fun σ env w s he hr => ?_
  obtain ⟨⟨_, h1⟩, h2⟩ := hr
  cases e1 : vw w.μ x with
  | none => exact .inl rfl
  | some d =>
    cases e2 : vw w.μ y with
    | none => exact .inl rfl
    | some d' =>
      simp only [Option.bind_some]
      cases e3 : f d d' with
      | none => exact .inl rfl
      | some o => exact .inr ⟨o, rfl, fun Q k => hf w.F w.H v u d d' o Q s.th (h1.view s e1) (h2.view s e2) e3 k⟩
end
end Q

set_option Elab.async false
set_option linter.all false
set_option maxRecDepth 100000
set_option maxHeartbeats 4000000
/-! What the operations give, by their data. -/
noncomputable section
open Classical
namespace Q
variable [Tables]
open PySem PySem.Spec PyProof.Rows L2 G
section
variable {Cl : Str → Addr} {F : Addr → Prop} {H H' : Hp} {v u : V}
/-- what is no object -/
def toV : D → Option V
  | .non => some .non
  | .bl b => some (.bl b)
  | .int i => some (.int i)
  | .str x => some (.str x)
  | _ => none
def ofV : V → D
  | .bl b => .bl b
  | .int i => .int i
  | .str x => .str x
  | _ => .non
theorem den_toV {d : D} (h : DenN Cl F H v d) (e : toV d = some u) : v = u := by
  cases d <;> simp only [toV, Option.some.injEq, reduceCtorEq] at e <;> subst e <;> cases h <;> rfl
theorem toV_den {d : D} (e : toV d = some u) : Den Cl F H u d := by
  cases d <;> simp only [toV, Option.some.injEq, reduceCtorEq] at e <;> subst e
  · exact .non
  · exact .bl _
  · exact .int _
  · exact .str _
def toVs : List D → Option (List V)
  | [] => some []
  | d :: ds => (toV d).bind fun v => (toVs ds).map (v :: ·)
theorem den_toVs : ∀ {vs : List V} {ds : List D} {us : List V}, DenL Cl F H vs ds → toVs ds = some us → vs = us
  | _, _, us, .nil, e => by
    cases e
    rfl
  | _, d :: ds, us, .cons h t, e => by
    obtain ⟨w, e1, e2⟩ := Option.bind_eq_some_iff.mp (show (toV d).bind (fun v => (toVs ds).map (v :: ·)) = some us from e)
    obtain ⟨ws, e3, rfl⟩ := Option.map_eq_some_iff.mp e2
    rw [den_toV h.N e1, den_toVs t e3]
theorem den_len {vs : List V} {ds : List D} (h : DenL Cl F H vs ds) : vs.length = ds.length := Paired.length h
theorem out_d {d : D} (th : Th F H) (h : Den Cl F H v d) : OutR Cl F H H v (.v d) := ⟨F, fun _ h => h, fun _ h => .inl h, th, h⟩
theorem relL_d {vs : List V} {ds : List D} {ρ : Rho} {μ : MS} (h : DenL Cl F H vs ds) : RelL Cl ⟨F, ρ, H, μ⟩ vs (ds.map .d) := by
  induction h with
  | nil => exact .nil
  | cons h t ih => exact .cons h ih
theorem out_lst {p : Addr} {vs : List V} {ds : List D} (hp : H p = none) (h : DenL Cl F H vs ds) : OutR Cl F H (upd H p (.lst vs)) (.ref p) (.n (.lst (ds.map .d))) :=
  ⟨p, .lst vs, rfl, hp, upd_same, fun _ _ => relL_d h, nofun⟩
theorem DenL.app {vs us : List V} {ds es : List D} (h : DenL Cl F H vs ds) (k : DenL Cl F H us es) : DenL Cl F H (vs ++ us) (ds ++ es) := by
  induction h with
  | nil => exact k
  | cons h t ih => exact .cons h ih
theorem DenL.get {vs : List V} {ds : List D} (h : DenL Cl F H vs ds) {j : Nat} {d : D} (e : ds[j]? = some d) : ∃ v, vs[j]? = some v ∧ Den Cl F H v d := by
  have hl := den_len h
  have hj := (List.getElem?_eq_some_iff.mp e).1
  exact ⟨vs[j], by simp, paired_get h j _ _ (by simp) e⟩
theorem DenL.atI {vs : List V} {ds : List D} (h : DenL Cl F H vs ds) {i : Int} {d : D} (e : atI ds i = some d) : ∃ v, L2.atI vs i = some v ∧ Den Cl F H v d := by
  unfold L2.atI at e ⊢
  rw [den_len h]
  obtain ⟨j, e1, e2⟩ := Option.bind_eq_some_iff.mp e
  obtain ⟨v, e3, e4⟩ := h.get e2
  exact ⟨v, by rw [e1]; exact e3, e4⟩
theorem DenL.take {vs : List V} {ds : List D} (n : Nat) (h : DenL Cl F H vs ds) : DenL Cl F H (vs.take n) (ds.take n) := by
  induction h generalizing n with
  | nil => simpa using Paired.nil
  | cons h t ih =>
    cases n with
    | zero => exact .nil
    | succ n => exact .cons h (ih n)
theorem DenL.drop {vs : List V} {ds : List D} (n : Nat) (h : DenL Cl F H vs ds) : DenL Cl F H (vs.drop n) (ds.drop n) := by
  induction h generalizing n with
  | nil => simpa using Paired.nil
  | cons h t ih =>
    cases n with
    | zero => exact .cons h t
    | succ n => exact ih n
theorem DenL.map {α : Type} {f : α → V} {g : α → D} (h : ∀ a, Den Cl F H (f a) (g a)) : ∀ l : List α, DenL Cl F H (l.map f) (l.map g)
  | [] => .nil
  | a :: l => .cons (h a) (DenL.map h l)
/-! ### numbers -/
def fI (g : Int → Int → D) : D → D → Option Out
  | .int i, .int j => some (.v (g i j))
  | _, _ => none
theorem pu_I {g : Int → Int → V} {g' : Int → Int → D} (k : ∀ i j, toV (g' i j) = some (g i j)) : Pure2 Cl (rI0 g) (fI g') := fun F H v u dv du o Q th hv hu e q => by
  cases dv <;> cases du <;> simp only [fI, reduceCtorEq, Option.some.injEq] at e
  subst e
  cases hv
  cases hu
  exact ⟨_, _, rfl, rfl, q _ H (SubQ.refl _) (out_d th (toV_den (k _ _)))⟩
def fIC (C : Int → Int → Prop) (g : Int → Int → D) : D → D → Option Out
  | .int i, .int j => if C i j then some (.v (g i j)) else none
  | _, _ => none
theorem pu_IC {C : Int → Int → Prop} {g : Int → Int → V} {g' : Int → Int → D} (k : ∀ i j, toV (g' i j) = some (g i j)) : Pure2 Cl (rI C g) (fIC C g') := fun F H v u dv du o Q th hv hu e q => by
  cases dv <;> cases du <;> simp only [fIC, reduceCtorEq] at e
  split at e
  · rename_i hc
    cases e
    cases hv
    cases hu
    exact ⟨_, _, rfl, rfl, hc, q _ H (SubQ.refl _) (out_d th (toV_den (k _ _)))⟩
  · cases e
def fAdd : D → D → Option Out
  | .int i, .int j => some (.v (.int (i + j)))
  | .str x, .str y => if x.length + y.length ≤ sizeLine then some (.v (.str (x ++ y))) else none
  | .lst xs, .lst ys => if xs.length + ys.length ≤ sizeLine then some (.n (.lst ((xs ++ ys).map .d))) else none
  | _, _ => none
theorem pu_add : Pure2 Cl rAddU fAdd := fun F H v u dv du o Q th hv hu e q => by
  cases dv <;> cases du <;> simp only [fAdd, reduceCtorEq, Option.some.injEq] at e
  · subst e
    cases hv
    cases hu
    exact .inl ⟨_, _, rfl, rfl, q _ H (SubQ.refl _) (out_d th (.int _))⟩
  · split at e
    · rename_i hc
      cases e
      cases hv
      cases hu
      exact .inr (.inl ⟨_, _, rfl, rfl, hc, q _ H (SubQ.refl _) (out_d th (.str _))⟩)
    · cases e
  · split at e
    · rename_i hc
      cases e
      obtain ⟨a, vs, rfl, ha, la⟩ := hv
      obtain ⟨b, us, rfl, hb, lb⟩ := hu
      exact .inr (.inr ⟨a, b, vs, us, rfl, rfl, ha, hb, by rw [den_len la, den_len lb]; exact hc, fun p hp => q _ _ (SubQ.new hp) (out_lst hp (la.app lb))⟩)
    · cases e
def fMul : D → D → Option Out
  | .int i, .int j => if CMulW i j then some (.v (.int (i * j))) else none
  | .lst xs, .int k => if -(2 ^ 63) ≤ k ∧ k < 2 ^ 63 ∧ xs.length * k.toNat ≤ sizeLine then some (.n (.lst ((List.replicate k.toNat xs).flatten.map .d))) else none
  | _, _ => none
theorem DenL.rep {vs : List V} {ds : List D} (h : DenL Cl F H vs ds) : ∀ n, DenL Cl F H (List.replicate n vs).flatten (List.replicate n ds).flatten
  | 0 => .nil
  | n + 1 => by
    rw [List.replicate_succ, List.replicate_succ, List.flatten_cons, List.flatten_cons]
    exact h.app (h.rep n)
theorem pu_mul : Pure2 Cl rMulU fMul := fun F H v u dv du o Q th hv hu e q => by
  cases dv <;> cases du <;> simp only [fMul, reduceCtorEq] at e
  · split at e
    · rename_i hc
      cases e
      cases hv
      cases hu
      exact .inl ⟨_, _, rfl, rfl, hc, q _ H (SubQ.refl _) (out_d th (.int _))⟩
    · cases e
  · split at e
    · rename_i hc
      cases e
      obtain ⟨a, vs, rfl, ha, la⟩ := hv
      cases hu
      exact .inr ⟨a, _, vs, rfl, rfl, ha, hc.1, hc.2.1, by rw [den_len la]; exact hc.2.2, fun p hp => q _ _ (SubQ.new hp) (out_lst hp (la.rep _))⟩
    · cases e
/-! ### comparisons -/
def eqD (neg : Bool) : D → D → Option Out := fun x y => match toV x, toV y with
  | some v, some u => if scal v u = true then some (.v (.bl (neg ^^ decide (v = u)))) else none
  | _, _ => match x, y with
    | .lst xs, .lst [] => some (.v (.bl (neg ^^ xs.isEmpty)))
    | _, _ => none
theorem eqD_cases {neg : Bool} {x y : D} {o : Out} (e : eqD neg x y = some o) : (∃ v u, toV x = some v ∧ toV y = some u ∧ scal v u = true ∧ o = .v (.bl (neg ^^ decide (v = u)))) ∨ ∃ xs, x = .lst xs ∧ y = .lst [] ∧ o = .v (.bl (neg ^^ xs.isEmpty)) := by
  unfold eqD at e
  split at e
  · rename_i v u e1 e2
    split at e
    · rename_i hs
      exact .inl ⟨v, u, e1, e2, hs, (Option.some.inj e).symm⟩
    · cases e
  · split at e
    · exact .inr ⟨_, rfl, rfl, (Option.some.inj e).symm⟩
    · cases e
theorem nil_den {vs : List V} (h : DenL Cl F H vs []) : vs = [] := by
  cases h
  rfl
theorem empty_den {vs : List V} {xs : List D} (h : DenL Cl F H vs xs) : decide (vs = []) = xs.isEmpty := by
  cases h <;> simp
theorem pu_eq : Pure2 Cl rEqU (eqD false) := fun F H v u dv du o Q th hv hu e q => by
  rcases eqD_cases e with ⟨v', u', e1, e2, hs, rfl⟩ | ⟨xs, rfl, rfl, rfl⟩
  · obtain rfl := den_toV hv e1
    obtain rfl := den_toV hu e2
    refine .inl ⟨hs, ?_⟩
    have := q (.bl (false ^^ decide (v = u))) H (SubQ.refl _) (out_d th (.bl _))
    simpa using this
  · obtain ⟨a, vs, rfl, ha, la⟩ := hv
    obtain ⟨b, us, rfl, hb, lb⟩ := hu
    rw [nil_den lb] at hb
    refine .inr (.inl ⟨a, b, vs, rfl, rfl, by rw [ha]; rfl, by rw [hb]; rfl, ?_⟩)
    rw [empty_den la]
    exact q _ H (SubQ.refl _) (out_d th (.bl _))
theorem pu_ne : Pure2 Cl rNeU (eqD true) := fun F H v u dv du o Q th hv hu e q => by
  rcases eqD_cases e with ⟨v', u', e1, e2, hs, rfl⟩ | ⟨xs, rfl, rfl, rfl⟩
  · obtain rfl := den_toV hv e1
    obtain rfl := den_toV hu e2
    refine .inl ⟨hs, ?_⟩
    have := q (.bl (true ^^ decide (v = u))) H (SubQ.refl _) (out_d th (.bl _))
    simpa using this
  · obtain ⟨a, vs, rfl, ha, la⟩ := hv
    obtain ⟨b, us, rfl, hb, lb⟩ := hu
    rw [nil_den lb] at hb
    refine .inr (.inl ⟨a, b, vs, rfl, rfl, by rw [ha]; rfl, by rw [hb]; rfl, ?_⟩)
    rw [empty_den la]
    exact q _ H (SubQ.refl _) (out_d th (.bl _))
def isNon : D → Bool
  | .non => true
  | _ => false
def isD (neg : Bool) : D → D → Option Out
  | x, .non => some (.v (.bl (neg ^^ isNon x)))
  | _, _ => none
theorem non_den {d : D} (h : DenN Cl F H v d) : decide (v = .non) = isNon d := by
  cases d with
  | non => cases h; rfl
  | bl b => cases h; rfl
  | int i => cases h; rfl
  | str x => cases h; rfl
  | cls c => cases h; rfl
  | lst xs => obtain ⟨a, vs, rfl, _⟩ := h; rfl
  | tup xs => obtain ⟨a, vs, rfl, _⟩ := h; rfl
  | dct xs => obtain ⟨a, vs, rfl, _⟩ := h; rfl
  | ins c xs => obtain ⟨a, dx, vs, rfl, _⟩ := h; rfl
theorem pu_is : Pure2 Cl (fun x y H Q => y = .non ∧ Q (.bl (decide (x = .non))) H) (isD false) := fun F H v u dv du o Q th hv hu e q => by
  cases du <;> simp only [isD, reduceCtorEq, Option.some.injEq] at e
  subst e
  cases hu
  refine ⟨rfl, ?_⟩
  rw [non_den hv]
  have := q _ H (SubQ.refl _) (out_d (Cl := Cl) th (.bl _))
  simpa using this
theorem pu_isnot : Pure2 Cl (fun x y H Q => y = .non ∧ Q (.bl (!decide (x = .non))) H) (isD true) := fun F H v u dv du o Q th hv hu e q => by
  cases du <;> simp only [isD, reduceCtorEq, Option.some.injEq] at e
  subst e
  cases hu
  refine ⟨rfl, ?_⟩
  rw [non_den hv]
  have := q _ H (SubQ.refl _) (out_d (Cl := Cl) th (.bl _))
  simpa using this
def valD (kvs : List (Key × D)) (k : Key) : Option D := (kvs.find? fun kv => decide (kv.1 = k)).map (·.2)
theorem valD_rel {k : Key} : ∀ {kvs : List (Key × V)} {xs : List (Key × D)}, kvs.map (·.1) = xs.map (·.1) → DenL Cl F H (kvs.map (·.2)) (xs.map (·.2)) →
    (∀ d, valD xs k = some d → ∃ v, valV kvs k = some v ∧ Den Cl F H v d) ∧ (valV kvs k).isSome = (valD xs k).isSome
  | [], [], _, _ => ⟨nofun, rfl⟩
  | [], _ :: _, e, _ => by simp at e
  | _ :: _, [], e, _ => by simp at e
  | (k1, v1) :: kvs, (k2, d2) :: xs, e, .cons h t => by
    obtain ⟨e1, e2⟩ : k1 = k2 ∧ kvs.map (·.1) = xs.map (·.1) := by simpa using e
    subst e1
    obtain ⟨i1, i2⟩ := valD_rel (k := k) e2 t
    by_cases c : k1 = k
    · subst c
      have a1 : valV ((k1, v1) :: kvs) k1 = some v1 := by simp [valV]
      have a2 : valD ((k1, d2) :: xs) k1 = some d2 := by simp [valD]
      rw [a1, a2]
      exact ⟨fun d hd => by cases hd; exact ⟨v1, rfl, h⟩, rfl⟩
    · have a1 : valV ((k1, v1) :: kvs) k = valV kvs k := by simp [valV, c]
      have a2 : valD ((k1, d2) :: xs) k = valD xs k := by simp [valD, c]
      rw [a1, a2]
      exact ⟨i1, i2⟩
def keyD : D → Option Key
  | .int i => some (.inl i)
  | .str x => some (.inr x)
  | _ => none
theorem key_den {d : D} {k : Key} (h : DenN Cl F H v d) (e : keyD d = some k) : v = kV k := by
  cases d <;> simp only [keyD, Option.some.injEq, reduceCtorEq] at e <;> subst e <;> cases h <;> rfl
def inList (neg : Bool) (x : D) (xs : List D) : Option Out := (toV x).bind fun v => (toVs xs).bind fun vs => if flatV v = true ∧ vs.all flatV = true then some (.v (.bl (neg ^^ inV v vs))) else none
theorem inList_cases {neg : Bool} {x : D} {xs : List D} {o : Out} (e : inList neg x xs = some o) : ∃ v vs, toV x = some v ∧ toVs xs = some vs ∧ flatV v = true ∧ vs.all flatV = true ∧ o = .v (.bl (neg ^^ inV v vs)) := by
  obtain ⟨v, e1, e2⟩ := Option.bind_eq_some_iff.mp e
  obtain ⟨vs, e3, e4⟩ := Option.bind_eq_some_iff.mp e2
  split at e4
  · rename_i hc
    exact ⟨v, vs, e1, e3, hc.1, hc.2, (Option.some.inj e4).symm⟩
  · cases e4
def inD (neg : Bool) : D → D → Option Out
  | .str a, .str z => some (.v (.bl (neg ^^ inS a z)))
  | x, .lst xs => inList neg x xs
  | x, .tup xs => inList neg x xs
  | x, .dct kvs => (keyD x).map fun k => .v (.bl (neg ^^ (valD kvs k).isSome))
  | _, _ => none
theorem pu_in {neg : Bool} : Pure2 Cl (rInU neg) (inD neg) := fun F H v u dv du o Q th hv hu e q => by
  have hq : ∀ b, o = .v (.bl b) → Q (.bl b) H := fun b h => q _ H (SubQ.refl _) (by rw [h]; exact out_d th (.bl _))
  cases du with
  | str z =>
    cases dv <;> simp only [inD, reduceCtorEq, Option.some.injEq] at e
    cases hv
    cases hu
    exact .inl ⟨_, _, rfl, rfl, hq _ e.symm⟩
  | lst xs =>
    obtain ⟨v', vs, e1, e3, c1, c2, e4⟩ := inList_cases (show inList neg dv xs = some o by cases dv <;> exact e)
    obtain ⟨a, us, rfl, ha, la⟩ := hu
    obtain rfl := den_toV hv e1
    obtain rfl := den_toVs la e3
    exact .inr (.inl ⟨a, us, rfl, by rw [ha]; rfl, c1, c2, hq _ e4⟩)
  | tup xs =>
    obtain ⟨v', vs, e1, e3, c1, c2, e4⟩ := inList_cases (show inList neg dv xs = some o by cases dv <;> exact e)
    obtain ⟨a, us, rfl, ha, la⟩ := hu
    obtain rfl := den_toV hv e1
    obtain rfl := den_toVs la e3
    exact .inr (.inr (.inl ⟨a, us, rfl, by rw [ha]; rfl, c1, c2, hq _ e4⟩))
  | dct kvs =>
    obtain ⟨k, e1, e2⟩ := Option.map_eq_some_iff.mp (show (keyD dv).map (fun k => Out.v (.bl (neg ^^ (valD kvs k).isSome))) = some o by cases dv <;> exact e)
    obtain ⟨a, us, rfl, ha, h1, h2⟩ := hu
    refine .inr (.inr (.inr ⟨a, us, k, key_den hv e1, rfl, ha, ?_⟩))
    rw [(valD_rel (k := k) h1 h2).2]
    exact hq _ e2.symm
  | non => cases dv <;> cases e
  | bl b => cases dv <;> cases e
  | int i => cases dv <;> cases e
  | ins c fs => cases dv <;> cases e
  | cls c => cases dv <;> cases e
/-! ### index -/
def ixD : D → D → Option Out
  | .str z, .int i => if z.length ≤ sizeLine then (atI z.cps.toList i).map fun c => .v (.str ⟨#[c]⟩) else none
  | .lst xs, .int i => (atI xs i).map .v
  | .tup xs, .int i => (atI xs i).map .v
  | .dct kvs, x => (keyD x).bind fun k => (valD kvs k).map .v
  | _, _ => none
theorem pu_ix : Pure2 Cl rIxU ixD := fun F H v u dv du o Q th hv hu e q => by
  cases dv with
  | str z =>
    cases du <;> simp only [ixD, reduceCtorEq] at e
    split at e
    · rename_i hc
      obtain ⟨c, e1, rfl⟩ := Option.map_eq_some_iff.mp e
      cases hv
      cases hu
      exact .inl ⟨_, _, c, rfl, rfl, hc, e1, q _ H (SubQ.refl _) (out_d th (.str _))⟩
    · cases e
  | lst xs =>
    cases du <;> simp only [ixD, reduceCtorEq] at e
    obtain ⟨d, e1, rfl⟩ := Option.map_eq_some_iff.mp e
    obtain ⟨a, vs, rfl, ha, la⟩ := hv
    cases hu
    obtain ⟨v, e2, hd⟩ := la.atI e1
    exact .inr (.inl ⟨a, vs, _, v, rfl, rfl, by rw [ha]; rfl, e2, q _ H (SubQ.refl _) (out_d th hd)⟩)
  | tup xs =>
    cases du <;> simp only [ixD, reduceCtorEq] at e
    obtain ⟨d, e1, rfl⟩ := Option.map_eq_some_iff.mp e
    obtain ⟨a, vs, rfl, ha, la⟩ := hv
    cases hu
    obtain ⟨v, e2, hd⟩ := la.atI e1
    exact .inr (.inr (.inl ⟨a, vs, _, v, rfl, rfl, by rw [ha]; rfl, e2, q _ H (SubQ.refl _) (out_d th hd)⟩))
  | dct kvs =>
    obtain ⟨k, e1, e2⟩ := Option.bind_eq_some_iff.mp (show (keyD du).bind (fun k => (valD kvs k).map Out.v) = some o by cases du <;> exact e)
    obtain ⟨d, e3, rfl⟩ := Option.map_eq_some_iff.mp e2
    obtain ⟨a, us, rfl, ha, h1, h2⟩ := hv
    obtain ⟨v, e4, hd⟩ := (valD_rel (k := k) h1 h2).1 d e3
    exact .inr (.inr (.inr ⟨a, us, k, v, rfl, key_den hu e1, ha, e4, q _ H (SubQ.refl _) (out_d th hd)⟩))
  | non => cases du <;> cases e
  | bl b => cases du <;> cases e
  | int i => cases du <;> cases e
  | ins c fs => cases du <;> cases e
  | cls c => cases du <;> cases e
end
end Q
end

set_option Elab.async false
set_option linter.all false
set_option maxRecDepth 100000
set_option maxHeartbeats 4000000
/-! Tests, arguments, displays, built-in functions. -/
noncomputable section
open Classical
namespace Q
variable [Tables]
open PySem PySem.Spec PyProof.Rows L2 G
abbrev BoolR : Wd → Bool → Bool → Prop := fun _ a b => a = b
section
variable {X : Cx} {Cl : Str → Addr} {E : XK} {e a b : Expr} {es : List Expr} {ma mb mc : En → MS → Res MV} {na nb : En → MS → Res Bool} {rel : Wd → Prop} {α β : Type} {Rl : Wd → α → β → Prop}
/-- an answer at once -/
theorem mt_ret {x : α} {n : En → MS → Res β} (h : ∀ σ env w, SR Cl w → EnvR Cl w σ env → rel w → n env w.μ = .bad ∨ ∃ y, n env w.μ = .ok y w.μ ∧ Rl w x y) : MT Cl E Rl rel (fun _ H Q => Q x H) n := fun σ env w s he hr => by
  rcases h σ env w s he hr with h1 | ⟨y, h1, h2⟩
  · rw [h1]
    trivial
  · rw [h1]
    exact ⟨w, rfl, rfl, s, Ext.refl, h2⟩
theorem mono_ret {x : α} : Mono fun (_ : L2.St) H (Q : α → Hp → Prop) => Q x H := fun _ _ _ _ h k => k _ _ h
def asB (n : En → MS → Res MV) : En → MS → Res Bool := fun env μ => (n env μ).bind fun x μ1 => match x with
  | .d (.bl c) => .ok c μ1
  | _ => .bad
theorem mt_asB {t : TE} {n : En → MS → Res MV} (mo : Mono t) (st : Stays Cl rel) (h : MT Cl E (RelM Cl) rel t n) : MT Cl E BoolR rel (fun σ H (Q : Bool → Hp → Prop) => t σ H fun x H1 => ∃ c, x = .bl c ∧ Q c H1) (asB n) := by
  refine MT.bind (T2 := fun x σ H (Q : Bool → Hp → Prop) => ∃ c, x = V.bl c ∧ Q c H) mo (fun x σ H Q Q' ⟨c, e, q⟩ k => ⟨c, e, k _ _ q⟩) st h fun v y => ?_
  intro σ env w s he hr
  cases y with
  | r p => trivial
  | d d =>
    cases d with
    | bl c =>
      have hv : v = .bl c := by
        have := hr.2
        cases this
        rfl
      exact ⟨c, hv, w, rfl, rfl, s, Ext.refl, rfl⟩
    | _ => trivial
theorem mc_val (h : ME X Cl E e ma) (he : ∀ whole, isTrue e X.env whole = (do let v ← whole; standAt e.pos; holding [v] (truthy v)) := by intro _; rfl) : MC X Cl E e (asB ma) := MC.of (pt_val pe_sem he) (mt_asB mono_E stays_T h)
theorem mono_op {r : R2} (mr : ∀ v u, Mono fun (_ : L2.St) H Q => r v u H Q) : Mono (tOp r (semE X a) (semE X b)) := fun σ H Q Q' h k => mono_E σ H _ _ h fun v H1 q => mono_E σ H1 _ _ q fun u H2 q2 => mr v u σ H2 _ _ q2 k
theorem mc_cmp {op : CmpOp} {pos : Pos} {r : R2} {f : D → D → Option Out} (ho : OpR X (compareOp op) r) (hf : Pure2 Cl r f) (mr : ∀ v u, Mono fun (_ : L2.St) H Q => r v u H Q) (ha : ME X Cl E a ma) (hb : ME X Cl E b mb) (hm : behindInMarks op b = false) :
    MC X Cl E (.Compare a [op] [b] pos) (asB (mOp f ma mb)) := MC.of (pt_cmpR ho pe_sem pe_sem hm) (mt_asB (mono_op mr) stays_T (mt_op hf mr ha hb))
theorem me_cmp {op : CmpOp} {pos : Pos} {r : R2} {f : D → D → Option Out} (ho : OpR X (compareOp op) r) (hf : Pure2 Cl r f) (mr : ∀ v u, Mono fun (_ : L2.St) H Q => r v u H Q) (ha : ME X Cl E a ma) (hb : ME X Cl E b mb) (hm : behindInMarks op b = false) :
    ME X Cl E (.Compare a [op] [b] pos) (mOp f ma mb) := ME.of (pe_cmpR ho pe_sem pe_sem hm) (mt_op hf mr ha hb)
theorem me_op {op : Operator} {pos : Pos} {r : R2} {f : D → D → Option Out} (ho : OpR X (binaryOp op) r) (hf : Pure2 Cl r f) (mr : ∀ v u, Mono fun (_ : L2.St) H Q => r v u H Q) (ha : ME X Cl E a ma) (hb : ME X Cl E b mb) :
    ME X Cl E (.BinOp a op b pos) (mOp f ma mb) := ME.of (pe_op ho pe_sem pe_sem) (mt_op hf mr ha hb)
def mNot (n : En → MS → Res Bool) : En → MS → Res Bool := fun env μ => (n env μ).bind fun c μ1 => .ok (!c) μ1
theorem mc_not {pos : Pos} (h : MC X Cl E a na) : MC X Cl E (.UnaryOp .Not a pos) (mNot na) := MC.of (pt_not pt_sem) (by
  refine MT.bind (T2 := fun c σ H (Q : Bool → Hp → Prop) => Q (!c) H) mono_C (fun c => mono_ret) stays_T h fun v y => mt_ret fun σ env w s he hr => .inr ⟨_, rfl, ?_⟩
  rw [hr.2])
def mAnd (n1 n2 : En → MS → Res Bool) : En → MS → Res Bool := fun env μ => (n1 env μ).bind fun c μ1 => if c = true then n2 env μ1 else .ok false μ1
def mOr (n1 n2 : En → MS → Res Bool) : En → MS → Res Bool := fun env μ => (n1 env μ).bind fun c μ1 => if c = true then .ok true μ1 else n2 env μ1
theorem mono_and {t u : TT} (h : Mono t) (k : Mono u) : Mono (tAnd t u) := fun σ H Q Q' p q => h σ H _ _ p fun c H1 z => by
  cases c with
  | true => exact k σ H1 _ _ z q
  | false => exact q _ _ z
theorem mono_or {t u : TT} (h : Mono t) (k : Mono u) : Mono (tOr t u) := fun σ H Q Q' p q => h σ H _ _ p fun c H1 z => by
  cases c with
  | true => exact q _ _ z
  | false => exact k σ H1 _ _ z q
theorem mt_and {t u : TT} (mo : Mono t) (mu : Mono u) (h : MT Cl E BoolR Any t na) (k : MT Cl E BoolR Any u nb) : MT Cl E BoolR Any (tAnd t u) (mAnd na nb) := by
  refine MT.bind (T2 := fun c σ H (Q : Bool → Hp → Prop) => if c = true then u σ H Q else Q false H) mo (fun c σ H Q Q' p q => ?_) stays_T h fun v y => ?_
  · cases c with
    | true => exact mu σ H _ _ p q
    | false => exact q _ _ p
  · intro σ env w s he hr
    obtain ⟨_, rfl⟩ := hr
    cases v with
    | true => exact k σ env w s he trivial
    | false => exact ⟨w, rfl, rfl, s, Ext.refl, rfl⟩
theorem mt_or {t u : TT} (mo : Mono t) (mu : Mono u) (h : MT Cl E BoolR Any t na) (k : MT Cl E BoolR Any u nb) : MT Cl E BoolR Any (tOr t u) (mOr na nb) := by
  refine MT.bind (T2 := fun c σ H (Q : Bool → Hp → Prop) => if c = true then Q true H else u σ H Q) mo (fun c σ H Q Q' p q => ?_) stays_T h fun v y => ?_
  · cases c with
    | true => exact q _ _ p
    | false => exact mu σ H _ _ p q
  · intro σ env w s he hr
    obtain ⟨_, rfl⟩ := hr
    cases v with
    | true => exact ⟨w, rfl, rfl, s, Ext.refl, rfl⟩
    | false => exact k σ env w s he trivial
/-- and, or as tests -/
structure MW (X : Cx) (Cl : Str → Addr) (E : XK) (e : Expr) (n : En → MS → Res Bool) : Prop where
  ex : ∃ t, PW X e t ∧ Mono t ∧ MT Cl E BoolR Any t n
theorem MW.c (h : MW X Cl E e na) : MC X Cl E e na := by
  obtain ⟨t, h1, _, h2⟩ := h.ex
  exact MC.of (PW.pt h1) h2
theorem mw_and1 {pos : Pos} (h : MC X Cl E a na) : MW X Cl E (.BoolOp .And [a] pos) na := ⟨_, pw_and1 pt_sem, mono_C, h⟩
theorem mw_or1 {pos : Pos} (h : MC X Cl E a na) : MW X Cl E (.BoolOp .Or [a] pos) na := ⟨_, pw_or1 pt_sem, mono_C, h⟩
theorem mw_and {pos : Pos} {rest : List Expr} (h : MC X Cl E a na) (k : MW X Cl E (.BoolOp .And (b :: rest) pos) nb) : MW X Cl E (.BoolOp .And (a :: b :: rest) pos) (mAnd na nb) := by
  obtain ⟨t, h1, h2, h3⟩ := k.ex
  exact ⟨_, pw_and pt_sem h1, mono_and mono_C h2, mt_and mono_C h2 h h3⟩
theorem mw_or {pos : Pos} {rest : List Expr} (h : MC X Cl E a na) (k : MW X Cl E (.BoolOp .Or (b :: rest) pos) nb) : MW X Cl E (.BoolOp .Or (a :: b :: rest) pos) (mOr na nb) := by
  obtain ⟨t, h1, h2, h3⟩ := k.ex
  exact ⟨_, pw_or pt_sem h1, mono_or mono_C h2, mt_or mono_C h2 h h3⟩
/-! ### values of tests -/
def mAndV (n1 n2 : En → MS → Res MV) : En → MS → Res MV := fun env μ => (asB n1 env μ).bind fun c μ1 => if c = true then n2 env μ1 else .ok (.d (.bl false)) μ1
def mOrV (n1 n2 : En → MS → Res MV) : En → MS → Res MV := fun env μ => (asB n1 env μ).bind fun c μ1 => if c = true then .ok (.d (.bl true)) μ1 else n2 env μ1
def mNotV (n1 : En → MS → Res MV) : En → MS → Res MV := fun env μ => (asB n1 env μ).bind fun c μ1 => .ok (.d (.bl (!c))) μ1
def mIf (n : En → MS → Res Bool) (n1 n2 : En → MS → Res MV) : En → MS → Res MV := fun env μ => (n env μ).bind fun c μ1 => if c = true then n1 env μ1 else n2 env μ1
theorem mono_asB {t : TE} (h : Mono t) : Mono (fun σ H (Q : Bool → Hp → Prop) => t σ H fun x H1 => ∃ c, x = .bl c ∧ Q c H1) := fun σ H Q Q' p q => h σ H _ _ p fun x H1 ⟨c, e, z⟩ => ⟨c, e, q _ _ z⟩
theorem me_if {c : Expr} {pos : Pos} (hc : MC X Cl E c na) (ha : ME X Cl E a ma) (hb : ME X Cl E b mb) : ME X Cl E (.IfExp c a b pos) (mIf na ma mb) := ME.of (pe_ifExp pt_sem pe_sem pe_sem) (by
  refine MT.bind (T2 := fun c σ H (Q : VK) => if c = true then semE X a σ H Q else semE X b σ H Q) mono_C (fun c σ H Q Q' p q => ?_) stays_T hc fun v y => ?_
  · cases c with
    | true => exact mono_E σ H _ _ p q
    | false => exact mono_E σ H _ _ p q
  · intro σ env w s he hr
    obtain ⟨_, rfl⟩ := hr
    cases v with
    | true => exact ha σ env w s he trivial
    | false => exact hb σ env w s he trivial)
theorem me_notV {pos : Pos} (ha : ME X Cl E a ma) : ME X Cl E (.UnaryOp .Not a pos) (mNotV ma) := ME.of (pe_not pe_sem) (by
  have h1 := mt_asB (E := E) mono_E stays_T ha
  refine (MT.bind (T2 := fun c σ H (Q : VK) => Q (.bl (!c)) H) (mono_asB mono_E) (fun c => mono_ret) stays_T h1 fun v y => mt_ret fun σ env w s he hr => .inr ⟨_, rfl, ?_⟩).pull fun σ H Q h => h
  rw [hr.2]
  exact Den.bl _)
theorem me_andV {pos : Pos} {rest : List Expr} (ha : ME X Cl E a ma) (hb : ME X Cl E (.BoolOp .And (b :: rest) pos) mb) : ME X Cl E (.BoolOp .And (a :: b :: rest) pos) (mAndV ma mb) := ME.of (pe_and pe_sem pe_sem) (by
  have h1 := mt_asB (E := E) mono_E stays_T ha
  refine (MT.bind (T2 := fun c σ H (Q : VK) => if c = true then semE X (.BoolOp .And (b :: rest) pos) σ H Q else Q (.bl false) H) (mono_asB mono_E) (fun c σ H Q Q' p q => ?_) stays_T h1 fun v y => ?_).pull fun σ H Q h => mono_E σ H _ _ h fun x H1 ⟨c, e, z⟩ => ⟨c, e, z⟩
  · cases c with
    | true => exact mono_E σ H _ _ p q
    | false => exact q _ _ p
  · intro σ env w s he hr
    obtain ⟨_, rfl⟩ := hr
    cases v with
    | true => exact hb σ env w s he trivial
    | false => exact ⟨w, rfl, rfl, s, Ext.refl, Den.bl _⟩)
theorem me_orV {pos : Pos} {rest : List Expr} (ha : ME X Cl E a ma) (hb : ME X Cl E (.BoolOp .Or (b :: rest) pos) mb) : ME X Cl E (.BoolOp .Or (a :: b :: rest) pos) (mOrV ma mb) := ME.of (pe_or pe_sem pe_sem) (by
  have h1 := mt_asB (E := E) mono_E stays_T ha
  refine (MT.bind (T2 := fun c σ H (Q : VK) => if c = true then Q (.bl true) H else semE X (.BoolOp .Or (b :: rest) pos) σ H Q) (mono_asB mono_E) (fun c σ H Q Q' p q => ?_) stays_T h1 fun v y => ?_).pull fun σ H Q h => mono_E σ H _ _ h fun x H1 ⟨c, e, z⟩ => ⟨c, e, z⟩
  · cases c with
    | true => exact q _ _ p
    | false => exact mono_E σ H _ _ p q
  · intro σ env w s he hr
    obtain ⟨_, rfl⟩ := hr
    cases v with
    | true => exact ⟨w, rfl, rfl, s, Ext.refl, Den.bl _⟩
    | false => exact hb σ env w s he trivial)
theorem me_one {op : BoolOp} {pos : Pos} (ha : ME X Cl E a ma) : ME X Cl E (.BoolOp op [a] pos) ma := ME.of (pe_one pe_sem) ha
/-! ### freezing what is to be kept -/
def moRefs : MO → List R
  | .lst ms => ms.filterMap fun m => match m with | .r p => some p | .d _ => none
  | .dct ms => ms.filterMap fun m => match m.2 with | .r p => some p | .d _ => none
  | .ins _ ms => ms.filterMap fun m => match m.2 with | .r p => some p | .d _ => none
  | .frz _ => []
def frz1 (p : R) (μ : MS) : Option (D × MS) := (μ.get p).bind fun o => (flat (nz μ o)).map fun d => (d, μ.set (.frz d) p)
def frzs (f : R → MS → Option (D × MS)) : List R → MS → Option MS
  | [], μ => some μ
  | p :: ps, μ => (f p μ).bind fun x => frzs f ps x.2
/-- frozen with all that is below (so deep) -/
def frzD : Nat → R → MS → Option (D × MS)
  | 0, p, μ => frz1 p μ
  | n + 1, p, μ => (μ.get p).bind fun o => (frzs (frzD n) (moRefs o) μ).bind fun μ1 => frz1 p μ1
def FrzOk (Cl : Str → Addr) (f : R → MS → Option (D × MS)) : Prop := ∀ p (w : Wd) d μ', SR Cl w → f p w.μ = some (d, μ') → ∃ w' : Wd, w'.H = w.H ∧ w'.μ = μ' ∧ SR Cl w' ∧ Ext w w' ∧ Den Cl w'.F w'.H (.ref (w.ρ p)) d
theorem frz1_ok : FrzOk Cl frz1 := fun p w d μ' s h => by
  obtain ⟨o, ho, h2⟩ := Option.bind_eq_some_iff.mp h
  obtain ⟨d', e, h3⟩ := Option.map_eq_some_iff.mp h2
  cases h3
  exact s.freeze ho e
theorem frzs_ok {f : R → MS → Option (D × MS)} (hf : FrzOk Cl f) : ∀ (ps : List R) (w : Wd) μ', SR Cl w → frzs f ps w.μ = some μ' → ∃ w' : Wd, w'.H = w.H ∧ w'.μ = μ' ∧ SR Cl w' ∧ Ext w w'
  | [], w, μ', s, h => by
    cases h
    exact ⟨w, rfl, rfl, s, Ext.refl⟩
  | p :: ps, w, μ', s, h => by
    obtain ⟨⟨d, μ1⟩, h1, h2⟩ := Option.bind_eq_some_iff.mp h
    obtain ⟨w1, a1, a2, a3, a4, _⟩ := hf p w d μ1 s h1
    subst a2
    obtain ⟨w2, b1, b2, b3, b4⟩ := frzs_ok hf ps w1 μ' a3 h2
    exact ⟨w2, b1.trans a1, b2, b3, a4.trans b4⟩
theorem frzD_ok : ∀ n, FrzOk Cl (frzD n)
  | 0 => frz1_ok
  | n + 1 => fun p w d μ' s h => by
    obtain ⟨o, ho, h1⟩ := Option.bind_eq_some_iff.mp h
    obtain ⟨μ1, h2, h3⟩ := Option.bind_eq_some_iff.mp h1
    obtain ⟨w1, a1, a2, a3, a4⟩ := frzs_ok (frzD_ok n) _ w μ1 s h2
    subst a2
    obtain ⟨w2, b1, b2, b3, b4, b5⟩ := frz1_ok p w1 d μ' a3 h3
    exact ⟨w2, b1.trans a1, b2, b3, a4.trans b4, by rw [← (a4.rho p o ho).1]; exact b5⟩
def mFrz (n : En → MS → Res MV) : En → MS → Res MV := fun env μ => (n env μ).bind fun x μ1 => match x with
  | .d d => .ok (.d d) μ1
  | .r p => match frzD 4 p μ1 with
    | some (d, μ2) => .ok (.d d) μ2
    | none => .bad
theorem mt_frz {t : TE} (mo : Mono t) (st : Stays Cl rel) (h : MT Cl E (RelM Cl) rel t ma) : MT Cl E (RelM Cl) rel t (mFrz ma) := by
  refine MT.bind (T2 := fun x σ H (Q : VK) => Q x H) mo (fun x => mono_ret) st h fun v y => ?_
  intro σ env w s he hr
  obtain ⟨_, r⟩ := hr
  cases y with
  | d d => exact ⟨w, rfl, rfl, s, Ext.refl, r⟩
  | r p =>
    obtain ⟨rfl, o, ho⟩ := r
    cases e : frzD 4 p w.μ with
    | none =>
      simp only [e]
    | some x =>
      obtain ⟨d, μ2⟩ := x
      simp only [e]
      exact frzD_ok 4 p w d μ2 s e
theorem me_frz (h : ME X Cl E e ma) : ME X Cl E e (mFrz ma) := mt_frz mono_E stays_T h
/-! ### arguments -/
def mNil : En → MS → Res (List MV) := fun _ μ => .ok [] μ
def mCons (n : En → MS → Res MV) (ns : En → MS → Res (List MV)) : En → MS → Res (List MV) := fun env μ => (n env μ).bind fun x μ1 => (ns env μ1).bind fun xs μ2 => .ok (x :: xs) μ2
theorem ma_nil : MA X Cl E [] mNil := MA.of pa_nil (mt_ret fun σ env w s he hr => .inr ⟨_, rfl, .nil⟩)
theorem ma_cons {ns : En → MS → Res (List MV)} (h : ME X Cl E e ma) (hs : MA X Cl E es ns) (hst : starEach (e :: es) X.env = (false, eval e X.env) :: starEach es X.env := by rfl) : MA X Cl E (e :: es) (mCons ma ns) := MA.of (pa_cons pe_sem pa_sem hst) (by
  refine MT.bind (T2 := fun x σ H (Q : List V → Hp → Prop) => semA X es σ H fun xs H2 => Q (x :: xs) H2) mono_E (fun x σ H Q Q' p q => mono_A σ H _ _ p fun xs H2 z => q _ _ z) stays_T h fun v y => ?_
  refine MT.bind (T2 := fun xs σ H (Q : List V → Hp → Prop) => Q (v :: xs) H) mono_A (fun xs => mono_ret) (stays_T.and stays_M) (hs.weak fun _ _ => trivial) fun vs ys => ?_
  exact mt_ret fun σ env w s he hr => .inr ⟨_, rfl, .cons hr.1.2 hr.2⟩)
/-! ### displays -/
def mLst (ns : En → MS → Res (List MV)) : En → MS → Res MV := fun env μ => (ns env μ).bind fun xs μ1 => if xs.length ≤ sizeLine then .ok (.r (.l μ1.L.length)) (μ1.new (.lst xs)) else .bad
theorem me_lst {ns : En → MS → Res (List MV)} {pos : Pos} (hs : MA X Cl E es ns) : ME X Cl E (.List es pos) (mLst ns) := ME.of (pe_lst pa_sem) (by
  refine MT.bind (T2 := fun xs σ H (Q : VK) => xs.length ≤ sizeLine ∧ ∀ p, H p = none → Q (.ref p) (upd H p (.lst xs))) mono_A (fun xs σ H Q Q' p q => ⟨p.1, fun a ha => q _ _ (p.2 a ha)⟩) stays_T hs fun vs ys => ?_
  intro σ env w s he hr
  by_cases c : ys.length ≤ sizeLine
  · simp only [if_pos c]
    refine ⟨by rw [Paired.length hr.2]; exact c, fun p hp => ?_⟩
    obtain ⟨s', x', r⟩ := s.alloc (SubQ.new hp) hp upd_same (o := .lst ys) (u := .lst vs) hr.2 id
    exact ⟨_, rfl, rfl, s', x', r⟩
  · simp only [if_neg c])
def mTup (ns : En → MS → Res (List MV)) : En → MS → Res MV := fun env μ => (ns env μ).bind fun xs μ1 => match allD (xs.map (fzm μ1)) with
  | some ds => if ds.length ≤ sizeLine then .ok (.d (.tup ds)) μ1 else .bad
  | none => .bad
theorem me_tup {ns : En → MS → Res (List MV)} {k : Nat} {pos : Pos} (hs : MA X Cl E es ns) : ME X Cl E (.Tuple es k pos) (mTup ns) := ME.of (pe_tup pa_sem) (by
  refine MT.bind (T2 := fun xs σ H (Q : VK) => xs.length ≤ sizeLine ∧ ∀ p, H p = none → Q (.ref p) (upd H p (.tup xs))) mono_A (fun xs σ H Q Q' p q => ⟨p.1, fun a ha => q _ _ (p.2 a ha)⟩) stays_T hs fun vs ys => ?_
  intro σ env w s he hr
  cases e1 : allD (ys.map (fzm w.μ)) with
  | none => simp only [e1]
  | some ds =>
    simp only [e1]
    have r := allD_rel (hr.2.fz s) e1
    by_cases c : ds.length ≤ sizeLine
    · simp only [if_pos c]
      refine ⟨by rw [Paired.length r]; exact c, fun p hp => ?_⟩
      have hs' := SubQ.new (o := .tup vs) hp
      obtain ⟨s', x'⟩ := s.sub (F' := fun a => w.F a ∨ a = p) hs' (fun _ h => .inl h) (fun a h => h.imp id fun e => by rw [e]; exact hp) (fun a h => by
        rcases h with h | h
        · rw [hs' a (s.th a h)]
          exact s.th a h
        · rw [h, upd_same]
          nofun)
      have r' : DenL Cl (fun a => w.F a ∨ a = p) (upd w.H p (.tup vs)) vs ds := Paired.mapP r fun _ _ h => h.mono (fun _ h => .inl h) (KeepF.of fun a ha => hs' a (s.th a ha))
      exact ⟨⟨_, w.ρ, _, w.μ⟩, rfl, rfl, s', x', .tup (.inr rfl) upd_same (Paired.length r') (paired_get r')⟩
    · simp only [if_neg c])
/-! ### built-in functions -/
def mCB (f : List D → Option Out) (ns : En → MS → Res (List MV)) : En → MS → Res MV := fun env μ => (ns env μ).bind fun xs μ1 => mOut ((vws μ1 xs).bind f) μ1
theorem mt_cb {r : List V → Hp → VK → Prop} {f : List D → Option Out} {ns : En → MS → Res (List MV)} (hf : PureL Cl r f) (mr : ∀ vs, Mono fun (_ : L2.St) H Q => r vs H Q) (hs : MA X Cl E es ns) : MT Cl E (RelM Cl) Any (tCB r (semA X es)) (mCB f ns) := by
  refine MT.bind (T2 := fun vs σ H (Q : VK) => r vs H Q) mono_A (fun vs => mr vs) stays_T hs fun vs ys => out_leaf fun σ env w s he hr => ?_
  cases e1 : vws w.μ ys with
  | none => exact .inl rfl
  | some ds =>
    simp only [Option.bind_some]
    cases e2 : f ds with
    | none => exact .inl rfl
    | some o => exact .inr ⟨o, rfl, fun Q k => hf w.F w.H vs ds o Q s.th (vws_rel s hr.2 e1) e2 k⟩
theorem me_cb {id : String} {x : Str} {p pos : Pos} {r : List V → Hp → VK → Prop} {f : List D → Option Out} {ns : En → MS → Res (List MV)} (hc : CallR X (.builtin id) r) (hf : PureL Cl r f) (mr : ∀ vs, Mono fun (_ : L2.St) H Q => r vs H Q)
    (hg : Gl X x) (hm : X.mg x = none) (hv : bootBuiltins x = some (.builtin id)) (ha : MA X Cl E (e :: es) ns) (hn : x ≠ "__name__" := by decide) (hdb : (x == ("__debug__" : Str)) = false := by decide)
    (he : starEach (e :: es) X.env = (false, eval e X.env) :: starEach es X.env := by rfl) (hpl : (backTo pos (starEach es X.env)).any (·.1) = false := by rfl) : ME X Cl E (.Call (.Name x p) (e :: es) [] pos) (mCB f ns) :=
  ME.of (pe_callB hc hg hm hv pa_sem hn hdb he hpl) (mt_cb hf mr ha)
end
end Q
end

set_option Elab.async false
set_option linter.all false
set_option maxRecDepth 100000
set_option maxHeartbeats 4000000
/-! Statements, mirrored. -/
noncomputable section
open Classical
namespace Q
variable [Tables]
open PySem PySem.Spec PyProof.Rows L2 G
inductive SRes where
  | nx (env : En) (μ : MS) | rt (m : MV) (μ : MS) | bk (env : En) (μ : MS) | ct (env : En) (μ : MS) | exc (c : Str) (fs : List (Str × D)) (μ : MS) | bad
/-- what is wanted behind a statement whose mirror says this -/
def SPost (Cl : Str → Addr) (E : XK) (D : Ends) (w : Wd) : SRes → Prop
  | .nx env μ' => ∀ σ' w', w'.μ = μ' → SR Cl w' → Ext w w' → EnvR Cl w' σ' env → D.nx σ' w'.H
  | .rt m μ' => ∀ v w', w'.μ = μ' → SR Cl w' → Ext w w' → RelM Cl w' v m → D.rt v w'.H
  | .bk env μ' => ∀ σ' w', w'.μ = μ' → SR Cl w' → Ext w w' → EnvR Cl w' σ' env → D.bk σ' w'.H
  | .ct env μ' => ∀ σ' w', w'.μ = μ' → SR Cl w' → Ext w w' → EnvR Cl w' σ' env → D.ct σ' w'.H
  | .exc c fs μ' => EOk Cl E w c fs μ'
  | .bad => False
abbrev Mir := En → MS → SRes
def MSt (Cl : Str → Addr) (E : XK) (T : TS) (n : Mir) : Prop := ∀ D σ env w, SR Cl w → EnvR Cl w σ env → SPost Cl E D w (n env w.μ) → T D σ w.H
structure MP (X : Cx) (Cl : Str → Addr) (E : XK) (st : Stmt) (n : Mir) : Prop where
  ex : ∃ t, PS X st t ∧ MSt Cl E t n
structure MPs (X : Cx) (Cl : Str → Addr) (E : XK) (st : List Stmt) (n : Mir) : Prop where
  ex : ∃ t, PSs X st t ∧ MSt Cl E t n
section
variable {X : Cx} {Cl : Str → Addr} {E : XK} {D : Ends} {w w' : Wd} {e a b : Expr} {st : Stmt} {rest : List Stmt} {m : En → MS → Res MV} {n n' : Mir} {t : TE}
theorem SPost.ext (x : Ext w w') {r : SRes} (h : SPost Cl E D w r) : SPost Cl E D w' r := by
  cases r with
  | nx env μ' => exact fun σ' w2 e s y q => h σ' w2 e s (x.trans y) q
  | rt m μ' => exact fun v w2 e s y q => h v w2 e s (x.trans y) q
  | bk env μ' => exact fun σ' w2 e s y q => h σ' w2 e s (x.trans y) q
  | ct env μ' => exact fun σ' w2 e s y q => h σ' w2 e s (x.trans y) q
  | exc c fs μ' => exact EOk.ext x h
  | bad => exact h.elim
theorem mt_use {α β : Type} {T : TG' α} {Rl : Wd → α → β → Prop} {f : En → MS → Res β} {σ : L2.St} {env : En} {Q : α → Hp → Prop} (h : MT Cl E Rl Any T f) (mo : Mono T) (s : SR Cl w) (he : EnvR Cl w σ env)
    (k : match f env w.μ with
      | .ok y μ' => ∀ v w', w'.μ = μ' → SR Cl w' → Ext w w' → Rl w' v y → Q v w'.H
      | .exc c fs μ' => EOk Cl E w c fs μ'
      | .bad => False) : T σ w.H Q := by
  have h1 := h σ env w s he trivial
  cases e : f env w.μ with
  | bad =>
    rw [e] at k
    exact k.elim
  | exc c fs μ' =>
    rw [e] at h1 k
    exact mo σ w.H _ _ (h1 k) fun _ _ z => z.elim
  | ok y μ' =>
    rw [e] at h1 k
    exact mo σ w.H _ _ h1 fun v H' ⟨w', a1, a2, a3, a4, a5⟩ => by rw [← a1]; exact k v w' a2 a3 a4 a5
theorem EnvR.set {σ : L2.St} {env : En} {i : Nat} {v : V} {m : MV} (h : EnvR Cl w σ env) (r : RelM Cl w v m) : EnvR Cl w (σ.set i (some v)) (env.set i (some m)) := by
  refine ⟨by rw [List.length_set, List.length_set]; exact h.len, fun j m' e => ?_⟩
  by_cases c : i = j
  · subst c
    have hi : i < env.length := by
      have := (List.getElem?_eq_some_iff.mp e).1
      rw [List.length_set] at this
      exact this
    rw [List.getElem?_set_self hi] at e
    cases e
    exact ⟨v, List.getElem?_set_self (by rw [← h.len]; exact hi), r⟩
  · rw [List.getElem?_set_ne c] at e
    obtain ⟨u, e1, r1⟩ := h.at_ j m' e
    exact ⟨u, by rw [List.getElem?_set_ne c]; exact e1, r1⟩
/-- a value, then what is done with it -/
def wth {β : Type} (r : Res β) (k : β → MS → SRes) : SRes := match r with
  | .ok y μ => k y μ
  | .exc c fs μ => .exc c fs μ
  | .bad => .bad
theorem use_wth {α β : Type} {T : TG' α} {Rl : Wd → α → β → Prop} {f : En → MS → Res β} {k : β → MS → SRes} {σ : L2.St} {env : En} {Q : α → Hp → Prop} (h : MT Cl E Rl Any T f) (mo : Mono T) (s : SR Cl w) (he : EnvR Cl w σ env) (hp : SPost Cl E D w (wth (f env w.μ) k))
    (hk : ∀ y v w', SR Cl w' → Ext w w' → EnvR Cl w' σ env → Rl w' v y → SPost Cl E D w' (k y w'.μ) → Q v w'.H) : T σ w.H Q := by
  refine mt_use h mo s he ?_
  cases e : f env w.μ with
  | bad =>
    rw [e] at hp
    exact hp
  | exc c fs μ' =>
    rw [e] at hp
    exact hp
  | ok y μ' =>
    rw [e] at hp
    exact fun v w' e1 s' x r => hk y v w' s' x (he.ext x s) r (by rw [e1]; exact SPost.ext x hp)
def sSeq (n n' : Mir) : Mir := fun env μ => match n env μ with
  | .nx env' μ' => n' env' μ'
  | r => r
theorem mps_nil : MPs X Cl E [] fun env μ => .nx env μ := ⟨_, pss_nil, fun D σ env w s he hp => hp σ w rfl s Ext.refl he⟩
theorem mst_seq {t u : TS} (h : MSt Cl E t n) (k : MSt Cl E u n') : MSt Cl E (tSeq t u) (sSeq n n') := fun D σ env w s he hp => by
  refine h _ σ env w s he ?_
  unfold sSeq at hp
  cases e : n env w.μ with
  | nx env' μ' =>
    rw [e] at hp
    exact fun σ' w' e1 s' x q => k D σ' env' w' s' q (by rw [e1]; exact SPost.ext x hp)
  | _ => rw [e] at hp; exact hp
theorem mps_cons (h : MP X Cl E st n) (k : MPs X Cl E rest n') : MPs X Cl E (st :: rest) (sSeq n n') := by
  obtain ⟨t, h1, h2⟩ := h.ex
  obtain ⟨u, k1, k2⟩ := k.ex
  exact ⟨_, pss_cons h1 k1, mst_seq h2 k2⟩
theorem mps_one (h : MP X Cl E st n) : MPs X Cl E [st] n := by
  obtain ⟨t, h1, h2⟩ := h.ex
  exact ⟨_, pss_one h1, h2⟩
/-! ### the simple statements -/
def sSet (i : Nat) (m : En → MS → Res MV) : Mir := fun env μ => wth (m env μ) fun x μ1 => .nx (env.set i (some x)) μ1
theorem mst_set {i : Nat} {T : TE} (h : MT Cl E (RelM Cl) Any T m) (mo : Mono T) : MSt Cl E (tAsg T (gName i)) (sSet i m) := fun D σ env w s he hp =>
  use_wth h mo s he hp fun y v w' s' x he' r k => k _ w' rfl s' Ext.refl (he'.set r)
theorem mp_set {i : Nat} {x : Str} {pos pos' : Pos} (he : ME X Cl E e m) (hN : X.N.Nodup) (hi : X.N[i]? = some x) (hx : Loc X.env.scope x) (hs : swapsWith e (some (.Name x pos')) pos.line X.env = pure false := by rfl) (hf : X.fn x = true ∨ X.env.scope.names.lookup x = some .local := by first | exact .inl rfl | exact .inr rfl | assumption) :
    MP X Cl E (.Assign [.Name x pos'] e pos) (sSet i m) := ⟨_, ps_set hN hi hx pe_sem hs hf, mst_set he mono_E⟩
def sRet (m : En → MS → Res MV) : Mir := fun env μ => wth (m env μ) fun x μ1 => .rt x μ1
theorem mp_ret {pos : Pos} (he : ME X Cl E e m) : MP X Cl E (.Return (some e) pos) (sRet m) := ⟨_, ps_ret pe_sem, fun D σ env w s hv hp =>
  use_wth he mono_E s hv hp fun y v w' s' x he' r k => k v w' rfl s' Ext.refl r⟩
def sRetN : Mir := fun env μ => .rt (.d .non) μ
theorem mp_retN {pos : Pos} : MP X Cl E (.Return none pos) sRetN := ⟨_, ps_retN, fun D σ env w s hv hp => hp _ w rfl s Ext.refl .non⟩
def sDrop (m : En → MS → Res MV) : Mir := fun env μ => wth (m env μ) fun _ μ1 => .nx env μ1
theorem mp_expr {pos : Pos} (he : ME X Cl E e m) (hs : swapsWith e none pos.line X.env = pure false := by rfl) : MP X Cl E (.Expr e pos) (sDrop m) := ⟨_, ps_expr pe_sem hs, fun D σ env w s hv hp =>
  use_wth he mono_E s hv hp fun y v w' s' x he' r k => k σ w' rfl s' Ext.refl he'⟩
def sNext : Mir := fun env μ => .nx env μ
theorem mst_next : MSt Cl E tNext sNext := fun D σ env w s hv hp => hp σ w rfl s Ext.refl hv
theorem mp_pass {pos : Pos} : MP X Cl E (.Pass pos) sNext := ⟨_, ps_pass, mst_next⟩
theorem mp_doc {x j pos pos'} : MP X Cl E (.Expr (.Constant (.str x) j pos) pos') sNext := ⟨_, ps_doc, mst_next⟩
def sBreak : Mir := fun env μ => .bk env μ
def sCont : Mir := fun env μ => .ct env μ
theorem mp_break {pos : Pos} : MP X Cl E (.Break pos) sBreak := ⟨_, ps_break, fun D σ env w s hv hp => hp σ w rfl s Ext.refl hv⟩
theorem mp_cont {pos : Pos} : MP X Cl E (.Continue pos) sCont := ⟨_, ps_continue, fun D σ env w s hv hp => hp σ w rfl s Ext.refl hv⟩
def sIf (c : En → MS → Res Bool) (n n' : Mir) : Mir := fun env μ => wth (c env μ) fun k μ1 => if k = true then n env μ1 else n' env μ1
theorem mp_if {c : Expr} {p q : List Stmt} {pos : Pos} {nc : En → MS → Res Bool} (hc : MC X Cl E c nc) (hp : MPs X Cl E p n) (hq : MPs X Cl E q n') : MP X Cl E (.If c p q pos) (sIf nc n n') := by
  obtain ⟨t, h1, h2⟩ := hp.ex
  obtain ⟨u, k1, k2⟩ := hq.ex
  refine ⟨_, ps_if pt_sem h1 k1, fun D σ env w s hv hp => use_wth hc mono_C s hv hp fun y v w' s' x he' r k => ?_⟩
  obtain rfl : v = y := r
  cases v with
  | true => exact h2 D σ env w' s' he' k
  | false => exact k2 D σ env w' s' he' k
/-! ### while -/
def itW (c : En → MS → Res Bool) (b : Mir) : Nat → En → MS → Option SRes
  | 0, _, _ => none
  | k + 1, env, μ => match c env μ with
    | .ok true μ1 => match b env μ1 with
      | .nx env' μ2 => itW c b k env' μ2
      | .ct env' μ2 => itW c b k env' μ2
      | .bk env' μ2 => some (.nx env' μ2)
      | r => some r
    | .ok false μ1 => some (.nx env μ1)
    | .exc c fs μ1 => some (.exc c fs μ1)
    | .bad => some .bad
theorem itW_succ {c : En → MS → Res Bool} {b : Mir} : ∀ {k : Nat} {env : En} {μ : MS} {r : SRes}, itW c b k env μ = some r → itW c b (k + 1) env μ = some r
  | 0, _, _, _, h => by cases h
  | k + 1, env, μ, r, h => by
    rw [itW] at h ⊢
    cases e : c env μ with
    | bad => rw [e] at h; exact h
    | exc c' fs μ1 => rw [e] at h; exact h
    | ok y μ1 =>
      rw [e] at h
      cases y with
      | false => exact h
      | true =>
        simp only at h ⊢
        cases e2 : b env μ1 with
        | nx env' μ2 => rw [e2] at h; exact itW_succ h
        | ct env' μ2 => rw [e2] at h; exact itW_succ h
        | _ => rw [e2] at h; exact h
theorem itW_le {c : En → MS → Res Bool} {b : Mir} {k j : Nat} {env : En} {μ : MS} {r : SRes} (h : itW c b k env μ = some r) (le : k ≤ j) : itW c b j env μ = some r := by
  induction le with
  | refl => exact h
  | step _ ih => exact itW_succ ih
def sWhile (c : En → MS → Res Bool) (b : Mir) : Mir := fun env μ => if h : ∃ k r, itW c b k env μ = some r then h.choose_spec.choose else .bad
theorem sWhile_it {c : En → MS → Res Bool} {b : Mir} {k : Nat} {env : En} {μ : MS} {r : SRes} (h : itW c b k env μ = some r) : sWhile c b env μ = r := by
  have ex : ∃ k r, itW c b k env μ = some r := ⟨k, r, h⟩
  unfold sWhile
  rw [dif_pos ex]
  have h2 := ex.choose_spec.choose_spec
  have h3 := itW_le h (Nat.le_max_left k ex.choose)
  have h4 := itW_le h2 (Nat.le_max_right k ex.choose)
  rw [h3] at h4
  exact (Option.some.inj h4).symm
/-- a while goes as its turns go -/
theorem sWhile_eq {c : En → MS → Res Bool} {b : Mir} {env : En} {μ : MS} (h : ∃ k r, itW c b k env μ = some r) : ∃ k, itW c b k env μ = some (sWhile c b env μ) := by
  obtain ⟨k, r, h⟩ := h
  exact ⟨k, by rw [sWhile_it h]; exact h⟩
theorem mp_while {c : Expr} {body : List Stmt} {pos : Pos} {nc : En → MS → Res Bool} (hpo : PassesOwn (model X.prog X.w) X.A X.env X.xe) (hc : MC X Cl E c nc) (hb : MPs X Cl E body n) : MP X Cl E (.While c body [] pos) (sWhile nc n) := by
  obtain ⟨t, h1, h2⟩ := hb.ex
  refine ⟨_, ps_while hpo pt_sem h1, fun D σ env w s hv hp => ?_⟩
  have ex : ∃ k r, itW nc n k env w.μ = some r := by
    by_cases q : ∃ k r, itW nc n k env w.μ = some r
    · exact q
    · unfold sWhile at hp
      rw [dif_neg q] at hp
      exact hp.elim
  obtain ⟨k0, h0⟩ := sWhile_eq ex
  refine ⟨fun k σ H => ∃ env w', w'.H = H ∧ SR Cl w' ∧ EnvR Cl w' σ env ∧ ∃ r, itW nc n k env w'.μ = some r ∧ SPost Cl E D w' r, ⟨k0, env, w, rfl, s, hv, _, h0, hp⟩, ?_⟩
  rintro k σ H ⟨env, w1, rfl, s1, he1, r, hr, hpr⟩
  cases k with
  | zero => cases hr
  | succ k =>
    rw [itW] at hr
    refine mt_use hc mono_C s1 he1 ?_
    cases e : nc env w1.μ with
    | bad =>
      rw [e] at hr
      cases hr
      exact hpr
    | exc c' fs μ1 =>
      rw [e] at hr
      cases hr
      exact hpr
    | ok y μ1 =>
      rw [e] at hr
      intro v w2 e1 s2 x2 hvy
      obtain rfl : v = y := hvy
      have he2 := he1.ext x2 s1
      have hpr2 := SPost.ext x2 hpr
      cases v with
      | false =>
        cases hr
        rw [if_neg Bool.false_ne_true]
        exact hpr2 σ w2 e1 s2 Ext.refl he2
      | true =>
        rw [if_pos rfl]
        simp only at hr
        refine ⟨fun σ H => ∃ env w', w'.H = H ∧ SR Cl w' ∧ EnvR Cl w' σ env ∧ ∃ r, itW nc n k env w'.μ = some r ∧ SPost Cl E D w' r, fun σ' H' hN => ⟨k, Nat.lt_succ_self k, hN⟩, ?_⟩
        refine h2 _ σ env w2 s2 he2 ?_
        rw [e1]
        cases e2 : n env μ1 with
        | nx env' μ2 =>
          rw [e2] at hr
          exact fun σ' w3 e3 s3 x3 he3 => ⟨env', w3, rfl, s3, he3, r, by rw [e3]; exact hr, SPost.ext x3 hpr2⟩
        | ct env' μ2 =>
          rw [e2] at hr
          exact fun σ' w3 e3 s3 x3 he3 => ⟨env', w3, rfl, s3, he3, r, by rw [e3]; exact hr, SPost.ext x3 hpr2⟩
        | bk env' μ2 =>
          rw [e2] at hr
          cases hr
          exact hpr2
        | rt m μ2 =>
          rw [e2] at hr
          cases hr
          exact hpr2
        | exc c' fs μ2 =>
          rw [e2] at hr
          cases hr
          exact hpr2
        | bad =>
          rw [e2] at hr
          cases hr
          exact hpr2
end
end Q
end

set_option Elab.async false
set_option linter.all false
set_option maxRecDepth 100000
set_option maxHeartbeats 4000000
/-! A def's mirror, and its call. -/
noncomputable section
open Classical
/-! ### promises with or without the look at repr -/
namespace G
open PySem PySem.Spec PyProof.Rows L2
/-- a def's promise; where g, only for calls under which no repr is being made -/
structure FnP (g : Bool) (P : Program) (w : World) (K : PySem.W.Frag) (mg : Str → Option Value) (base : Heap) (CX : CXT) (k : Nat) (f : Addr) (fd : FuncData) (ps : List Str) (sp : Sp) : Prop where
  len : ∀ vs H Q E, sp vs H Q E → vs.length = ps.length
  go : ∀ (A : Around) (outer : List Env) (s : Shared) (H : Hp) (args : Args) (us : List Value) (vs : List V) (Q : VK) (E : XK), (g = true → A.guards = some []) → Room k A → Env0 P w K mg base A outer s H →
    BindsTo s fd args (ps.zip us) → Vals vs us → sp vs H Q E → codeAny (model P w) A (.call (.ref f) args) (CR CX outer P w H s Q E) s
section
variable {g : Bool} {P : Program} {w : World} {K : PySem.W.Frag} {mg : Str → Option Value} {base : Heap} {CX : CXT} {j k : Nat} {f : Addr} {fd : FuncData} {ps : List Str} {sp : Sp}
theorem FnP.ofG (F : FnG P w K mg base CX k f fd ps sp) : FnP true P w K mg base CX k f fd ps sp := ⟨F.len, fun A o s H a us vs Q E hg hr => F.run A o s H a us vs Q E (hg rfl) hr⟩
theorem FnP.toG (F : FnP g P w K mg base CX k f fd ps sp) : FnG P w K mg base CX k f fd ps sp := ⟨F.len, fun A o s H a us vs Q E hg hr => F.go A o s H a us vs Q E (fun _ => hg) hr⟩
theorem FnP.ofOk (F : FnOk P w K mg base CX k f fd ps sp) : FnP g P w K mg base CX k f fd ps sp := ⟨F.len, fun A o s H a us vs Q E _ hr => F.run A o s H a us vs Q E hr⟩
theorem FnP.toOk (F : FnP false P w K mg base CX k f fd ps sp) : FnOk P w K mg base CX k f fd ps sp := ⟨F.len, fun A o s H a us vs Q E hr => F.go A o s H a us vs Q E (fun z => by cases z) hr⟩
theorem FnP.up (F : FnP false P w K mg base CX k f fd ps sp) : FnP g P w K mg base CX k f fd ps sp := FnP.ofOk F.toOk
theorem FnP.mono (F : FnP g P w K mg base CX j f fd ps sp) (h : j ≤ k) : FnP g P w K mg base CX k f fd ps sp := ⟨F.len, fun A o s H a us vs Q E hg hr => F.go A o s H a us vs Q E hg (hr.mono h)⟩
end
section
variable {g : Bool} {P : Program} {w : World} {K : PySem.W.Frag} {mg : Str → Option Value} {base : Heap} {CX : CXT}
theorem fnP_of {x qual : Str} {params : Arguments} {body : List Stmt} {scope : Scope} {dvs : List V} {kws : List (Str × V)} {f : Addr} {fd : FuncData} {N ps : List Str} {k : Nat} {sp : Sp} (F : FunD K x qual params body scope dvs kws f fd) (S : FnScope N ps scope)
    (len : ∀ vs H Q E, sp vs H Q E → vs.length = ps.length)
    (hb : ∀ (cdv : Value) (A : Around) (outer : List Env) (s : Shared) (H : Hp) (vs : List V) (Q : VK) (E : XK), (g = true → (A.deeper (envOfC qual scope s.heap.objs.size f cdv)).guards = some []) → Room k (A.deeper (envOfC qual scope s.heap.objs.size f cdv)) → sp vs H Q E →
      ∃ t, PSs (cxOf CX P w K mg base N qual scope f cdv A outer s H E) body t ∧ t { nx := fun _ H' => Q .non H', rt := Q } (L2.start N vs) H) : FnP g P w K mg base CX (k + 1) f fd ps sp := by
  cases g with
  | true => exact FnP.ofG (fnG_of F S len fun cdv A o s H vs Q E hg hr h => hb cdv A o s H vs Q E (fun _ => hg) hr h)
  | false => exact FnP.ofOk (FunD.ok F S len fun cdv A o s H vs Q E hr h => hb cdv A o s H vs Q E (fun z => by cases z) hr h)
end
section
variable {X : Cx} {gb : Bool} {CX : CXT} {k : Nat} {f : Addr} {fd : FuncData} {ps : List Str} {sp : Sp} {dvs : List V} {ds : List Value} {E : XK} {x : Str} {p pos : Pos} {e : Expr} {es : List Expr} {t : TA}
theorem run_fnP {pins : List (Addr × Obj)} {σ : L2.St} {H : Hp} {s : Shared} {Q : VK} {us : List Value} {vs : List V} (F : FnP gb X.prog X.w X.K X.mg X.base CX k f fd ps sp) (gd : gb = true → X.A.guards = some []) (hr : Room k X.A) (hb : Binds X.K fd ps ds) (hd : Vals dvs ds)
    (hx : Passes CX X E) (I : Inv X pins σ H s) (r : Vals vs us) (h : sp (vs ++ dvs) H Q E) : wpAny (model X.prog X.w) X.A (call (.ref f) us) (EP X pins σ Q) X.xe s := by
  cases gb with
  | true => exact run_fnG F.toG (gd rfl) hr hb hd hx I r h
  | false => exact run_fn F.toOk hr hb hd hx I r h
theorem pe_callP (F : FnP gb X.prog X.w X.K X.mg X.base CX k f fd ps sp) (gd : gb = true → X.A.guards = some []) (hr : Room k X.A) (hg : Gl X x) (hm : X.mg x = some (.ref f)) (hk : PySem.W.keepIn X.K (.ref f) = true) (hb : Binds X.K fd ps ds) (hd : Vals dvs ds)
    (hx : Passes CX X E) (ha : PA X (e :: es) t) (hs : starEach (e :: es) X.env = (false, eval e X.env) :: starEach es X.env := by rfl) (hpl : (backTo pos (starEach es X.env)).any (·.1) = false := by rfl) (hdb : (x == ("__debug__" : Str)) = false := by decide) :
    PE X (.Call (.Name x p) (e :: es) [] pos) (tCall sp dvs E t) := by
  cases gb with
  | true => exact pe_callG F.toG (gd rfl) hr hg hm hk hb hd hx ha hs hpl hdb
  | false => exact pe_call F.toOk hr hg hm hk hb hd hx ha hdb hs hpl
end
end G
namespace Q
variable [Tables]
open PySem PySem.Spec PyProof.Rows L2 G
inductive CRes where
  | ret (m : MV) (μ : MS) | exc (c : Str) (fs : List (Str × D)) (μ : MS) | bad
abbrev MF := List MV → List MO → CRes
/-- a def's promise, out of its mirror -/
def spM (Cl : Str → Addr) (n : Nat) (f : MF) : Sp := fun vs H Q E => ∃ (w : Wd) (ms : List MV), w.H = H ∧ w.μ.L = [] ∧ SR Cl w ∧ RelL Cl w vs ms ∧ vs.length = n ∧ match f ms w.μ.B with
  | .ret m μ' => ∀ v w', w'.μ = μ' → SR Cl w' → Ext w w' → RelM Cl w' v m → Q v w'.H
  | .exc c fs μ' => EOk Cl E w c fs μ'
  | .bad => False
/-- the body's mirror as the def's -/
def mDef (N : Nat) (b : Mir) : MF := fun ms B => match b (ms.map some ++ List.replicate (N - ms.length) none) ⟨B, []⟩ with
  | .nx _ μ => .ret (.d .non) μ
  | .rt m μ => .ret m μ
  | .exc c fs μ => .exc c fs μ
  | _ => .bad
theorem start_env {Cl : Str → Addr} {w : Wd} {N : List Str} {vs : List V} {ms : List MV} (r : RelL Cl w vs ms) : EnvR Cl w (L2.start N vs) (ms.map some ++ List.replicate (N.length - ms.length) none) := by
  have hl := Paired.length r
  refine ⟨by unfold L2.start; simp [hl], fun i m e => ?_⟩
  have hi : i < ms.length := by
    by_cases c : i < ms.length
    · exact c
    · rw [List.getElem?_append_right (by simp; omega)] at e
      rw [List.getElem?_replicate] at e
      split at e <;> cases e
  rw [List.getElem?_append_left (by simpa using hi), List.getElem?_map] at e
  obtain ⟨m', e1, e2⟩ := Option.map_eq_some_iff.mp e
  cases e2
  have hv : i < vs.length := by omega
  refine ⟨vs[i], ?_, paired_get r i _ _ (by simp) e1⟩
  unfold L2.start
  rw [List.getElem?_append_left (by simpa using hv)]
  simp
section
variable {P : Program} {w : World} {K : PySem.W.Frag} {mg : Str → Option Value} {base : Heap} {CX : CXT}
theorem fnM_of {gb : Bool} {Cl : Str → Addr} {x qual : Str} {params : Arguments} {body : List Stmt} {scope : Scope} {dvs : List V} {kws : List (Str × V)} {f : Addr} {fd : FuncData} {N ps : List Str} {k : Nat} {n : Mir} (F : FunD K x qual params body scope dvs kws f fd) (S : FnScope N ps scope)
    (hb : ∀ (cdv : Value) (A : Around) (outer : List Env) (s : Shared) (H : Hp) (E : XK), (gb = true → (A.deeper (envOfC qual scope s.heap.objs.size f cdv)).guards = some []) → Room k (A.deeper (envOfC qual scope s.heap.objs.size f cdv)) →
      MPs (cxOf CX P w K mg base N qual scope f cdv A outer s H E) Cl E body n) : FnP gb P w K mg base CX (k + 1) f fd ps (spM Cl ps.length (mDef N.length n)) := by
  refine fnP_of F S (fun vs H Q E h => ?_) fun cdv A outer s H vs Q E hg hr h => ?_
  · obtain ⟨_, _, _, _, _, _, h, _⟩ := h
    exact h
  · obtain ⟨t, h1, h2⟩ := (hb cdv A outer s H E hg hr).ex
    obtain ⟨w0, ms, rfl, hL, sr, r, _, hp⟩ := h
    refine ⟨t, h1, h2 _ _ _ w0 sr (start_env r) ?_⟩
    unfold mDef at hp
    have eμ : w0.μ = ⟨w0.μ.B, []⟩ := by
      rw [← hL]
    rw [← eμ] at hp
    cases e : n (ms.map some ++ List.replicate (N.length - ms.length) none) w0.μ with
    | nx env μ =>
      rw [e] at hp
      exact fun σ' w' e1 s' x _ => hp .non w' e1 s' x .non
    | rt m μ =>
      rw [e] at hp
      exact hp
    | exc c fs μ =>
      rw [e] at hp
      exact hp
    | bk env μ =>
      rw [e] at hp
      exact hp.elim
    | ct env μ =>
      rw [e] at hp
      exact hp.elim
    | bad =>
      rw [e] at hp
      exact hp.elim
end
/-! ### the caller's side -/
def refsOf : List MV → List R
  | [] => []
  | .d _ :: ms => refsOf ms
  | .r p :: ms => p :: refsOf ms
def renum : Nat → List MV → List MV
  | _, [] => []
  | n, .d x :: ms => .d x :: renum n ms
  | n, .r _ :: ms => .r (.b n) :: renum (n + 1) ms
def conts (μ : MS) : List R → Option (List MO)
  | [] => some []
  | p :: ps => (μ.get p).bind fun o => (conts μ ps).map (nz μ o :: ·)
def closed : MO → Bool
  | .frz _ => false
  | o => (flat o).isSome
def closedD : MO → Bool
  | .frz _ => true
  | o => (flat o).isSome
def setAll (μ : MS) : List R → List MO → MS
  | p :: ps, o :: os => setAll (μ.set o p) ps os
  | _, _ => μ
def callR0 (f : MF) (ms : List MV) (μ : MS) : Res MV :=
  if (refsOf ms).Nodup then match conts μ (refsOf ms) with
    | some os => if os.all closed = true then match f (renum 0 ms) os with
        | .ret m μ' => if μ'.B.all closedD = true then match m with
            | .d x => .ok (.d x) (setAll μ (refsOf ms) μ'.B)
            | .r (.b i) => match (refsOf ms)[i]? with
              | some p => .ok (.r p) (setAll μ (refsOf ms) μ'.B)
              | none => .bad
            | .r (.l k) => match μ'.L[k]? with
              | some o => if closed o = true then .ok (.r (.l μ.L.length)) ((setAll μ (refsOf ms) μ'.B).new o) else .bad
              | none => .bad
          else .bad
        | .exc c fs μ' => if μ'.B.all closedD = true then .exc c fs (setAll μ (refsOf ms) μ'.B) else .bad
        | .bad => .bad
      else .bad
    | none => .bad
  else .bad
def callR (f : MF) (ms : List MV) (μ : MS) : Res MV := callR0 f (ms.map (fzm μ)) μ
theorem nz_isF {μ : MS} {o : MO} : (nz μ o).isF ↔ o.isF := by
  cases o <;> exact Iff.rfl
theorem closed_nF {o : MO} (h : closed o = true) : ¬ o.isF := by
  cases o with
  | frz d => cases h
  | _ => exact id
section
variable {Cl : Str → Addr} {E : XK} {w w' : Wd}
theorem conts_get {μ : MS} : ∀ {ps : List R} {os : List MO}, conts μ ps = some os → ps.length = os.length ∧ ∀ (i : Nat) p, ps[i]? = some p → ∃ o, os[i]? = some (nz μ o) ∧ μ.get p = some o
  | [], os, h => by
    cases h
    exact ⟨rfl, fun i p e => by simp at e⟩
  | q :: ps, os, h => by
    obtain ⟨o, e1, e2⟩ := Option.bind_eq_some_iff.mp (show (μ.get q).bind (fun o => (conts μ ps).map (nz μ o :: ·)) = some os from h)
    obtain ⟨os', e3, rfl⟩ := Option.map_eq_some_iff.mp e2
    obtain ⟨h1, h2⟩ := conts_get e3
    refine ⟨by simp [h1], fun i p e => ?_⟩
    cases i with
    | zero =>
      simp at e
      subst e
      exact ⟨o, rfl, e1⟩
    | succ i =>
      obtain ⟨o', a, b⟩ := h2 i p (by simpa using e)
      exact ⟨o', by simpa using a, b⟩
theorem setAll_get : ∀ {ps : List R} {os : List MO} {μ : MS}, ps.Nodup → (∀ p ∈ ps, ∃ o, μ.get p = some o) → ps.length = os.length →
    (∀ q, q ∉ ps → (setAll μ ps os).get q = μ.get q) ∧ (∀ (i : Nat) p o, ps[i]? = some p → os[i]? = some o → (setAll μ ps os).get p = some o) ∧ (setAll μ ps os).B.length = μ.B.length ∧ (setAll μ ps os).L.length = μ.L.length
  | [], os, μ, _, _, _ => ⟨fun q _ => by rfl, fun i p o e => by simp at e, rfl, rfl⟩
  | p :: ps, [], μ, _, _, h => by simp at h
  | p :: ps, o :: os, μ, nd, ex, hl => by
    obtain ⟨n1, n2⟩ := List.nodup_cons.mp nd
    have hp := ex p List.mem_cons_self
    have hs : ∀ q, (μ.set o p).get q = if q = p then some o else μ.get q := fun q => get_set hp
    obtain ⟨h1, h2, h3, h4⟩ := setAll_get (ps := ps) (os := os) (μ := μ.set o p) n2 (fun q hq => by
      obtain ⟨o', e⟩ := ex q (List.mem_cons_of_mem _ hq)
      rw [hs]
      by_cases c : q = p
      · rw [if_pos c]
        exact ⟨o, rfl⟩
      · rw [if_neg c]
        exact ⟨o', e⟩) (by simpa using hl)
    refine ⟨fun q hq => ?_, fun i p' o' e1 e2 => ?_, ?_, ?_⟩
    · show (setAll (μ.set o p) ps os).get q = _
      rw [h1 q (fun h => hq (List.mem_cons_of_mem _ h)), hs, if_neg (fun c => hq (by rw [c]; exact List.mem_cons_self))]
    · cases i with
      | zero =>
        simp at e1 e2
        subst e1 e2
        show (setAll (μ.set o p) ps os).get p = _
        rw [h1 p n1, hs, if_pos rfl]
      | succ i => exact h2 i p' o' (by simpa using e1) (by simpa using e2)
    · show (setAll (μ.set o p) ps os).B.length = _
      rw [h3]
      cases p with
      | b k => exact List.length_set
      | l k => rfl
    · show (setAll (μ.set o p) ps os).L.length = _
      rw [h4]
      cases p with
      | b k => rfl
      | l k => exact List.length_set
theorem relL_closed {vs : List V} {ms : List MV} {ds : List D} (h : RelL Cl w vs ms) (e : allD ms = some ds) (hF : ∀ a, w.F a → w'.F a) (hk : KeepF w.F w.H w'.H) : RelL Cl w' vs ms := by
  induction h generalizing ds with
  | nil => exact .nil
  | @cons v m vs ms h t ih =>
    cases m with
    | r p => cases e
    | d x =>
      obtain ⟨ds', e', _⟩ := Option.map_eq_some_iff.mp (show (allD ms).map (x :: ·) = some ds from e)
      exact .cons (Den.mono h hF hk) (ih e')
theorem closed_D {o : MO} (h : closed o = true) : closedD o = true := by
  cases o <;> first
    | exact h
    | rfl
theorem Fits.closed {u : HO} {o : MO} (h : Fits Cl w u o) (c : closedD o = true) (hF : ∀ a, w.F a → w'.F a) (hk : KeepF w.F w.H w'.H) : Fits Cl w' u o := by
  cases u <;> cases o <;> first
    | exact h.elim
    | obtain ⟨d, e⟩ := Option.isSome_iff_exists.mp c
  · obtain ⟨ds, e1, _⟩ := Option.map_eq_some_iff.mp e
    exact relL_closed h e1 hF hk
  · obtain ⟨ds, e1, _⟩ := Option.map_eq_some_iff.mp e
    exact ⟨h.1, relL_closed h.2 e1 hF hk⟩
  · obtain ⟨ds, e1, _⟩ := Option.map_eq_some_iff.mp e
    exact ⟨h.1, h.2.1, relL_closed h.2.2 e1 hF hk⟩
def rhoC (w : Wd) (ps : List R) : Rho
  | .b i => match ps[i]? with
    | some p => w.ρ p
    | none => 0
  | .l _ => 0
theorem rhoC_at {w : Wd} {ps : List R} {i : Nat} {p : R} (h : ps[i]? = some p) : rhoC w ps (.b i) = w.ρ p := by
  show (match ps[i]? with
    | some p => w.ρ p
    | none => 0) = _
  rw [h]
def wdC (w : Wd) (ps : List R) (os : List MO) : Wd := ⟨w.F, rhoC w ps, w.H, ⟨os, []⟩⟩
theorem wdC_live {ps : List R} {os : List MO} (hc : conts w.μ ps = some os) {p : R} (h : (wdC w ps os).μ.live p) : ∃ i q, p = .b i ∧ ps[i]? = some q ∧ w.μ.live q ∧ (wdC w ps os).ρ p = w.ρ q := by
  obtain ⟨o, e, n⟩ := h
  obtain ⟨hl, hg⟩ := conts_get hc
  cases p with
  | l k => exact absurd (show ([] : List MO)[k]? = some o from e) (by simp)
  | b i =>
    have e : os[i]? = some o := e
    have hi : i < ps.length := by
      have := (List.getElem?_eq_some_iff.mp e).1
      omega
    obtain ⟨o', e1, e2⟩ := hg i ps[i] (by simp)
    rw [e] at e1
    cases e1
    refine ⟨i, ps[i], rfl, by simp, ⟨o', e2, fun z => n (nz_isF.mpr z)⟩, ?_⟩
    show rhoC w ps (.b i) = _
    unfold rhoC
    simp [hi]
theorem wdC_sr (s : SR Cl w) {ps : List R} {os : List MO} (nd : ps.Nodup) (hc : conts w.μ ps = some os) (cl : os.all closed = true) : SR Cl (wdC w ps os) := by
  obtain ⟨hl, hg⟩ := conts_get hc
  refine ⟨s.tb, fun p o e => ?_, fun p q hp hq e => ?_, fun p hp f => ?_, s.th, s.tO⟩
  · cases p with
    | l k => exact absurd (show ([] : List MO)[k]? = some o from e) (by simp)
    | b i =>
      have e : os[i]? = some o := e
      have hi : i < ps.length := by
        have := (List.getElem?_eq_some_iff.mp e).1
        omega
      obtain ⟨o', e1, e2⟩ := hg i ps[i] (by simp)
      rw [e] at e1
      cases e1
      have co : closed (nz w.μ o') = true := List.all_eq_true.mp cl _ (List.mem_of_getElem? e)
      rcases s.obj _ o' e2 with ⟨d, h, _⟩ | ⟨u, h1, h2⟩
      · exact absurd (nz_isF.mpr (isF_frz h)) (closed_nF co)
      · refine .inr ⟨u, ?_, (h2.nz s).closed (closed_D co) (fun _ h => h) KeepF.refl⟩
        show w.H (rhoC w ps (.b i)) = some u
        unfold rhoC
        simp [hi]
        exact h1
  · obtain ⟨i, p', rfl, a1, a2, a3⟩ := wdC_live hc hp
    obtain ⟨j, q', rfl, b1, b2, b3⟩ := wdC_live hc hq
    rw [a3, b3] at e
    have e' := s.inj _ _ a2 b2 e
    subst e'
    obtain ⟨h1, e1⟩ := List.getElem?_eq_some_iff.mp a1
    obtain ⟨h2, e2⟩ := List.getElem?_eq_some_iff.mp b1
    rw [(List.getElem_inj nd).mp (e1.trans e2.symm)]
  · obtain ⟨i, p', rfl, a1, a2, a3⟩ := wdC_live hc hp
    rw [a3] at f
    exact s.nf p' a2 f
theorem wdC_args {ps : List R} {os : List MO} (hc : conts w.μ ps = some os) : ∀ {vs : List V} {ms : List MV} (n : Nat), RelL Cl w vs ms → (∀ i p, (refsOf ms)[i]? = some p → ps[n + i]? = some p) → RelL Cl (wdC w ps os) vs (renum n ms)
  | _, _, n, .nil, _ => .nil
  | _, .d x :: ms, n, .cons h t, hp => .cons (show Den Cl w.F w.H _ x from h) (wdC_args hc n t hp)
  | _, .r p :: ms, n, .cons h t, hp => by
    have h0 : ps[n]? = some p := hp 0 p rfl
    obtain ⟨o, e1, e2⟩ := (conts_get hc).2 n p h0
    refine .cons ⟨?_, _, e1⟩ (wdC_args hc (n + 1) t fun i q e => by
      have := hp (i + 1) q (by simpa [refsOf] using e)
      rw [show n + 1 + i = n + (i + 1) by omega]
      exact this)
    rw [h.1]
    exact congrArg V.ref (rhoC_at h0).symm
theorem back_sr (s : SR Cl w) {ps : List R} {os : List MO} (nd : ps.Nodup) (hc : conts w.μ ps = some os) (cl : os.all closed = true) (s' : SR Cl w') (x : Ext (wdC w ps os) w') (cl' : w'.μ.B.all closedD = true) :
    SR Cl ⟨w'.F, w.ρ, w'.H, setAll w.μ ps w'.μ.B⟩ ∧ Ext w ⟨w'.F, w.ρ, w'.H, setAll w.μ ps w'.μ.B⟩ := by
  obtain ⟨hl, hg⟩ := conts_get hc
  have hlB : ps.length = w'.μ.B.length := by rw [x.sz]; exact hl
  obtain ⟨g1, g2, g3, g4⟩ := setAll_get (os := w'.μ.B) (μ := w.μ) nd (fun p hp => by
    obtain ⟨i, hi, e⟩ := List.getElem_of_mem hp
    obtain ⟨o, _, e2⟩ := hg i p (by rw [← e]; simp)
    exact ⟨o, e2⟩) hlB
  have away : ∀ a, (∀ p, w.μ.live p → w.ρ p ≠ a) → ∀ p, (wdC w ps os).μ.live p → (wdC w ps os).ρ p ≠ a := fun a h p hp e => by
    obtain ⟨i, q, rfl, a1, a2, a3⟩ := wdC_live hc hp
    exact h q a2 (by rw [← a3, e])
  have mem : ∀ q, q ∈ ps → ∃ (i : Nat) (o o' : MO), ps[i]? = some q ∧ w.μ.get q = some o ∧ ¬ o.isF ∧ w'.μ.B[i]? = some o' ∧ (setAll w.μ ps w'.μ.B).get q = some o' ∧ w'.ρ (.b i) = w.ρ q := fun q hq => by
    obtain ⟨i, hi, e⟩ := List.getElem_of_mem hq
    have e0 : ps[i]? = some q := by rw [← e]; simp
    obtain ⟨o, e1, e2⟩ := hg i q e0
    have co : closed (nz w.μ o) = true := List.all_eq_true.mp cl _ (List.mem_of_getElem? e1)
    have hi' : i < w'.μ.B.length := by omega
    refine ⟨i, o, w'.μ.B[i], e0, e2, fun c => closed_nF co (nz_isF.mpr c), by simp, g2 i q _ e0 (by simp), ?_⟩
    rw [(x.rho (.b i) _ e1).1]
    exact rhoC_at e0
  have lv : ∀ q, (setAll w.μ ps w'.μ.B).live q → w.μ.live q := fun q ⟨o, e, n⟩ => by
    by_cases c : q ∈ ps
    · obtain ⟨i, o1, o2, _, b2, b3, _⟩ := mem q c
      exact ⟨o1, b2, b3⟩
    · rw [g1 q c] at e
      exact ⟨o, e, n⟩
  have notin : ∀ q, q ∉ ps → w.μ.live q → ∀ p, (wdC w ps os).μ.live p → (wdC w ps os).ρ p ≠ w.ρ q := fun q c hq p hp e => by
    obtain ⟨i, q', rfl, a1, a2, a3⟩ := wdC_live hc hp
    rw [a3] at e
    have := s.inj _ _ a2 hq e
    subst this
    exact c (List.mem_of_getElem? a1)
  have x1 : Ext w ⟨w'.F, w.ρ, w'.H, setAll w.μ ps w'.μ.B⟩ := ⟨x.ff, fun a h n => x.keep a h (away a n), fun q o e => ⟨rfl, by
      by_cases c : q ∈ ps
      · obtain ⟨i, o1, o2, _, b2, b3, _, b5, _⟩ := mem q c
        refine ⟨o2, b5, fun z => ?_⟩
        rw [b2] at e
        cases e
        exact absurd z b3
      · exact ⟨o, by rw [show (Wd.mk w'.F w.ρ w'.H (setAll w.μ ps w'.μ.B)).μ = setAll w.μ ps w'.μ.B from rfl, g1 q c]; exact e, fun _ => rfl⟩⟩, fun a h => by
      rcases x.new a h with h1 | h1 | ⟨p, h1, h2⟩
      · exact .inl h1
      · exact .inr (.inl h1)
      · obtain ⟨i, q, rfl, a1, a2, a3⟩ := wdC_live hc h1
        exact .inr (.inr ⟨q, a2, by rw [← a3, h2]⟩), (fun q hq e => by
      obtain ⟨o, e1, _⟩ := lv q hq
      rw [e] at e1
      cases e1), x.nn, g3⟩
  refine ⟨⟨s'.tb, fun q o e => ?_, fun q q' h h' e => s.inj q q' (lv q h) (lv q' h') e, fun q h f => ?_, s'.th, s'.tO⟩, x1⟩
  · have e : (setAll w.μ ps w'.μ.B).get q = some o := e
    by_cases c : q ∈ ps
    · obtain ⟨i, o1, o2, b1, b2, b3, b4, b5, b6⟩ := mem q c
      rw [b5] at e
      cases e
      have h := s'.obj (.b i) o b4
      rcases h with ⟨d, h, k⟩ | ⟨u, h1, h2⟩
      · exact .inl ⟨d, h, by rw [← b6]; exact k⟩
      · have hd : closedD o = true := List.all_eq_true.mp cl' o (List.mem_of_getElem? b4)
        exact .inr ⟨u, by rw [← b6]; exact h1, h2.closed hd (fun _ h => h) KeepF.refl⟩
    · rw [g1 q c] at e
      by_cases d : o.isF
      · rcases s.obj q o e with h | ⟨u, h1, h2⟩
        · exact .inl (frzE x1 s h)
        · obtain ⟨d', rfl⟩ := isF_ex d
          cases u <;> exact h2.elim
      · rcases s.obj q o e with h | ⟨u, h1, h2⟩
        · exact .inl (frzE x1 s h)
        · have hq : w.μ.live q := ⟨o, e, d⟩
          have k := (x.keep (w.ρ q) (s.nn hq) (notin q c hq)).eq (s.nf q hq) h1 (fun ps e => by subst e; cases o <;> exact h2.elim)
          exact .inr ⟨u, k.trans h1, h2.ext x1 s⟩
  · have f : w'.F (w.ρ q) := f
    by_cases c : q ∈ ps
    · obtain ⟨i, o1, o2, b1, b2, b3, b4, b5, b6⟩ := mem q c
      obtain ⟨o, e, n⟩ := h
      have e : (setAll w.μ ps w'.μ.B).get q = some o := e
      rw [b5] at e
      cases e
      exact s'.nf (.b i) ⟨o2, b4, n⟩ (by rw [b6]; exact f)
    · have hq := lv q h
      rcases x.new _ f with h1 | h1 | ⟨p, h1, h2⟩
      · exact s.nf q hq h1
      · exact s.nn hq h1
      · exact notin q c hq p h1 h2
/-- an object that nobody tracks is taken as one's own -/
theorem SR.adopt {w0 : Wd} (s : SR Cl w) (x : Ext w0 w) {q : Addr} {u : HO} {o : MO} (hu : w.H q = some u) (ho : Fits Cl w u o) (n : ¬ o.isF) (hf : ¬ w.F q) (hd : ∀ p, w.μ.live p → w.ρ p ≠ q) (h0 : w0.H q = none) :
    SR Cl ⟨w.F, w.rho q, w.H, w.μ.new o⟩ ∧ Ext w0 ⟨w.F, w.rho q, w.H, w.μ.new o⟩ ∧ RelM Cl ⟨w.F, w.rho q, w.H, w.μ.new o⟩ (.ref q) (.r (.l w.μ.L.length)) := by
  have old : ∀ p o, w.μ.get p = some o → p ≠ .l w.μ.L.length := fun p o h e => by rw [e, get_last] at h; cases h
  have rn : w.rho q (.l w.μ.L.length) = q := if_pos rfl
  have ro : ∀ p, p ≠ .l w.μ.L.length → w.rho q p = w.ρ p := fun p h => if_neg h
  have lv : ∀ p, (w.μ.new o).live p → p = .l w.μ.L.length ∨ (p ≠ .l w.μ.L.length ∧ w.μ.live p) := fun p ⟨o', e, ne⟩ => by
    rw [get_new] at e
    by_cases c : p = .l w.μ.L.length
    · exact .inl c
    · rw [if_neg c] at e
      exact .inr ⟨c, o', e, ne⟩
  have rel : ∀ {v : V} {m : MV}, RelM Cl w v m → RelM Cl ⟨w.F, w.rho q, w.H, w.μ.new o⟩ v m := fun {v m} h => by
    cases m with
    | d x => exact h
    | r p =>
      obtain ⟨e, o', e'⟩ := h
      exact ⟨by rw [e]; exact congrArg V.ref (ro p (old p o' e')).symm, o', by rw [show (Wd.mk w.F (w.rho q) w.H (w.μ.new o)).μ = w.μ.new o from rfl, get_new, if_neg (old p o' e')]; exact e'⟩
  have fit : ∀ {u : HO} {o' : MO}, Fits Cl w u o' → Fits Cl ⟨w.F, w.rho q, w.H, w.μ.new o⟩ u o' := fun {u o'} h => by
    cases u <;> cases o' <;> first
      | exact h.elim
      | exact Paired.mapP h fun _ _ h => rel h
      | exact ⟨h.1, Paired.mapP h.2 fun _ _ h => rel h⟩
      | exact ⟨h.1, h.2.1, Paired.mapP h.2.2 fun _ _ h => rel h⟩
  refine ⟨⟨s.tb, fun p o' e => ?_, fun p p' h h' e => ?_, fun p h f => ?_, s.th, s.tO⟩, ⟨x.ff, x.keep, fun p o' e => ?_, x.new, fun p h e => ?_, x.nn, x.sz⟩, ⟨congrArg V.ref rn.symm, o, by rw [show (Wd.mk w.F (w.rho q) w.H (w.μ.new o)).μ = w.μ.new o from rfl, get_new, if_pos rfl]⟩⟩
  · rw [show (Wd.mk w.F (w.rho q) w.H (w.μ.new o)).μ = w.μ.new o from rfl, get_new] at e
    show ObjR Cl ⟨w.F, w.rho q, w.H, w.μ.new o⟩ (w.rho q p) o'
    by_cases c : p = .l w.μ.L.length
    · rw [if_pos c] at e
      cases e
      rw [c, rn]
      exact .inr ⟨u, hu, fit ho⟩
    · rw [if_neg c] at e
      rw [ro p c]
      rcases s.obj p o' e with h | ⟨u', h1, h2⟩
      · exact .inl h
      · exact .inr ⟨u', h1, fit h2⟩
  · have e : w.rho q p = w.rho q p' := e
    rcases lv p h with c | ⟨c, h1⟩ <;> rcases lv p' h' with c' | ⟨c', h2⟩
    · rw [c, c']
    · rw [c, rn, ro p' c'] at e
      exact absurd e.symm (hd p' h2)
    · rw [c', rn, ro p c] at e
      exact absurd e (hd p h1)
    · rw [ro p c, ro p' c'] at e
      exact s.inj p p' h1 h2 e
  · have f : w.F (w.rho q p) := f
    rcases lv p h with c | ⟨c, h1⟩
    · rw [c, rn] at f
      exact hf f
    · rw [ro p c] at f
      exact s.nf p h1 f
  · obtain ⟨h1, o2, h2, h3⟩ := x.rho p o' e
    exact ⟨(ro p (old p o2 h2)).trans h1, o2, by rw [show (Wd.mk w.F (w.rho q) w.H (w.μ.new o)).μ = w.μ.new o from rfl, get_new, if_neg (old p o2 h2)]; exact h2, h3⟩
  · show w0.H (w.rho q p) = none
    rcases lv p h with c | ⟨c, h1⟩
    · rw [c, rn]
      exact h0
    · rw [ro p c]
      exact x.liv p h1 e
end
end Q
end

set_option Elab.async false
set_option linter.all false
set_option maxRecDepth 100000
set_option maxHeartbeats 4000000
/-! Calls, mirrored. -/
noncomputable section
open Classical
namespace G
open PySem PySem.Spec PyProof.Rows L2
section
variable {X : Cx} {gb : Bool} {CX : CXT} {k : Nat} {f C : Addr} {fd : FuncData} {ps : List Str} {sp : Sp} {dvs : List V} {ds : List Value} {E : XK} {x m : Str} {p pos apos : Pos} {e o : Expr} {es : List Expr} {ta : TE} {t : TA}
theorem pe_callG0 (F : FnP gb X.prog X.w X.K X.mg X.base CX k f fd ps sp) (gd : gb = true → X.A.guards = some []) (hr : Room k X.A) (hg : Gl X x) (hm : X.mg x = some (.ref f)) (hk : PySem.W.keepIn X.K (.ref f) = true) (hb : Binds X.K fd ps ds) (hd : Vals dvs ds) (hx : Passes CX X E)
    (hdb : (x == ("__debug__" : Str)) = false := by decide) : PE X (.Call (.Name x p) [] [] pos) (tCall sp dvs E tNil) := by
  refine ⟨fun pins s σ H Q I h => ?_⟩
  refine wpAny_Call_Name_kw (ld_glob I hg hm ?_ hdb)
  exact PySem.W.callWith_K0 I.kIn hk (run_fnP (us := []) F gd hr hb hd hx I .nil h)
theorem pe_methG {pl : Sem Bool} (he : PE X o ta) (c : Cls X.K C) (hm : Meth X.K C m f) (F : FnP gb X.prog X.w X.K X.mg X.base CX k f fd ps sp) (gd : gb = true → X.A.guards = some []) (hr : Room k X.A) (hb : Binds X.K fd ps ds) (hd : Vals dvs ds) (hx : Passes CX X E) (ha : PA X (e :: es) t)
    (hst : starEach (e :: es) X.env = (false, eval e X.env) :: starEach es X.env := by rfl) (hpl : (backTo pos (starEach es X.env)).any (·.1) = false := by rfl)
    (ht : eval (.Call (.Attribute o m apos) (e :: es) [] pos) X.env = (do
      let ov ← eval o X.env
      standAt apos.atName
      let (f, first) ← holding [ov] (getMethod ov m pl)
      callWith pos f first (backTo pos (starEach (e :: es) X.env)) (backToKw pos (keywordEach [] X.env))) := by rfl) :
    PE X (.Call (.Attribute o m apos) (e :: es) [] pos) (tMeth C m sp dvs E ta t) := by
  refine ⟨fun pins s σ H Q I h => ?_⟩
  refine PySem.W.methodCall_KW (pl := pl) (thn (he.run pins s σ H _ I h) fun u s1 ⟨x, H1, I1, rx, a, dx, fs, ex, ea, l, q⟩ => ?_) ht
  subst ex
  obtain rfl : u = Value.ref a := rx
  refine getmeth_ok I1 ea c hm l ?_
  refine PySem.W.callWith_K (first := [.ref a]) (h₀ := X.base) I.ok.mod.kin hm.kp (thn (ha.run pos pins s1 σ H1 _ I1 q) fun us s2 ⟨vs, H2, I2, r, q2⟩ => ⟨I2.kIn, ?_⟩) hst hpl
  exact run_fnP (us := .ref a :: us) (vs := .ref a :: vs) F gd hr hb hd hx I2 (.cons rfl r) q2
theorem pe_methG0 {pl : Sem Bool} (he : PE X o ta) (c : Cls X.K C) (hm : Meth X.K C m f) (F : FnP gb X.prog X.w X.K X.mg X.base CX k f fd ps sp) (gd : gb = true → X.A.guards = some []) (hr : Room k X.A) (hb : Binds X.K fd ps ds) (hd : Vals dvs ds) (hx : Passes CX X E)
    (ht : eval (.Call (.Attribute o m apos) [] [] pos) X.env = (do
      let ov ← eval o X.env
      standAt apos.atName
      let (f, first) ← holding [ov] (getMethod ov m pl)
      callWith pos f first (backTo pos (starEach [] X.env)) (backToKw pos (keywordEach [] X.env))) := by rfl) :
    PE X (.Call (.Attribute o m apos) [] [] pos) (tMeth C m sp dvs E ta tNil) := by
  refine ⟨fun pins s σ H Q I h => ?_⟩
  refine PySem.W.methodCall_KW (pl := pl) (thn (he.run pins s σ H _ I h) fun u s1 ⟨x, H1, I1, rx, a, dx, fs, ex, ea, l, q⟩ => ?_) ht
  subst ex
  obtain rfl : u = Value.ref a := rx
  refine getmeth_ok I1 ea c hm l ?_
  exact PySem.W.callWith_K0 (first := [.ref a]) I1.kIn hm.kp (run_fnP (us := [.ref a]) (vs := [.ref a]) F gd hr hb hd hx I1 (.cons rfl .nil) q)
end
end G
namespace Q
variable [Tables]
open PySem PySem.Spec PyProof.Rows L2 G
section
variable {X : Cx} {Cl : Str → Addr} {E : XK} {w w' : Wd}
theorem call_sound0 {f : MF} {n : Nat} {vs : List V} {ms : List MV} {Q : VK} (s : SR Cl w) (r : RelL Cl w vs ms) (hn : vs.length = n)
    (h : match callR0 f ms w.μ with
      | .ok a μ' => ∀ v w1, w1.μ = μ' → SR Cl w1 → Ext w w1 → RelM Cl w1 v a → Q v w1.H
      | .exc c fs μ' => EOk Cl E w c fs μ'
      | .bad => False) : spM Cl n f vs w.H Q E := by
  unfold callR0 at h
  by_cases nd : (refsOf ms).Nodup
  · rw [if_pos nd] at h
    cases hc : conts w.μ (refsOf ms) with
    | none =>
      rw [hc] at h
      exact h.elim
    | some os =>
      rw [hc] at h
      simp only at h
      by_cases cl : os.all closed = true
      · rw [if_pos cl] at h
        have sc := wdC_sr s nd hc cl
        have rc := wdC_args (ps := refsOf ms) hc 0 r fun i p e => by rw [Nat.zero_add]; exact e
        refine ⟨wdC w (refsOf ms) os, renum 0 ms, rfl, rfl, sc, rc, hn, ?_⟩
        show match f (renum 0 ms) os with
          | .ret m μ' => _
          | .exc c fs μ' => _
          | .bad => False
        cases ef : f (renum 0 ms) os with
        | bad =>
          rw [ef] at h
          exact h.elim
        | exc c fs μ' =>
          rw [ef] at h
          simp only at h ⊢
          by_cases cb : μ'.B.all closedD = true
          · rw [if_pos cb] at h
            intro w' d x s' e1 ha
            subst e1
            obtain ⟨s1, x1⟩ := back_sr s nd hc cl s' x cb
            exact h ⟨w'.F, w.ρ, w'.H, setAll w.μ (refsOf ms) w'.μ.B⟩ d x1 s1 rfl ha
          · rw [if_neg cb] at h
            exact h.elim
        | ret m μ' =>
          rw [ef] at h
          simp only at h ⊢
          by_cases cb : μ'.B.all closedD = true
          · rw [if_pos cb] at h
            intro v w' e1 s' x rm
            subst e1
            obtain ⟨s1, x1⟩ := back_sr s nd hc cl s' x cb
            cases m with
            | d y => exact h v ⟨w'.F, w.ρ, w'.H, setAll w.μ (refsOf ms) w'.μ.B⟩ rfl s1 x1 rm
            | r p =>
              cases p with
              | b i =>
                simp only at h
                cases ep : (refsOf ms)[i]? with
                | none =>
                  rw [ep] at h
                  exact h.elim
                | some p =>
                  rw [ep] at h
                  obtain ⟨ev, o, ho⟩ := rm
                  obtain ⟨o2, h1, h2⟩ := (conts_get hc).2 i p ep
                  have e2 : w'.ρ (.b i) = w.ρ p := by
                    rw [(x.rho (.b i) _ h1).1]
                    exact rhoC_at ep
                  obtain ⟨o3, h3⟩ := (x1.rho p o2 h2).2
                  exact h v ⟨w'.F, w.ρ, w'.H, setAll w.μ (refsOf ms) w'.μ.B⟩ rfl s1 x1 ⟨by rw [ev, e2], o3, h3.1⟩
              | l k =>
                simp only at h
                cases eo : w'.μ.L[k]? with
                | none =>
                  rw [eo] at h
                  exact h.elim
                | some o =>
                  rw [eo] at h
                  simp only at h
                  by_cases co : closed o = true
                  · rw [if_pos co] at h
                    obtain ⟨rfl, _⟩ := rm
                    have nd' : ¬ o.isF := closed_nF co
                    have lv : w'.μ.live (.l k) := ⟨o, eo, nd'⟩
                    have h0 : w.H (w'.ρ (.l k)) = none := x.liv (.l k) lv (show ([] : List MO)[k]? = none by simp)
                    obtain ⟨u, hu, hf⟩ := (s'.obj (.l k) o eo).resolve_left fun ⟨d', e', _⟩ => nd' (isF_frz e')
                    obtain ⟨s2, x2, r2⟩ := SR.adopt (w := ⟨w'.F, w.ρ, w'.H, setAll w.μ (refsOf ms) w'.μ.B⟩) s1 x1 hu (hf.closed (closed_D co) (fun _ h => h) KeepF.refl) nd' (s'.nf (.l k) lv) (fun p hp e => by
                      obtain ⟨o4, e4, n4⟩ := hp
                      have : w.μ.live p := by
                        cases q : w.μ.get p with
                        | some o5 => exact x1.live q ⟨o4, e4, n4⟩
                        | none =>
                          have := x1.liv p ⟨o4, e4, n4⟩ q
                          exact absurd this (by
                            rw [show (Wd.mk w'.F w.ρ w'.H (setAll w.μ (refsOf ms) w'.μ.B)).ρ p = w.ρ p from rfl] at this ⊢
                            intro _
                            have g := setAll_get (ps := refsOf ms) (os := w'.μ.B) (μ := w.μ) nd (fun p hp => by
                              obtain ⟨i, hi, e⟩ := List.getElem_of_mem hp
                              obtain ⟨o, _, e2⟩ := (conts_get hc).2 i p (by rw [← e]; simp)
                              exact ⟨o, e2⟩) (by rw [x.sz]; exact (conts_get hc).1)
                            by_cases c : p ∈ refsOf ms
                            · obtain ⟨i, hi, e⟩ := List.getElem_of_mem c
                              obtain ⟨o, _, e2⟩ := (conts_get hc).2 i p (by rw [← e]; simp)
                              rw [e2] at q
                              cases q
                            · have e4 : (setAll w.μ (refsOf ms) w'.μ.B).get p = some o4 := e4
                              rw [g.1 p c, q] at e4
                              cases e4)
                      exact s.nn this (by rw [show w.ρ p = w'.ρ (.l k) from e]; exact h0)) h0
                    have eL : (setAll w.μ (refsOf ms) w'.μ.B).L.length = w.μ.L.length := by
                      have g := setAll_get (ps := refsOf ms) (os := w'.μ.B) (μ := w.μ) nd (fun p hp => by
                        obtain ⟨i, hi, e⟩ := List.getElem_of_mem hp
                        obtain ⟨o, _, e2⟩ := (conts_get hc).2 i p (by rw [← e]; simp)
                        exact ⟨o, e2⟩) (by rw [x.sz]; exact (conts_get hc).1)
                      exact g.2.2.2
                    have r2 : RelM Cl _ (.ref (w'.ρ (.l k))) (.r (.l (setAll w.μ (refsOf ms) w'.μ.B).L.length)) := r2
                    rw [eL] at r2
                    exact h _ ⟨w'.F, (Wd.mk w'.F w.ρ w'.H (setAll w.μ (refsOf ms) w'.μ.B)).rho (w'.ρ (.l k)), w'.H, (setAll w.μ (refsOf ms) w'.μ.B).new o⟩ rfl s2 x2 r2
                  · rw [if_neg co] at h
                    exact h.elim
          · rw [if_neg cb] at h
            exact h.elim
      · rw [if_neg cl] at h
        exact h.elim
  · rw [if_neg nd] at h
    exact h.elim
theorem call_sound {f : MF} {n : Nat} {vs : List V} {ms : List MV} {Q : VK} (s : SR Cl w) (r : RelL Cl w vs ms) (hn : vs.length = n)
    (h : match callR f ms w.μ with
      | .ok a μ' => ∀ v w1, w1.μ = μ' → SR Cl w1 → Ext w w1 → RelM Cl w1 v a → Q v w1.H
      | .exc c fs μ' => EOk Cl E w c fs μ'
      | .bad => False) : spM Cl n f vs w.H Q E := call_sound0 s (r.fz s) hn h
def mCall (n : Nat) (f : MF) (ns : En → MS → Res (List MV)) : En → MS → Res MV := fun env μ => (ns env μ).bind fun ms μ1 => if ms.length = n then callR f ms μ1 else .bad
theorem mono_spM {n : Nat} {f : MF} {vs : List V} : Mono fun (_ : L2.St) H Q => spM Cl n f vs H Q E := fun σ H Q Q' ⟨w, ms, h1, h2, h3, h4, h5, h6⟩ k => ⟨w, ms, h1, h2, h3, h4, h5, by
  cases e : f ms w.μ.B with
  | ret m μ' =>
    rw [e] at h6
    exact fun v w' a b c d => k _ _ (h6 v w' a b c d)
  | exc c fs μ' =>
    rw [e] at h6
    exact h6
  | bad =>
    rw [e] at h6
    exact h6⟩
theorem mt_callL {n : Nat} {f : MF} {vs : List V} {ms : List MV} {rel : Wd → Prop} (hr : ∀ w, rel w → RelL Cl w vs ms) : MT Cl E (RelM Cl) rel (fun _ H Q => spM Cl n f vs H Q E) (fun _ μ => if ms.length = n then callR f ms μ else .bad) := fun σ env w s he hrel => by
  have r := hr w hrel
  by_cases c : ms.length = n
  · simp only [if_pos c]
    cases e : callR f ms w.μ with
    | bad => trivial
    | exc c' fs μ' => exact fun hE => call_sound s r ((Paired.length r).trans c) (by rw [e]; exact hE)
    | ok a μ' => exact call_sound s r ((Paired.length r).trans c) (by rw [e]; exact fun v w1 e1 s1 x1 r1 => ⟨w1, rfl, e1, s1, x1, r1⟩)
  · simp only [if_neg c]
theorem mt_call {n : Nat} {f : MF} {es : List Expr} {ns : En → MS → Res (List MV)} (ha : MA X Cl E es ns) : MT Cl E (RelM Cl) Any (tCall (spM Cl n f) [] E (semA X es)) (mCall n f ns) := by
  refine (MT.bind (T2 := fun vs σ H (Q : VK) => spM Cl n f vs H Q E) mono_A (fun vs => mono_spM) stays_T ha fun vs ms => mt_callL fun w h => h.2).pull fun σ H Q h => ?_
  exact mono_A σ H _ _ h fun vs H1 q => by rw [List.append_nil]; exact q
theorem me_call {gb : Bool} {CX : CXT} {k n : Nat} {f : Addr} {fd : FuncData} {ps : List Str} {g : MF} {x : Str} {p pos : Pos} {e : Expr} {es : List Expr} {ns : En → MS → Res (List MV)} (F : FnP gb X.prog X.w X.K X.mg X.base CX k f fd ps (spM Cl n g)) (gd : gb = true → X.A.guards = some []) (hr : Room k X.A) (hg : Gl X x) (hm : X.mg x = some (.ref f))
    (hk : PySem.W.keepIn X.K (.ref f) = true) (hb : Binds X.K fd ps []) (hx : Passes CX X E) (ha : MA X Cl E (e :: es) ns) (hs : starEach (e :: es) X.env = (false, eval e X.env) :: starEach es X.env := by rfl)
    (hpl : (backTo pos (starEach es X.env)).any (·.1) = false := by rfl) (hdb : (x == ("__debug__" : Str)) = false := by decide) : ME X Cl E (.Call (.Name x p) (e :: es) [] pos) (mCall n g ns) :=
  ME.of (pe_callP F gd hr hg hm hk hb .nil hx pa_sem hs hpl hdb) (mt_call ha)
end
end Q
end

set_option Elab.async false
set_option linter.all false
set_option maxRecDepth 100000
set_option maxHeartbeats 4000000
/-! Targets, walks, for. -/
noncomputable section
open Classical
namespace Q
variable [Tables]
open PySem PySem.Spec PyProof.Rows L2 G
section
variable {X : Cx} {Cl : Str → Addr} {E : XK} {D' : Ends} {w w' : Wd} {e tg iter : Expr} {es : List Expr}
/-! ### targets -/
abbrev Tgt := D → En → Option En
def GOk (Cl : Str → Addr) (g : TG) (f : Tgt) : Prop := ∀ (d : D) (env env' : En) (x : V) (σ : L2.St) (w : Wd) (Q : L2.St → Hp → Prop), EnvR Cl w σ env → Den Cl w.F w.H x d → f d env = some env' → (∀ σ', EnvR Cl w σ' env' → Q σ' w.H) → g x σ w.H Q
def GsOk (Cl : Str → Addr) (g : TGs) (f : List D → En → Option En) : Prop := ∀ (ds : List D) (env env' : En) (xs : List V) (σ : L2.St) (w : Wd) (Q : L2.St → Hp → Prop), EnvR Cl w σ env → DenL Cl w.F w.H xs ds → f ds env = some env' → (∀ σ', EnvR Cl w σ' env' → Q σ' w.H) → g xs σ w.H Q
structure MG (X : Cx) (Cl : Str → Addr) (tg : Expr) (f : Tgt) : Prop where
  ex : ∃ g, PG X tg g ∧ GOk Cl g f
structure MGs (X : Cx) (Cl : Str → Addr) (tgs : List Expr) (f : List D → En → Option En) : Prop where
  ex : ∃ g, PGs X tgs g ∧ GsOk Cl g f
def gN (i : Nat) : Tgt := fun d env => some (env.set i (some (.d d)))
def gT (f : List D → En → Option En) : Tgt := fun d env => match d with
  | .tup ds => f ds env
  | _ => none
def gsN : List D → En → Option En := fun ds env => match ds with
  | [] => some env
  | _ => none
def gsC (f : Tgt) (fs : List D → En → Option En) : List D → En → Option En := fun ds env => match ds with
  | d :: r => (f d env).bind (fs r)
  | [] => none
theorem gok_name {i : Nat} : GOk Cl (gName i) (gN i) := fun d env env' x σ w Q he hd e k => by
  cases e
  exact k _ (EnvR.set (m := .d d) he hd)
theorem mg_name {i : Nat} {x : Str} {pos : Pos} (hN : X.N.Nodup) (hi : X.N[i]? = some x) (hx : Loc X.env.scope x) (hf : X.fn x = true ∨ X.env.scope.names.lookup x = some .local := by first | exact .inl rfl | exact .inr rfl | assumption) : MG X Cl (.Name x pos) (gN i) :=
  ⟨_, pg_name hN hi hx hf, gok_name⟩
theorem mgs_nil : MGs X Cl [] gsN := ⟨_, pgs_nil, fun ds env env' xs σ w Q he hd e k => by
  cases hd with
  | nil =>
    cases e
    exact ⟨rfl, k σ he⟩
  | cons h t => cases e⟩
theorem gsok_cons {g : TG} {gs : TGs} {f : Tgt} {fs : List D → En → Option En} (h : GOk Cl g f) (hs : GsOk Cl gs fs) : GsOk Cl (gCons g gs) (gsC f fs) := fun ds env env' xs σ w Q he hd e k => by
  cases hd with
  | nil => cases e
  | @cons x d xs ds hx ht =>
    obtain ⟨env1, e1, e2⟩ := Option.bind_eq_some_iff.mp (show (f d env).bind (fs ds) = some env' from e)
    exact ⟨x, xs, rfl, h d env env1 x σ w _ he hx e1 fun σ1 he1 => hs ds env1 env' xs σ1 w Q he1 ht e2 k⟩
theorem mgs_cons {a : Expr} {as : List Expr} {f : Tgt} {fs : List D → En → Option En} (h : MG X Cl a f) (hs : MGs X Cl as fs) (ha : (assignEach (a :: as) X.env).map (·.2) = assign a X.env :: (assignEach as X.env).map (·.2) := by rfl) : MGs X Cl (a :: as) (gsC f fs) := by
  obtain ⟨g, h1, h2⟩ := h.ex
  obtain ⟨gs, k1, k2⟩ := hs.ex
  exact ⟨_, pgs_cons h1 k1 ha, gsok_cons h2 k2⟩
theorem gok_tup {n : Nat} {gs : TGs} {fs : List D → En → Option En} (hs : GsOk Cl gs fs) (hl : ∀ ds env, (fs ds env).isSome → ds.length = n) : GOk Cl (gTupU n gs) (gT fs) := fun d env env' x σ w Q he hd e k => by
  cases d with
  | tup ds =>
    obtain ⟨a, vs, rfl, ha, l⟩ := hd.N
    have e : fs ds env = some env' := e
    exact ⟨a, vs, rfl, by rw [ha]; rfl, by rw [den_len l]; exact hl ds env (by rw [e]; rfl), hs ds env env' vs σ w Q he l e k⟩
  | _ => cases e
theorem mg_tup {as : List Expr} {k n : Nat} {pos : Pos} {fs : List D → En → Option En} (hc : X.calm = true) (h : MGs X Cl as fs) (hl : ∀ ds env, (fs ds env).isSome → ds.length = n) (hn : (assignEach as X.env).length = n := by rfl) (hst : (assignEach as X.env).findIdx? (·.1) = none := by rfl) :
    MG X Cl (.Tuple as k pos) (gT fs) := by
  obtain ⟨gs, h1, h2⟩ := h.ex
  exact ⟨_, pg_tupU hc h1 hn hst, gok_tup h2 hl⟩
theorem len_nil (ds : List D) (env : En) (h : (gsN ds env).isSome) : ds.length = 0 := by
  cases ds with
  | nil => rfl
  | cons d r => cases h
theorem len_cons {f : Tgt} {fs : List D → En → Option En} {n : Nat} (h : ∀ ds env, (fs ds env).isSome → ds.length = n) (ds : List D) (env : En) (k : (gsC f fs ds env).isSome) : ds.length = n + 1 := by
  cases ds with
  | nil => cases k
  | cons d r =>
    obtain ⟨env', e⟩ := Option.isSome_iff_exists.mp k
    obtain ⟨env1, e1, e2⟩ := Option.bind_eq_some_iff.mp (show (f d env).bind (fs r) = some env' from e)
    rw [List.length_cons, h r env1 (by rw [e2]; rfl)]
/-- a target is given a value -/
def sTo (f : Tgt) (m : En → MS → Res MV) : Mir := fun env μ => wth (mFrz m env μ) fun x μ1 => match x with
  | .d d => match f d env with
    | some env' => .nx env' μ1
    | none => .bad
  | .r _ => .bad
theorem mp_to {pos : Pos} {f : Tgt} {m : En → MS → Res MV} (he : ME X Cl E e m) (hg : MG X Cl tg f) (hs : swapsWithSole [tg] e pos.line X.env = pure false := by rfl) (hw : swappedStores [tg] e X.env = pure none := by rfl)
    (h1 : (assignEach [tg] X.env).map (·.2) = [assign tg X.env] := by rfl) : MP X Cl E (.Assign [tg] e pos) (sTo f m) := by
  obtain ⟨g, k1, k2⟩ := hg.ex
  refine ⟨_, ps_asg pe_sem k1 hs hw h1, fun D σ env w s hv hp => use_wth (me_frz he) mono_E s hv hp fun y v w' s' x he' r k => ?_⟩
  cases y with
  | r p => exact k.elim
  | d d =>
    cases ef : f d env with
    | none =>
      simp only [ef] at k
      exact k.elim
    | some env' =>
      simp only [ef] at k
      exact k2 d env env' v σ w' _ he' r ef fun σ' he2 => k σ' w' rfl s' Ext.refl he2
/-! ### walks -/
structure Walked (Cl : Str → Addr) (w1 : Wd) {α : Type} (zs : List α) (ds : List D) (Gd : Hp → Prop) (R : α → Hp → V → Hp → Prop) : Prop where
  len : zs.length = ds.length
  gd : ∀ w', Ext w1 w' → SR Cl w' → Gd w'.H
  y : ∀ (i : Nat) z d w' x H', zs[i]? = some z → ds[i]? = some d → Ext w1 w' → SR Cl w' → R z w'.H x H' → ∃ w2 : Wd, w2.H = H' ∧ w2.μ = w'.μ ∧ SR Cl w2 ∧ Ext w' w2 ∧ Den Cl w2.F w2.H x d
structure MI (X : Cx) (Cl : Str → Addr) (E : XK) (tg iter : Expr) (n : En → MS → Res (List D)) : Prop where
  ex : ∃ (α : Type) (wz : TIZ α), PIZ X tg iter wz ∧ ∀ σ env w (k : List α → (Hp → Prop) → (α → Hp → V → Hp → Prop) → Hp → Prop), SR Cl w → EnvR Cl w σ env → (match n env w.μ with
    | .ok ds μ' => ∀ w1, w1.μ = μ' → SR Cl w1 → Ext w w1 → ∀ zs Gd R, Walked Cl w1 zs ds Gd R → k zs Gd R w1.H
    | .exc c fs μ' => EOk Cl E w c fs μ'
    | .bad => False) → wz σ w.H k
def forF (f : Tgt) (b : Mir) : List D → Mir
  | [], env, μ => .nx env μ
  | d :: ds, env, μ => match f d env with
    | none => .bad
    | some env1 => match b env1 μ with
      | .nx env' μ' => forF f b ds env' μ'
      | .ct env' μ' => forF f b ds env' μ'
      | .bk env' μ' => .nx env' μ'
      | r => r
theorem for_core {α : Type} {zs : List α} {ds : List D} {Gd : Hp → Prop} {R : α → Hp → V → Hp → Prop} {g : TG} {f : Tgt} {tb : TS} {n : Mir} {σ : L2.St} {env : En} {w1 : Wd} (wk : Walked Cl w1 zs ds Gd R) (hg : GOk Cl g f) (hb : MSt Cl E tb n)
    (s : SR Cl w1) (he : EnvR Cl w1 σ env) (hp : SPost Cl E D' w1 (forF f n ds env w1.μ)) : LoopZ zs Gd R g tb D' σ w1.H := by
  refine ⟨fun done rest σ H => ∃ env w', w'.H = H ∧ SR Cl w' ∧ Ext w1 w' ∧ EnvR Cl w' σ env ∧ SPost Cl E D' w' (forF f n (ds.drop done.length) env w'.μ), ⟨env, w1, rfl, s, Ext.refl, he, hp⟩, ?_, ?_, ?_⟩
  · rintro done rest σ H _ ⟨env, w', rfl, s', x, _⟩
    exact wk.gd w' x s'
  · rintro done z rest σ H x H' e ⟨env, w2, rfl, s2, x2, he2, hp2⟩ hr
    have hz : zs[done.length]? = some z := by rw [← e]; simp
    have hlt := (List.getElem?_eq_some_iff.mp hz).1
    have hd : ds[done.length]? = some (ds[done.length]'(by rw [← wk.len]; exact hlt)) := by simp
    generalize (ds[done.length]'(by rw [← wk.len]; exact hlt)) = d at hd
    have hdr : ds.drop done.length = d :: ds.drop (done.length + 1) := by
      obtain ⟨h1, h2⟩ := List.getElem?_eq_some_iff.mp hd
      rw [← h2]
      exact List.drop_eq_getElem_cons h1
    rw [hdr] at hp2
    obtain ⟨w3, rfl, e3, s3, x3, hx⟩ := wk.y done.length z d w2 x H' hz hd x2 s2 hr
    rw [forF] at hp2
    have hp3 := SPost.ext x3 hp2
    cases ef : f d env with
    | none =>
      simp only [ef] at hp2
      exact hp2.elim
    | some env1 =>
      simp only [ef] at hp3
      refine hg d env env1 x σ w3 _ (he2.ext x3 s2) hx ef fun σ1 he3 => ?_
      refine hb _ σ1 env1 w3 s3 he3 ?_
      rw [e3]
      have len : (done ++ [z]).length = done.length + 1 := by simp
      cases eb : n env1 w2.μ with
      | nx env' μ' =>
        simp only [eb] at hp3
        exact fun σ' w4 e4 s4 x4 he4 => ⟨env', w4, rfl, s4, (x2.trans x3).trans x4, he4, by rw [len, e4]; exact SPost.ext x4 hp3⟩
      | ct env' μ' =>
        simp only [eb] at hp3
        exact fun σ' w4 e4 s4 x4 he4 => ⟨env', w4, rfl, s4, (x2.trans x3).trans x4, he4, by rw [len, e4]; exact SPost.ext x4 hp3⟩
      | bk env' μ' =>
        simp only [eb] at hp3
        exact hp3
      | rt m μ' =>
        simp only [eb] at hp3
        exact hp3
      | exc c fs μ' =>
        simp only [eb] at hp3
        exact hp3
      | bad =>
        simp only [eb] at hp3
        exact hp3.elim
  · rintro σ H ⟨env, w', rfl, s', x, he', hp'⟩
    rw [wk.len, List.drop_length] at hp'
    exact hp' σ w' rfl s' Ext.refl he'
def sFor (ni : En → MS → Res (List D)) (f : Tgt) (b : Mir) : Mir := fun env μ => wth (ni env μ) fun ds μ1 => forF f b ds env μ1
theorem mp_for {body : List Stmt} {pos : Pos} {ni : En → MS → Res (List D)} {f : Tgt} {n : Mir} (hpo : PassesOwn (model X.prog X.w) X.A X.env X.xe) (hc : X.calm = true) (hi : MI X Cl E tg iter ni) (hg : MG X Cl tg f) (hb : MPs X Cl E body n)
    (hs : ∀ x, foldedSetIterable iter X.env x = pure x := by intro _; rfl) : MP X Cl E (.For tg iter body [] pos) (sFor ni f n) := by
  obtain ⟨α, wz, h1, h2⟩ := hi.ex
  obtain ⟨g, k1, k2⟩ := hg.ex
  obtain ⟨t, b1, b2⟩ := hb.ex
  refine ⟨_, ps_forZ hpo hc h1 k1 b1 hs, fun D σ env w s he hp => ?_⟩
  refine h2 σ env w _ s he ?_
  unfold sFor at hp
  cases e : ni env w.μ with
  | bad =>
    rw [e] at hp
    exact hp
  | exc c fs μ' =>
    rw [e] at hp
    exact hp
  | ok ds μ' =>
    rw [e] at hp
    intro w1 e1 s1 x1 zs Gd R wk
    exact for_core wk k2 b2 s1 (he.ext x1 s) (by rw [e1]; exact SPost.ext x1 hp)
/-! ### what is walked -/
theorem walked_val {vs : List V} {ds : List D} {a : Addr} {u : HO} {w1 : Wd} (s : SR Cl w1) (hl : DenL Cl w1.F w1.H vs ds) (ha : w1.F a) (hu : w1.H a = some u) {u' : HO} (nl : lk (some u) = some u') (nt : ∀ ps, u' ≠ .tbl ps) : Walked Cl w1 vs ds (fun H => lk (H a) = some u') (RVal id) :=
  ⟨den_len hl, fun w' x s' => (x.keepF s).lkE ha (by rw [hu]; exact nl) nt, fun i z d w' x H' h1 h2 x' s' hr => by
    obtain ⟨rfl, rfl⟩ := hr
    exact ⟨w', rfl, rfl, s', Ext.refl, (paired_get hl i _ _ h1 h2).mono x'.ff (x'.keepF s)⟩⟩
/-- the items of what is frozen -/
def items (n : En → MS → Res MV) (f : D → Option (List D)) : En → MS → Res (List D) := fun env μ => (mFrz n env μ).bind fun x μ1 => match x with
  | .d d => match f d with
    | some ds => .ok ds μ1
    | none => .bad
  | .r _ => .bad
def lstI : D → Option (List D)
  | .lst ds => some ds
  | _ => none
def tupI : D → Option (List D)
  | .tup ds => some ds
  | _ => none
def strI : D → Option (List D)
  | .str x => some (x.cps.toList.map fun c => .str ⟨#[c]⟩)
  | _ => none
theorem mi_of {α : Type} {wz : TIZ α} {n : En → MS → Res MV} {f : D → Option (List D)} (he : ME X Cl E e n) (hi : PIZ X tg iter wz)
    (hk : ∀ σ H (k : List α → (Hp → Prop) → (α → Hp → V → Hp → Prop) → Hp → Prop), (semE X e σ H fun x H1 => ∃ (d : D) (ds : List D) (w1 : Wd), w1.H = H1 ∧ SR Cl w1 ∧ Den Cl w1.F w1.H x d ∧ f d = some ds ∧ ∀ zs Gd R, Walked Cl w1 zs ds Gd R → k zs Gd R H1) → wz σ H k) : MI X Cl E tg iter (items n f) := by
  refine ⟨α, wz, hi, fun σ env w k s hv hm => hk σ w.H k ?_⟩
  refine mt_use (me_frz he) mono_E s hv ?_
  unfold items at hm
  cases en : mFrz n env w.μ with
  | bad =>
    rw [en] at hm
    exact hm
  | exc c fs μ' =>
    rw [en] at hm
    exact hm
  | ok y μ' =>
    rw [en] at hm
    intro v w1 e1 s1 x1 r
    cases y with
    | r p => exact hm.elim
    | d d =>
      simp only [Res.bind] at hm
      cases ef : f d with
      | none =>
        rw [ef] at hm
        exact hm.elim
      | some ds =>
        rw [ef] at hm
        exact ⟨d, ds, w1, rfl, s1, r, ef, fun zs Gd R wk => hm w1 e1 s1 x1 zs Gd R wk⟩
theorem mi_list {n : En → MS → Res MV} (he : ME X Cl E iter n) : MI X Cl E tg iter (items n lstI) := mi_of he (z_list pe_sem) fun σ H k h => mono_E σ H _ _ h fun x H1 ⟨d, ds, w1, e1, s1, hd, hf, hk⟩ => by
  cases d <;> simp only [lstI, reduceCtorEq, Option.some.injEq] at hf
  subst hf
  subst e1
  cases hd with
  | lst ha hu hl hg => exact ⟨_, _, rfl, by rw [hu]; rfl, hk _ _ _ (walked_val s1 (paired_of hl hg) ha hu rfl nofun)⟩
theorem mi_tup {n : En → MS → Res MV} (he : ME X Cl E iter n) : MI X Cl E tg iter (items n tupI) := mi_of he (z_tup pe_sem) fun σ H k h => mono_E σ H _ _ h fun x H1 ⟨d, ds, w1, e1, s1, hd, hf, hk⟩ => by
  cases d <;> simp only [tupI, reduceCtorEq, Option.some.injEq] at hf
  subst hf
  subst e1
  cases hd with
  | tup ha hu hl hg => exact ⟨_, _, rfl, by rw [hu]; rfl, hk _ _ _ (walked_val s1 (paired_of hl hg) ha hu rfl nofun)⟩
theorem walked_fn {α : Type} {zs : List α} {f : α → V} {g : α → D} {w1 : Wd} (h : ∀ z F H, Den Cl F H (f z) (g z)) : Walked Cl w1 zs (zs.map g) (fun _ => True) (RVal f) :=
  ⟨by simp, fun _ _ _ => trivial, fun i z d w' x H' h1 h2 x' s' hr => by
    obtain ⟨rfl, rfl⟩ := hr
    rw [List.getElem?_map, h1] at h2
    cases h2
    exact ⟨w', rfl, rfl, s', Ext.refl, h z _ _⟩⟩
theorem mi_str {n : En → MS → Res MV} (he : ME X Cl E iter n) : MI X Cl E tg iter (items n strI) := mi_of he (z_str pe_sem) fun σ H k h => mono_E σ H _ _ h fun x H1 ⟨d, ds, w1, e1, s1, hd, hf, hk⟩ => by
  cases d <;> simp only [strI, reduceCtorEq, Option.some.injEq] at hf
  subst hf
  subst e1
  cases hd
  exact ⟨_, rfl, hk _ _ _ (walked_fn fun z _ _ => Den.str _)⟩
end
end Q
end

set_option Elab.async false
set_option linter.all false
set_option maxRecDepth 100000
set_option maxHeartbeats 4000000
/-! List comprehensions, mirrored. -/
noncomputable section
open Classical
namespace Q
variable [Tables]
open PySem PySem.Spec PyProof.Rows L2 G
section
variable {X : Cx} {Cl : Str → Addr} {E : XK} {w w' : Wd} {e tg iter elt c : Expr} {scope : Scope}
theorem wipe_none {σ : L2.St} {i : Nat} : ∀ {vs : List Nat}, i ∈ vs → i < σ.length → (wipe σ vs)[i]? = some none
  | v :: vs, h, hl => by
    show ((wipe σ vs).set v none)[i]? = some none
    by_cases e : v = i
    · subst e
      rw [List.getElem?_set_self (by rw [wipe_length]; exact hl)]
    · rw [List.getElem?_set_ne e]
      rcases List.mem_cons.mp h with h | h
      · exact absurd h.symm e
      · exact wipe_none h hl
theorem wipe_eq {σ σ' : L2.St} {vs : List Nat} (hl : σ'.length = σ.length) (h : ∀ j, j ∉ vs → σ'[j]? = σ[j]?) : wipe σ' vs = wipe σ vs := by
  apply List.ext_getElem?
  intro j
  by_cases c : j ∈ vs
  · by_cases d : j < σ.length
    · rw [wipe_none c d, wipe_none c (by omega)]
    · rw [List.getElem?_eq_none (by rw [wipe_length]; omega), List.getElem?_eq_none (by rw [wipe_length]; omega)]
  · rw [wipe_out c, wipe_out c, h j c]
/-- a target that keeps to the slots vs -/
def GOkS (Cl : Str → Addr) (vs : List Nat) (g : TG) (f : Tgt) : Prop := ∀ (d : D) (env env' : En) (x : V) (σ : L2.St) (w : Wd) (Q : L2.St → Hp → Prop), EnvR Cl w σ env → Den Cl w.F w.H x d → f d env = some env' → (∀ σ', EnvR Cl w σ' env' → σ'.length = σ.length → (∀ j, j ∉ vs → σ'[j]? = σ[j]?) → Q σ' w.H) → g x σ w.H Q
def GsOkS (Cl : Str → Addr) (vs : List Nat) (g : TGs) (f : List D → En → Option En) : Prop := ∀ (ds : List D) (env env' : En) (xs : List V) (σ : L2.St) (w : Wd) (Q : L2.St → Hp → Prop), EnvR Cl w σ env → DenL Cl w.F w.H xs ds → f ds env = some env' → (∀ σ', EnvR Cl w σ' env' → σ'.length = σ.length → (∀ j, j ∉ vs → σ'[j]? = σ[j]?) → Q σ' w.H) → g xs σ w.H Q
structure MGb (X : Cx) (scope : Scope) (Cl : Str → Addr) (vs : List Nat) (tg : Expr) (f : Tgt) : Prop where
  ex : ∃ g, (Blks X scope fun B => PG B tg g) ∧ GOkS Cl vs g f
structure MGsb (X : Cx) (scope : Scope) (Cl : Str → Addr) (vs : List Nat) (tgs : List Expr) (f : List D → En → Option En) : Prop where
  ex : ∃ g, (Blks X scope fun B => PGs B tgs g) ∧ GsOkS Cl vs g f
theorem mgb_name {vs : List Nat} {i : Nat} (h : Blks X scope fun B => PG B tg (gName i)) (hi : i ∈ vs) : MGb X scope Cl vs tg (gN i) := ⟨_, h, fun d env env' x σ w Q he hd e k => by
  cases e
  exact k _ (EnvR.set (m := .d d) he hd) (by simp) fun j hj => List.getElem?_set_ne fun z => hj (by rw [← z]; exact hi)⟩
theorem mgsb_nil {vs : List Nat} : MGsb X scope Cl vs [] gsN := ⟨_, fun _ _ _ _ _ => pgs_nil, fun ds env env' xs σ w Q he hd e k => by
  cases hd with
  | nil =>
    cases e
    exact ⟨rfl, k σ he rfl fun _ _ => rfl⟩
  | cons h t => cases e⟩
theorem mgsb_cons {vs : List Nat} {a : Expr} {as : List Expr} {f : Tgt} {fs : List D → En → Option En} (h : MGb X scope Cl vs a f) (hs : MGsb X scope Cl vs as fs) (ha : Blks X scope fun B => (assignEach (a :: as) B.env).map (·.2) = assign a B.env :: (assignEach as B.env).map (·.2) := by intro _ _ _ _ _; rfl) : MGsb X scope Cl vs (a :: as) (gsC f fs) := by
  obtain ⟨g, h1, h2⟩ := h.ex
  obtain ⟨gs, k1, k2⟩ := hs.ex
  refine ⟨_, fun s H C cl fp => pgs_cons (h1 s H C cl fp) (k1 s H C cl fp) (ha s H C cl fp), fun ds env env' xs σ w Q he hd e k => ?_⟩
  cases hd with
  | nil => cases e
  | @cons x d xs ds hx ht =>
    obtain ⟨env1, e1, e2⟩ := Option.bind_eq_some_iff.mp (show (f d env).bind (fs ds) = some env' from e)
    exact ⟨x, xs, rfl, h2 d env env1 x σ w _ he hx e1 fun σ1 he1 l1 n1 => k2 ds env1 env' xs σ1 w Q he1 ht e2 fun σ2 he2 l2 n2 => k σ2 he2 (l2.trans l1) fun j hj => (n2 j hj).trans (n1 j hj)⟩
theorem mgb_tup {vs : List Nat} {as : List Expr} {k n : Nat} {pos : Pos} {fs : List D → En → Option En} (h : MGsb X scope Cl vs as fs) (hl : ∀ ds env, (fs ds env).isSome → ds.length = n) (hc : Blks X scope fun B => B.calm = true) (hn : Blks X scope fun B => (assignEach as B.env).length = n := by intro _ _ _ _ _; rfl)
    (hst : Blks X scope fun B => (assignEach as B.env).findIdx? (·.1) = none := by intro _ _ _ _ _; rfl) : MGb X scope Cl vs (.Tuple as k pos) (gT fs) := by
  obtain ⟨gs, h1, h2⟩ := h.ex
  refine ⟨_, fun s H C cl fp => pg_tupU (hc s H C cl fp) (h1 s H C cl fp) (hn s H C cl fp) (hst s H C cl fp), fun d env env' x σ w Q he hd e k => ?_⟩
  cases d with
  | tup ds =>
    obtain ⟨a, us, rfl, ha, l⟩ := hd.N
    have e : fs ds env = some env' := e
    exact ⟨a, us, rfl, by rw [ha]; rfl, by rw [den_len l]; exact hl ds env (by rw [e]; rfl), h2 ds env env' us σ w Q he l e k⟩
  | _ => cases e
/-! ### what stands within -/
theorem mono_bE : Mono (bE X scope e) := fun σ H Q Q' h k s0 H0 C cl fp => mono_E σ H _ _ (h s0 H0 C cl fp) k
theorem mono_bT {ifs : List Expr} : Mono (bT X scope ifs) := fun σ H Q Q' h k s0 H0 C cl fp => semT.of pts_sem (h s0 H0 C cl fp) k
theorem mt_b {m : En → MS → Res MV} (h : Blks X scope fun B => ME B Cl E e m) : MT Cl E (RelM Cl) Any (bE X scope e) m := fun σ env w s he hr => by
  have h1 := fun s0 H0 C cl fp => h s0 H0 C cl fp σ env w s he hr
  cases q : m env w.μ with
  | bad => trivial
  | exc c fs μ' =>
    intro hE s0 H0 C cl fp
    have := h1 s0 H0 C cl fp
    rw [q] at this
    exact this hE
  | ok y μ' =>
    intro s0 H0 C cl fp
    have := h1 s0 H0 C cl fp
    rw [q] at this
    exact this
def mYes : En → MS → Res Bool := fun _ μ => .ok true μ
theorem mt_bT0 : MT Cl E BoolR Any (bT X scope []) mYes := fun σ env w s he hr s0 H0 C cl fp => semT.of pts_nil (Q := Post Cl BoolR w w.μ true) (show Post Cl BoolR w w.μ true true w.H from ⟨w, rfl, rfl, s, Ext.refl, rfl⟩) fun _ _ q => q
theorem mt_bT1 {n : En → MS → Res Bool} (h : Blks X scope fun B => MC B Cl E c n) : MT Cl E BoolR Any (bT X scope [c]) n := fun σ env w s he hr => by
  have h1 := fun s0 H0 C cl fp => h s0 H0 C cl fp σ env w s he hr
  cases q : n env w.μ with
  | bad => trivial
  | exc c' fs μ' =>
    intro hE s0 H0 C cl fp
    have := h1 s0 H0 C cl fp
    rw [q] at this
    exact semT.of (pts_one pt_sem) (this hE) fun _ _ z => z
  | ok y μ' =>
    intro s0 H0 C cl fp
    have := h1 s0 H0 C cl fp
    rw [q] at this
    exact semT.of (pts_one pt_sem) this fun _ _ z => z
/-! ### the turns -/
def wipeE (env : En) : List Nat → En
  | [] => env
  | v :: vs => (wipeE env vs).set v none
theorem wipeE_env {σ : L2.St} {env : En} (h : EnvR Cl w σ env) : ∀ vs, EnvR Cl w (wipe σ vs) (wipeE env vs)
  | [] => h
  | v :: vs => by
    have ih := wipeE_env h vs
    refine ⟨by unfold wipe wipeE; rw [List.length_set, List.length_set]; exact ih.len, fun i m e => ?_⟩
    by_cases c : v = i
    · subst c
      have hi : v < (wipeE env vs).length := by
        have := (List.getElem?_eq_some_iff.mp e).1
        unfold wipeE at this
        rw [List.length_set] at this
        exact this
      have : (wipeE env (v :: vs))[v]? = some none := by
        show ((wipeE env vs).set v none)[v]? = _
        rw [List.getElem?_set_self hi]
      rw [this] at e
      cases e
    · have e1 : (wipeE env (v :: vs))[i]? = (wipeE env vs)[i]? := by
        show ((wipeE env vs).set v none)[i]? = _
        rw [List.getElem?_set_ne c]
      rw [e1] at e
      obtain ⟨u, e2, r⟩ := ih.at_ i m e
      refine ⟨u, ?_, r⟩
      show ((wipe σ vs).set v none)[i]? = _
      rw [List.getElem?_set_ne c]
      exact e2
def compF (f : Tgt) (c : En → MS → Res Bool) (m : En → MS → Res MV) (env : En) : List D → List D → MS → Res (List D)
  | [], acc, μ => .ok acc μ
  | d :: ds, acc, μ => match f d env with
    | none => .bad
    | some env1 => (c env1 μ).bind fun b μ1 => if b = true then (mFrz m env1 μ1).bind fun y μ2 => match y with
        | .d y => compF f c m env ds (acc ++ [y]) μ2
        | .r _ => .bad
      else compF f c m env ds acc μ1
def mComp (ni : En → MS → Res (List D)) (f : Tgt) (c : En → MS → Res Bool) (m : En → MS → Res MV) (vs : List Nat) : En → MS → Res MV := fun env μ => (ni env μ).bind fun ds μ1 => if ds.length ≤ 16777216 then (compF f c m (wipeE env vs) ds [] μ1).bind fun ys μ2 => .ok (.r (.l μ2.L.length)) (μ2.new (.lst (ys.map .d))) else .bad
/-- an address that nobody tracks is written -/
theorem SR.upd_free (s : SR Cl w) {a : Addr} {u : HO} (hF : ¬ w.F a) (ha : ∀ p, w.μ.live p → w.ρ p ≠ a) {u0 : HO} (hn : w.H a = some u0) (pl : Plain u0) (nt : ∀ ps, u ≠ .tbl ps) : SR Cl ⟨w.F, w.ρ, upd w.H a u, w.μ⟩ ∧ KeepF w.F w.H (upd w.H a u) := by
  have kf : KeepF w.F w.H (upd w.H a u) := KeepF.of fun b hb => upd_ne fun e => hF (by rw [← e]; exact hb)
  have rel : ∀ {v : V} {m : MV}, RelM Cl w v m → RelM Cl ⟨w.F, w.ρ, upd w.H a u, w.μ⟩ v m := fun {v m} h => by
    cases m with
    | d x => exact Den.mono h (fun _ h => h) kf
    | r p => exact h
  have fit : ∀ {u' : HO} {o : MO}, Fits Cl w u' o → Fits Cl ⟨w.F, w.ρ, upd w.H a u, w.μ⟩ u' o := fun {u' o} h => by
    cases u' <;> cases o <;> first
      | exact h.elim
      | exact Paired.mapP h fun _ _ h => rel h
      | exact ⟨h.1, Paired.mapP h.2 fun _ _ h => rel h⟩
      | exact ⟨h.1, h.2.1, Paired.mapP h.2.2 fun _ _ h => rel h⟩
  refine ⟨⟨tabs_upd s.tb hn pl, fun p o e => ?_, s.inj, s.nf, fun b hb => ?_, tO_upd s.tO nt⟩, kf⟩
  · by_cases d : o.isF
    · rcases s.obj p o e with ⟨d', e', h⟩ | ⟨u', h1, h2⟩
      · exact .inl ⟨d', e', Den.mono h (fun _ h => h) kf⟩
      · obtain ⟨d', rfl⟩ := isF_ex d
        cases u' <;> exact h2.elim
    · rcases s.obj p o e with h | ⟨u', h1, h2⟩
      · exact absurd (isF_frz h.choose_spec.1) d
      · exact .inr ⟨u', (upd_ne (ha p ⟨o, e, d⟩)).trans h1, fit h2⟩
  · show upd w.H a u b ≠ none
    rw [upd_ne fun e => hF (by rw [← e]; exact hb)]
    exact s.th b hb
theorem Ext.upd_new {w1 : Wd} (x : Ext w1 w) {a : Addr} {u : HO} (h : w1.H a = none) : Ext w1 ⟨w.F, w.ρ, upd w.H a u, w.μ⟩ :=
  ⟨x.ff, fun b hb n => by
    have e0 : upd w.H a u b = w.H b := upd_ne fun e => hb (by rw [e]; exact h)
    show Kp w1.F w1.H (upd w.H a u) b
    unfold Kp
    rw [e0]
    exact x.keep b hb n, x.rho, x.new, x.liv, fun b hb => by
    show upd w.H a u b ≠ none
    rw [upd_ne fun e => hb (by rw [e]; exact h)]
    exact x.nn b hb, x.sz⟩
theorem mt_lcI {ifs : List Expr} {own : List (Str × Nat)} {ni : En → MS → Res (List D)} {f : Tgt} {nc : En → MS → Res Bool} {m : En → MS → Res MV} (hi : MI X Cl E tg iter ni)
    (hg : MGb X scope Cl (own.map (·.2)) tg f) (ht : MT Cl E BoolR Any (bT X scope ifs) nc) (he : Blks X scope fun B => ME B Cl E elt m) :
    ∃ (α : Type) (wz : TIZ α) (g : TG), PIZ X tg iter wz ∧ (Blks X scope fun B => PG B tg g) ∧ (∀ σ env w (Q : VK), SR Cl w → EnvR Cl w σ env → (match mComp ni f nc m (own.map (·.2)) env w.μ with
      | .ok y μ' => ∀ v w', w'.μ = μ' → SR Cl w' → Ext w w' → RelM Cl w' v y → Q v w'.H
      | .exc c fs μ' => EOk Cl E w c fs μ'
      | .bad => False) → tLcI wz g (bT X scope ifs) (bE X scope elt) (own.map (·.2)) σ w.H Q) := by
  obtain ⟨α, wz, h1, h2⟩ := hi.ex
  obtain ⟨g, k1, k2⟩ := hg.ex
  have hme := mt_frz mono_bE stays_T (mt_b he)
  refine ⟨α, wz, g, h1, k1, ?_⟩
  have main : ∀ σ env w (Q : VK), SR Cl w → EnvR Cl w σ env → (match mComp ni f nc m (own.map (·.2)) env w.μ with
      | .ok y μ' => ∀ v w', w'.μ = μ' → SR Cl w' → Ext w w' → RelM Cl w' v y → Q v w'.H
      | .exc c fs μ' => EOk Cl E w c fs μ'
      | .bad => False) → tLcI wz g (bT X scope ifs) (bE X scope elt) (own.map (·.2)) σ w.H Q := by
    intro σ env w Q s hv hp
    refine h2 σ env w _ s hv ?_
    unfold mComp at hp
    cases en : ni env w.μ with
    | bad =>
      rw [en] at hp
      exact hp
    | exc c fs μ' =>
      rw [en] at hp
      exact hp
    | ok ds μ1 =>
      rw [en] at hp
      simp only [Res.bind] at hp ⊢
      intro w1 e1 s1 x1 zs Gd R wk
      by_cases cl : ds.length ≤ 16777216
      · rw [if_pos cl] at hp
        rw [← e1] at hp
        intro Da hD
        obtain ⟨vs, hvs⟩ : ∃ vs, vs = own.map (·.2) := ⟨_, rfl⟩
        rw [← hvs] at hp k2 ⊢
        let RP : Res (List D) → Prop := fun r => match r with
          | .ok ys μ' => ∀ (w2 : Wd) (us : List V), w2.μ = μ' → SR Cl w2 → Ext w1 w2 → w2.H Da = some (.lst us) → DenL Cl w2.F w2.H us ys → ¬ w2.F Da → (∀ p, w2.μ.live p → w2.ρ p ≠ Da) → Q (.ref Da) w2.H
          | .exc c fs μ' => EOk Cl E w1 c fs μ'
          | .bad => False
        have hRP : RP (compF f nc m (wipeE env vs) ds [] w1.μ) := by
          cases ec : compF f nc m (wipeE env vs) ds [] w1.μ with
          | bad =>
            rw [ec] at hp
            exact hp
          | exc c fs μ' =>
            rw [ec] at hp
            exact EOk.ext x1 hp
          | ok ys μ' =>
            rw [ec] at hp
            intro w2 us e2 s2 x2 hD2 hl nF aw
            obtain ⟨s3, x3, r3⟩ := SR.adopt s2 x2 hD2 (o := .lst (ys.map .d)) (u := .lst us) (relL_d hl) id nF aw hD
            subst e2
            exact hp _ ⟨w2.F, w2.rho Da, w2.H, w2.μ.new (.lst (ys.map .d))⟩ rfl s3 (x1.trans x3) r3
        refine ⟨fun i us H => ∃ (w2 : Wd) (acc : List D), w2.H = H ∧ SR Cl w2 ∧ Ext w1 w2 ∧ w2.H Da = some (.lst us) ∧ DenL Cl w2.F w2.H us acc ∧ ¬ w2.F Da ∧ (∀ p, w2.μ.live p → w2.ρ p ≠ Da) ∧ RP (compF f nc m (wipeE env vs) (ds.drop i) acc w2.μ), by rw [wk.len]; exact cl, ?_, ?_, ?_, ?_⟩
        · obtain ⟨s2, x2⟩ := s1.sub (F' := w1.F) (SubQ.new (o := .lst []) hD) (fun _ h => h) (fun _ h => .inl h) (fun a h => by
            rw [upd_ne fun e => s1.th a h (by rw [e]; exact hD)]
            exact s1.th a h)
          exact ⟨⟨w1.F, w1.ρ, upd w1.H Da (.lst []), w1.μ⟩, [], rfl, s2, x2, upd_same, .nil, fun h => s1.th Da h hD, fun p hp e => s1.nn hp (by rw [e]; exact hD), hRP⟩
        · rintro i us H ⟨w2, acc, rfl, s2, x2, _⟩
          exact wk.gd w2 x2 s2
        · rintro i z us H x H' hz hD2 ⟨w2, acc, rfl, s2, x2, hD3, hl, nF, aw, hrp⟩ hr
          have hlt := (List.getElem?_eq_some_iff.mp hz).1
          have hd : ds[i]? = some (ds[i]'(by rw [← wk.len]; exact hlt)) := by simp
          generalize (ds[i]'(by rw [← wk.len]; exact hlt)) = d at hd
          have hdr : ds.drop i = d :: ds.drop (i + 1) := by
            obtain ⟨h1, h2⟩ := List.getElem?_eq_some_iff.mp hd
            rw [← h2]
            exact List.drop_eq_getElem_cons h1
          rw [hdr, compF] at hrp
          obtain ⟨w3, rfl, e3, s3, x3, hx⟩ := wk.y i z d w2 x H' hz hd x2 s2 hr
          have x13 := x2.trans x3
          have he3 := wipeE_env (hv.ext (x1.trans x13) s) vs
          have keepD : ∀ {wa wb : Wd}, Ext wa wb → wa.H Da = some (.lst us) → ¬ wa.F Da → (∀ p, wa.μ.live p → wa.ρ p ≠ Da) → wb.H Da = some (.lst us) ∧ ¬ wb.F Da ∧ (∀ p, wb.μ.live p → wb.ρ p ≠ Da) := fun {wa wb} y a b c => by
            have nn : wa.H Da ≠ none := by rw [a]; nofun
            refine ⟨((y.keep Da nn c).eq b a nofun).trans a, fun h => ?_, y.away nn c⟩
            rcases y.new Da h with h1 | h1 | ⟨p, h1, h2⟩
            · exact b h1
            · exact nn h1
            · exact c p h1 h2
          obtain ⟨d1, d2, d3⟩ := keepD x3 hD3 nF aw
          cases ef : f d (wipeE env vs) with
          | none =>
            rw [ef] at hrp
            exact hrp.elim
          | some env1 =>
            rw [ef] at hrp
            simp only at hrp
            refine k2 d _ env1 x (wipe σ vs) w3 _ he3 hx ef fun σ1 he4 l1 n1 => ⟨?_, ?_⟩
            · rw [wipe_eq (vs := vs) (l1.trans rfl) n1]
              exact wipe_eq (by rw [wipe_length]) fun j hj => wipe_out hj
            · refine mt_use ht mono_bT s3 he4 ?_
              rw [e3]
              cases ec : nc env1 w2.μ with
              | bad =>
                rw [ec] at hrp
                exact hrp.elim
              | exc c fs μ' =>
                rw [ec] at hrp
                exact EOk.ext x13 hrp
              | ok b μ3 =>
                rw [ec] at hrp
                simp only [Res.bind] at hrp
                intro b' w4 e4 s4 x4 hb
                obtain rfl : b' = b := hb
                obtain ⟨f1, f2, f3⟩ := keepD x4 d1 d2 d3
                have x14 := x13.trans x4
                have hl4 : DenL Cl w4.F w4.H us acc := Paired.mapP hl fun _ _ h => h.mono (fun a h => x4.ff a (x3.ff a h)) ((x3.trans x4).keepF s2)
                cases b' with
                | false =>
                  rw [if_neg Bool.false_ne_true] at hrp ⊢
                  exact ⟨f1, w4, acc, rfl, s4, x14, f1, hl4, f2, f3, by rw [e4]; exact hrp⟩
                | true =>
                  rw [if_pos rfl] at hrp ⊢
                  refine mt_use hme mono_bE s4 (he4.ext x4 s3) ?_
                  rw [e4]
                  cases em : mFrz m env1 μ3 with
                  | bad =>
                    rw [em] at hrp
                    exact hrp.elim
                  | exc c fs μ' =>
                    rw [em] at hrp
                    exact EOk.ext x14 hrp
                  | ok y μ4 =>
                    rw [em] at hrp
                    intro v w5 e5 s5 x5 r5
                    cases y with
                    | r p => exact hrp.elim
                    | d y =>
                      simp only at hrp
                      obtain ⟨g1, g2, g3⟩ := keepD x5 f1 f2 f3
                      have hl5 : DenL Cl w5.F w5.H us acc := Paired.mapP hl4 fun _ _ h => h.mono x5.ff (x5.keepF s4)
                      obtain ⟨s6, kf⟩ := s5.upd_free (a := Da) (u := .lst (us ++ [v])) g2 g3 g1 plain_lst nofun
                      have x6 := (x14.trans x5).upd_new (a := Da) (u := .lst (us ++ [v])) hD
                      refine ⟨g1, ⟨w5.F, w5.ρ, upd w5.H Da (.lst (us ++ [v])), w5.μ⟩, acc ++ [y], rfl, s6, x6, upd_same, ?_, g2, g3, by rw [show (Wd.mk w5.F w5.ρ (upd w5.H Da (.lst (us ++ [v]))) w5.μ).μ = w5.μ from rfl, e5]; exact hrp⟩
                      have hl6 : DenL Cl w5.F (upd w5.H Da (.lst (us ++ [v]))) us acc := Paired.mapP hl5 fun _ _ h => h.mono (fun _ h => h) kf
                      exact hl6.app (.cons (Den.mono r5 (fun _ h => h) kf) .nil)
        · rintro us H hD2 ⟨w2, acc, rfl, s2, x2, hD3, hl, nF, aw, hrp⟩
          rw [wk.len, List.drop_length] at hrp
          exact hrp w2 us rfl s2 x2 hD3 hl nF aw
      · rw [if_neg cl] at hp
        exact hp.elim
  exact main
theorem me_comp {ifs : List Expr} {own : List (Str × Nat)} {pos : Pos} {ni : En → MS → Res (List D)} {f : Tgt} {nc : En → MS → Res Bool} {m : En → MS → Res MV} (hc : X.calm = true) (hN : X.N.Nodup) (hi : MI X Cl E tg iter ni) (ok : BlkOk X.N X.env.scope scope own)
    (hg : MGb X scope Cl (own.map (·.2)) tg f) (ht : MT Cl E BoolR Any (bT X scope ifs) nc) (he : Blks X scope fun B => ME B Cl E elt m) (hs : ∀ x, foldedSetIterable iter X.env x = pure x := by intro _; rfl) :
    ME X Cl E (.ListComp elt [⟨tg, iter, ifs, 0⟩] scope pos) (mComp ni f nc m (own.map (·.2))) := by
  obtain ⟨α, wz, g, h1, k1, h2⟩ := mt_lcI (m := m) hi hg ht he
  refine ME.of (pe_lcI hc hN h1 ok k1 pts_b pe_b hs) ?_
  intro σ env w s hv _
  cases q : mComp ni f nc m (own.map (·.2)) env w.μ with
  | bad => trivial
  | exc c fs μ' => exact fun hE => h2 σ env w _ s hv (by rw [q]; exact hE)
  | ok y μ' => exact h2 σ env w _ s hv (by rw [q]; exact fun v w' a b c d => ⟨w', rfl, a, b, c, d⟩)
/-- name = [.. for ..] -/
theorem mp_setC {i : Nat} {y : Str} {py spos : Pos} {ifs : List Expr} {own : List (Str × Nat)} {pos : Pos} {ni : En → MS → Res (List D)} {f : Tgt} {nc : En → MS → Res Bool} {m : En → MS → Res MV} (hc : X.calm = true) (hN : X.N.Nodup) (hy : X.N[i]? = some y) (hyl : X.env.scope.names.lookup y = some .local)
    (hsw : swapsWith (.ListComp elt [⟨tg, iter, ifs, 0⟩] scope pos) (some (.Name y py)) spos.line X.env = pure true) (hi : MI X Cl E tg iter ni) (ok : BlkOk X.N X.env.scope scope own)
    (hg : MGb X scope Cl (own.map (·.2)) tg f) (ht : MT Cl E BoolR Any (bT X scope ifs) nc) (he : Blks X scope fun B => ME B Cl E elt m) (hs : ∀ x, foldedSetIterable iter X.env x = pure x := by intro _; rfl) :
    MP X Cl E (.Assign [.Name y py] (.ListComp elt [⟨tg, iter, ifs, 0⟩] scope pos) spos) (sSet i (mComp ni f nc m (own.map (·.2)))) := by
  obtain ⟨α, wz, g, h1, k1, h2⟩ := mt_lcI (m := m) hi hg ht he
  refine ⟨_, (⟨fun pins s σ H D I h => (ps_setLc hc hN hy hyl hsw pi_sem ok pg_b pts_b pe_b hs).run pins s σ H D I (lcI_out h1 k1 pts_b pe_b h)⟩ : PS X _ (tAsg (tLcI wz g (bT X scope ifs) (bE X scope elt) (own.map (·.2))) (gName i))), fun D σ env w s he hp => ?_⟩
  refine h2 σ env w _ s he ?_
  unfold sSet at hp
  cases e : mComp ni f nc m (own.map (·.2)) env w.μ with
  | bad =>
    rw [e] at hp
    exact hp
  | exc c fs μ' =>
    rw [e] at hp
    exact hp
  | ok y μ' =>
    rw [e] at hp
    intro v w' e1 s' x r
    exact (SPost.ext x hp) _ w' e1 s' Ext.refl ((he.ext x s).set r)
end
end Q
end

set_option Elab.async false
set_option linter.all false
set_option maxRecDepth 100000
set_option maxHeartbeats 4000000
/-! Own lists and dicts: methods, items, places. -/
noncomputable section
open Classical
namespace Q
variable [Tables]
open PySem PySem.Spec PyProof.Rows L2 G
section
variable {X : Cx} {Cl : Str → Addr} {E : XK} {D' : Ends} {w w' : Wd} {e o i value : Expr} {es : List Expr}
/-! ### one way to prove rules -/
def RPost {α β : Type} (Cl : Str → Addr) (E : XK) (Rl : Wd → α → β → Prop) (w : Wd) (r : Res β) (Q : α → Hp → Prop) : Prop := match r with
  | .ok y μ' => ∀ v w', w'.μ = μ' → SR Cl w' → Ext w w' → Rl w' v y → Q v w'.H
  | .exc c fs μ' => EOk Cl E w c fs μ'
  | .bad => False
section
variable {α β γ δ : Type} {Ra : Wd → α → β → Prop} {Rb : Wd → γ → δ → Prop} {T : TG' α}
theorem RPost.ext {r : Res β} {Q : α → Hp → Prop} (x : Ext w w') (h : RPost Cl E Ra w r Q) : RPost Cl E Ra w' r Q := by
  cases r with
  | ok y μ' => exact fun v w2 e s z r => h v w2 e s (x.trans z) r
  | exc c fs μ' => exact EOk.ext x h
  | bad => exact h
theorem mt_of {n : En → MS → Res β} (h : ∀ σ env w Q, SR Cl w → EnvR Cl w σ env → RPost Cl E Ra w (n env w.μ) Q → T σ w.H Q) : MT Cl E Ra Any T n := fun σ env w s he _ => by
  cases q : n env w.μ with
  | bad => trivial
  | exc c fs μ' => exact fun hE => h σ env w _ s he (by rw [q]; exact hE)
  | ok y μ' => exact h σ env w _ s he (by rw [q]; exact fun v w' a b c d => ⟨w', rfl, a, b, c, d⟩)
theorem use_b {f : En → MS → Res β} {k : β → MS → Res δ} {σ : L2.St} {env : En} {Q : γ → Hp → Prop} {Q' : α → Hp → Prop} (h : MT Cl E Ra Any T f) (mo : Mono T) (s : SR Cl w) (he : EnvR Cl w σ env) (hp : RPost Cl E Rb w ((f env w.μ).bind k) Q)
    (hk : ∀ y v w', SR Cl w' → Ext w w' → EnvR Cl w' σ env → Ra w' v y → RPost Cl E Rb w' (k y w'.μ) Q → Q' v w'.H) : T σ w.H Q' := by
  refine mt_use h mo s he ?_
  cases e : f env w.μ with
  | bad =>
    rw [e] at hp
    exact hp
  | exc c fs μ' =>
    rw [e] at hp
    exact hp
  | ok y μ' =>
    rw [e] at hp
    exact fun v w' e1 s' x r => hk y v w' s' x (he.ext x s) r (by rw [e1]; exact RPost.ext x hp)
theorem RPost.done {y : β} {v : α} {Q : α → Hp → Prop} (s : SR Cl w) (h : RPost Cl E Ra w (.ok y w.μ) Q) (r : Ra w v y) : Q v w.H := h v w rfl s Ext.refl r
end
/-! ### what stands at an own object -/
theorem SR.at_ (s : SR Cl w) {p : R} {m : MO} (h : w.μ.get p = some m) (n : ¬ m.isF) : w.μ.live p ∧ ∃ u, w.H (w.ρ p) = some u ∧ Fits Cl w u m := by
  refine ⟨⟨m, h, n⟩, ?_⟩
  rcases s.obj p m h with ⟨d, e, _⟩ | h
  · exact absurd (isF_frz e) n
  · exact h
theorem SR.lst (s : SR Cl w) {p : R} {ms : List MV} (h : w.μ.get p = some (.lst ms)) : w.μ.live p ∧ ∃ us, w.H (w.ρ p) = some (.lst us) ∧ RelL Cl w us ms := by
  obtain ⟨l, u, h1, h2⟩ := s.at_ h id
  cases u <;> first
    | exact h2.elim
    | exact ⟨l, _, h1, h2⟩
theorem SR.dct (s : SR Cl w) {p : R} {ms : List (Key × MV)} (h : w.μ.get p = some (.dct ms)) : w.μ.live p ∧ ∃ us, w.H (w.ρ p) = some (.dK us) ∧ us.map (·.1) = ms.map (·.1) ∧ RelL Cl w (us.map (·.2)) (ms.map (·.2)) := by
  obtain ⟨l, u, h1, h2⟩ := s.at_ h id
  cases u <;> first
    | exact h2.elim
    | exact ⟨l, _, h1, h2⟩
theorem SR.ins (s : SR Cl w) {p : R} {c : Str} {ms : List (Str × MV)} (h : w.μ.get p = some (.ins c ms)) : w.μ.live p ∧ ∃ dx us, w.H (w.ρ p) = some (.ins (Cl c) dx us) ∧ us.map (·.1) = ms.map (·.1) ∧ RelL Cl w (us.map (·.2)) (ms.map (·.2)) := by
  obtain ⟨l, u, h1, h2⟩ := s.at_ h id
  cases u <;> first
    | exact h2.elim
    | (obtain ⟨rfl, h2⟩ := h2; exact ⟨l, _, _, h1, h2⟩)
theorem RelL.app {vs us : List V} {ds es : List MV} (h : RelL Cl w vs ds) (k : RelL Cl w us es) : RelL Cl w (vs ++ us) (ds ++ es) := by
  induction h with
  | nil => exact k
  | cons h t ih => exact .cons h ih
theorem RelL.get {vs : List V} {ms : List MV} (h : RelL Cl w vs ms) {j : Nat} {d : MV} (e : ms[j]? = some d) : ∃ v, vs[j]? = some v ∧ RelM Cl w v d := by
  have hl := Paired.length h
  have hj := (List.getElem?_eq_some_iff.mp e).1
  exact ⟨vs[j], by simp, paired_get h j _ _ (by simp) e⟩
theorem RelL.atI {vs : List V} {ms : List MV} (h : RelL Cl w vs ms) {i : Int} {d : MV} (e : L2.atI ms i = some d) : ∃ v, L2.atI vs i = some v ∧ RelM Cl w v d := by
  unfold L2.atI at e ⊢
  rw [Paired.length h]
  obtain ⟨j, e1, e2⟩ := Option.bind_eq_some_iff.mp e
  obtain ⟨v, e3, e4⟩ := h.get e2
  exact ⟨v, by rw [e1]; exact e3, e4⟩
theorem RelL.set {vs : List V} {ms : List MV} (h : RelL Cl w vs ms) (j : Nat) {v : V} {m : MV} (r : RelM Cl w v m) : RelL Cl w (vs.set j v) (ms.set j m) := by
  induction h generalizing j with
  | nil => exact .nil
  | cons h t ih =>
    cases j with
    | zero => exact .cons r t
    | succ j => exact .cons h (ih j)
theorem RelL.dropLast {vs : List V} {ms : List MV} (h : RelL Cl w vs ms) : RelL Cl w vs.dropLast ms.dropLast := by
  induction h with
  | nil => exact .nil
  | @cons v m vs ms h t ih =>
    cases t with
    | nil => exact .nil
    | cons h' t' => exact .cons h ih
theorem RelL.eraseIdx {vs : List V} {ms : List MV} (h : RelL Cl w vs ms) (j : Nat) : RelL Cl w (vs.eraseIdx j) (ms.eraseIdx j) := by
  induction h generalizing j with
  | nil => exact .nil
  | cons h t ih =>
    cases j with
    | zero => exact t
    | succ j => exact .cons h (ih j)
theorem RelL.insertIdx {vs : List V} {ms : List MV} (h : RelL Cl w vs ms) (j : Nat) {v : V} {m : MV} (r : RelM Cl w v m) : RelL Cl w (vs.insertIdx j v) (ms.insertIdx j m) := by
  induction h generalizing j with
  | nil =>
    cases j with
    | zero => exact .cons r .nil
    | succ j => exact .nil
  | cons h t ih =>
    cases j with
    | zero => exact .cons r (.cons h t)
    | succ j => exact .cons h (ih j)
/-! ### methods of own lists -/
theorem rel_one {vs : List V} {z : MV} (h : RelL Cl w vs [z]) : ∃ v, vs = [v] ∧ RelM Cl w v z := by
  cases h with
  | cons h t =>
    cases t
    exact ⟨_, rfl, h⟩
abbrev LM := MS → List MV → List MV → Option (MV × List MV)
def LMut (Cl : Str → Addr) (r : V → List V → Hp → VK → Prop) (f : LM) : Prop := ∀ (w : Wd) (p : R) (us : List V) (xs : List MV) (vs : List V) (as : List MV) (y : MV) (xs' : List MV) (Q : VK), SR Cl w → w.H (w.ρ p) = some (.lst us) → RelL Cl w us xs → RelL Cl w vs as → f w.μ xs as = some (y, xs') →
  (∀ x us', RelL Cl w us' xs' → RelM Cl w x y → Q x (upd w.H (w.ρ p) (.lst us'))) → r (.ref (w.ρ p)) vs w.H Q
def mLM (f : LM) (mo : En → MS → Res MV) (ns : En → MS → Res (List MV)) : En → MS → Res MV := fun env μ => (mo env μ).bind fun x μ1 => match x with
  | .r p => match μ1.get p with
    | some (.lst _) => (ns env μ1).bind fun as μ2 => match μ2.get p with
      | some (.lst xs) => match f μ2 xs as with
        | some (y, xs') => .ok y (μ2.set (.lst xs') p)
        | none => .bad
      | _ => .bad
    | _ => .bad
  | .d _ => .bad
theorem lm_fin {r : V → List V → Hp → VK → Prop} {f : LM} (hf : LMut Cl r f) {p : R} {as : List MV} {vs : List V} {Q : VK} (s : SR Cl w) (ra : RelL Cl w vs as) (hp : RPost Cl E (RelM Cl) w (match w.μ.get p with
      | some (.lst xs) => match f w.μ xs as with
        | some (y, xs') => .ok y (w.μ.set (.lst xs') p)
        | none => .bad
      | _ => .bad) Q) : r (.ref (w.ρ p)) vs w.H Q := by
  cases e : w.μ.get p with
  | none =>
    simp only [e] at hp
    exact hp.elim
  | some m =>
    cases m with
    | lst xs =>
      simp only [e] at hp
      cases e2 : f w.μ xs as with
      | none =>
        simp only [e2] at hp
        exact hp.elim
      | some z =>
        obtain ⟨y, xs'⟩ := z
        simp only [e2] at hp
        obtain ⟨lv, us, hu, ru⟩ := s.lst e
        refine hf w p us xs vs as y xs' Q s hu ru ra e2 fun x us' r1 r2 => ?_
        obtain ⟨s', x'⟩ := s.write lv (u := .lst us') (o := .lst xs') r1 id
        exact hp x _ rfl s' x' (r2.ext x' s)
    | _ =>
      simp only [e] at hp
      exact hp.elim
theorem me_lm {name : Str} {apos cpos : Pos} {id : String} {r : V → List V → Hp → VK → Prop} {f : LM} {mo : En → MS → Res MV} {ns : En → MS → Res (List MV)} (slot : Slot "list" name id) (hty : typeOf (.builtin id) = pure (.type "method_descriptor")) (hm : MtR X id r) (hf : LMut Cl r f) (ho : ME X Cl E o mo) (ha : MA X Cl E (e :: es) ns)
    (hbase : attributeBase o name X.env (eval o X.env) = eval o X.env := by rfl)
    (hfew : ((backTo cpos (starEach (e :: es) X.env)).all (fun x => !x.1) && (backToKw cpos (keywordEach [] X.env)).all (fun x => x.1.isSome)
      && decide ((e :: es).length + ([] : List Keyword).length + (if ([] : List Keyword).isEmpty then 0 else 1) < 30)) = true := by rfl)
    (hline : (apos.endLine == cpos.line) = true := by rfl) (hs : starEach (e :: es) X.env = (false, eval e X.env) :: starEach es X.env := by rfl) (hplain : (backTo cpos (starEach es X.env)).any (·.1) = false := by rfl) :
    ME X Cl E (.Call (.Attribute o name apos) (e :: es) [] cpos) (mLM f mo ns) := ME.of (pe_bmL slot hty hm pe_sem pa_sem hbase hfew hline hs hplain) <| mt_of fun σ env w Q s he hp => by
  unfold mLM at hp
  refine use_b (T := semE X o) ho mono_E s he hp fun x v w1 s1 x1 he1 rx hp => ?_
  cases x with
  | d d => exact hp.elim
  | r p =>
    obtain ⟨rfl, _⟩ := rx
    cases eg : w1.μ.get p with
    | none =>
      simp only [eg] at hp
      exact hp.elim
    | some m =>
      cases m with
      | lst xs =>
        simp only [eg] at hp
        obtain ⟨lv, us, hu, ru⟩ := s1.lst eg
        refine ⟨⟨_, us, rfl, by rw [hu]; rfl⟩, ?_⟩
        refine use_b ha mono_A s1 he1 hp fun as vs w2 s2 x2 he2 ra hp => ?_
        rw [← (x2.rho p _ eg).1]
        exact lm_fin hf s2 ra hp
      | _ =>
        simp only [eg] at hp
        exact hp.elim
def mLM0 (f : LM) (mo : En → MS → Res MV) : En → MS → Res MV := fun env μ => (mo env μ).bind fun x μ1 => match x with
  | .r p => match μ1.get p with
      | some (.lst xs) => match f μ1 xs [] with
        | some (y, xs') => .ok y (μ1.set (.lst xs') p)
        | none => .bad
      | _ => .bad
  | .d _ => .bad
theorem me_lm0 {name : Str} {apos cpos : Pos} {id : String} {r : V → List V → Hp → VK → Prop} {f : LM} {mo : En → MS → Res MV} (slot : Slot "list" name id) (hty : typeOf (.builtin id) = pure (.type "method_descriptor")) (hm : MtR X id r) (hf : LMut Cl r f) (ho : ME X Cl E o mo)
    (hbase : attributeBase o name X.env (eval o X.env) = eval o X.env := by rfl) (hline : (apos.endLine == cpos.line) = true := by rfl) : ME X Cl E (.Call (.Attribute o name apos) [] [] cpos) (mLM0 f mo) := ME.of (pe_bmL0 slot hty hm pe_sem hbase hline) <| mt_of fun σ env w Q s he hp => by
  unfold mLM0 at hp
  refine use_b (T := semE X o) ho mono_E s he hp fun x v w1 s1 x1 he1 rx hp => ?_
  cases x with
  | d d => exact hp.elim
  | r p =>
    obtain ⟨rfl, _⟩ := rx
    refine ⟨?_, lm_fin hf s1 .nil hp⟩
    cases eg : w1.μ.get p with
    | none =>
      simp only [eg] at hp
      exact hp.elim
    | some m =>
      cases m with
      | lst xs =>
        obtain ⟨lv, us, hu, ru⟩ := s1.lst eg
        exact ⟨_, us, rfl, by rw [hu]; rfl⟩
      | _ =>
        simp only [eg] at hp
        exact hp.elim
def lAppend : LM := fun _ xs as => match as with
  | [y] => if xs.length < sizeLine then some (.d .non, xs ++ [y]) else none
  | _ => none
theorem lm_append : LMut Cl rAppend lAppend := fun w p us xs vs as y xs' Q s hu ru ra e k => by
  match as, ra, e with
  | [z], ra, e =>
    obtain ⟨v, rfl, h⟩ := rel_one ra
    unfold lAppend at e
    simp only at e
    split at e
    · rename_i hc
      cases e
      exact ⟨_, us, v, rfl, rfl, hu, by rw [Paired.length ru]; exact hc, k .non _ (ru.app (.cons h .nil)) .non⟩
    · cases e
def lPop : LM := fun _ xs as => match as with
  | [] => (xs[xs.length - 1]?).map fun y => (y, xs.dropLast)
  | _ => none
theorem lm_pop : LMut Cl rPop lPop := fun w p us xs vs as y xs' Q s hu ru ra e k => by
  match as, ra, e with
  | [], .nil, e =>
    obtain ⟨y', e1, e2⟩ := Option.map_eq_some_iff.mp e
    cases e2
    obtain ⟨v, h1, h2⟩ := ru.get e1
    exact ⟨_, us, v, rfl, rfl, hu, by rw [Paired.length ru]; exact h1, k v _ ru.dropLast h2⟩
def lPopAt : LM := fun _ xs as => match as with
  | [.d (.int i)] => if -(2 ^ 63) ≤ i ∧ i < 2 ^ 63 then (seqIndex? i xs.length).bind fun k => (xs[k]?).map fun y => (y, xs.eraseIdx k) else none
  | _ => none
theorem lm_popAt : LMut Cl rPopAt lPopAt := fun w p us xs vs as y xs' Q s hu ru ra e k => by
  match as, ra, e with
  | [.d (.int i)], ra, e =>
    obtain ⟨v, rfl, h⟩ := rel_one ra
    unfold lPopAt at e
    simp only at e
    split at e
    · rename_i hc
      obtain ⟨j, e1, e2⟩ := Option.bind_eq_some_iff.mp e
      obtain ⟨y', e3, e4⟩ := Option.map_eq_some_iff.mp e2
      cases e4
      obtain ⟨u, h1, h2⟩ := ru.get e3
      cases h
      exact ⟨_, us, i, j, u, rfl, rfl, hu, hc.1, hc.2, by rw [Paired.length ru]; exact e1, h1, k u _ (ru.eraseIdx j) h2⟩
    · cases e
def lExt : LM := fun μ xs as => match as with
  | [z] => match vw μ z with
    | some (.lst zs) => if xs.length + zs.length ≤ sizeLine then some (.d .non, xs ++ zs.map .d) else none
    | _ => none
  | _ => none
theorem lm_ext : LMut Cl rExtU lExt := fun w p us xs vs as y xs' Q s hu ru ra e k => by
  match as, ra, e with
  | [z], ra, e =>
    obtain ⟨v, rfl, h⟩ := rel_one ra
    unfold lExt at e
    simp only at e
    cases ev : vw w.μ z with
    | none =>
      rw [ev] at e
      cases e
    | some d =>
      rw [ev] at e
      cases d with
      | lst zs =>
        simp only at e
        split at e
        · rename_i hc
          cases e
          obtain ⟨b, bs, rfl, hb, lb⟩ := h.view s ev
          have := den_len lb
          exact ⟨_, b, us, bs, rfl, rfl, hu, hb, by rw [Paired.length ru, this]; exact hc, k .non _ (ru.app (relL_d lb)) .non⟩
        · cases e
      | _ => cases e
/-! ### the place of an item -/
def valM (kvs : List (Key × MV)) (k : Key) : Option MV := (kvs.find? fun kv => decide (kv.1 = k)).map (·.2)
def putM (kvs : List (Key × MV)) (k : Key) (m : MV) : List (Key × MV) := if (kvs.any fun kv => decide (kv.1 = k)) = true then kvs.map (fun kv => if kv.1 = k then (kv.1, m) else kv) else kvs ++ [(k, m)]
theorem valM_rel {k : Key} : ∀ {kvs : List (Key × V)} {xs : List (Key × MV)}, kvs.map (·.1) = xs.map (·.1) → RelL Cl w (kvs.map (·.2)) (xs.map (·.2)) →
    (∀ d, valM xs k = some d → ∃ v, valV kvs k = some v ∧ RelM Cl w v d) ∧ (valV kvs k).isSome = (valM xs k).isSome
  | [], [], _, _ => ⟨nofun, rfl⟩
  | [], _ :: _, e, _ => by simp at e
  | _ :: _, [], e, _ => by simp at e
  | (k1, v1) :: kvs, (k2, d2) :: xs, e, .cons h t => by
    obtain ⟨e1, e2⟩ : k1 = k2 ∧ kvs.map (·.1) = xs.map (·.1) := by simpa using e
    subst e1
    obtain ⟨i1, i2⟩ := valM_rel (k := k) e2 t
    by_cases c : k1 = k
    · subst c
      have a1 : valV ((k1, v1) :: kvs) k1 = some v1 := by simp [valV]
      have a2 : valM ((k1, d2) :: xs) k1 = some d2 := by simp [valM]
      rw [a1, a2]
      exact ⟨fun d hd => by cases hd; exact ⟨v1, rfl, h⟩, rfl⟩
    · have a1 : valV ((k1, v1) :: kvs) k = valV kvs k := by simp [valV, c]
      have a2 : valM ((k1, d2) :: xs) k = valM xs k := by simp [valM, c]
      rw [a1, a2]
      exact ⟨i1, i2⟩
theorem put_map {k : Key} {v : V} {m : MV} (r : RelM Cl w v m) : ∀ {kvs : List (Key × V)} {xs : List (Key × MV)}, kvs.map (·.1) = xs.map (·.1) → RelL Cl w (kvs.map (·.2)) (xs.map (·.2)) →
    ((kvs.any fun kv => decide (kv.1 = k)) = (xs.any fun kv => decide (kv.1 = k))) ∧ (kvs.map (fun kv => if kv.1 = k then (kv.1, v) else kv)).map (·.1) = (xs.map (fun kv => if kv.1 = k then (kv.1, m) else kv)).map (·.1) ∧
      RelL Cl w ((kvs.map (fun kv => if kv.1 = k then (kv.1, v) else kv)).map (·.2)) ((xs.map (fun kv => if kv.1 = k then (kv.1, m) else kv)).map (·.2))
  | [], [], _, _ => ⟨rfl, rfl, .nil⟩
  | [], _ :: _, e, _ => by simp at e
  | _ :: _, [], e, _ => by simp at e
  | (k1, v1) :: kvs, (k2, d2) :: xs, e, .cons h t => by
    obtain ⟨e1, e2⟩ : k1 = k2 ∧ kvs.map (·.1) = xs.map (·.1) := by simpa using e
    subst e1
    obtain ⟨i1, i2, i3⟩ := put_map r (k := k) e2 t
    refine ⟨by rw [List.any_cons, List.any_cons, i1], ?_, ?_⟩
    · rw [List.map_cons, List.map_cons, List.map_cons, List.map_cons, i2]
      by_cases c : k1 = k
      · simp only [if_pos c]
      · simp only [if_neg c]
    · rw [List.map_cons, List.map_cons, List.map_cons, List.map_cons]
      refine .cons ?_ i3
      by_cases c : k1 = k
      · simp only [if_pos c]
        exact r
      · simp only [if_neg c]
        exact h
theorem putM_rel {k : Key} {v : V} {m : MV} {kvs : List (Key × V)} {xs : List (Key × MV)} (r : RelM Cl w v m) (h1 : kvs.map (·.1) = xs.map (·.1)) (h2 : RelL Cl w (kvs.map (·.2)) (xs.map (·.2))) :
    (putK kvs k v).map (·.1) = (putM xs k m).map (·.1) ∧ RelL Cl w ((putK kvs k v).map (·.2)) ((putM xs k m).map (·.2)) := by
  obtain ⟨a, b, c⟩ := put_map r (k := k) h1 h2
  unfold putK putM
  rw [a]
  by_cases q : (xs.any fun kv => decide (kv.1 = k)) = true
  · rw [if_pos q, if_pos q]
    exact ⟨b, c⟩
  · rw [if_neg q, if_neg q]
    refine ⟨by rw [List.map_append, List.map_append, h1]; rfl, ?_⟩
    rw [List.map_append, List.map_append]
    exact RelL.app h2 (.cons r .nil)
/-- o[i], of own or frozen -/
def ixM (μ : MS) : MV → MV → Option MV
  | .d a, .d j => match ixD a j with
    | some (.v x) => some (.d x)
    | _ => none
  | .r p, .d j => match μ.get p, j with
    | some (.lst xs), .int i => L2.atI xs i
    | some (.dct kvs), j => (keyD j).bind fun k => valM kvs k
    | some (.frz a), j => match ixD a j with
      | some (.v x) => some (.d x)
      | _ => none
    | _, _ => none
  | _, _ => none
theorem ixD_sound {v u : V} {a j : D} {x : D} {Q : VK} (s : SR Cl w) (hv : Den Cl w.F w.H v a) (hu : Den Cl w.F w.H u j) (e : ixD a j = some (.v x)) (k : ∀ z, Den Cl w.F w.H z x → Q z w.H) : rIxU v u w.H Q := by
  have main : ∀ z H', SubQ w.H H' → OutR Cl w.F w.H H' z (.v x) → True := fun _ _ _ _ => trivial
  cases a with
  | str z =>
    cases j <;> simp only [ixD, reduceCtorEq] at e
    split at e
    · rename_i hc
      obtain ⟨c, e1, e2⟩ := Option.map_eq_some_iff.mp e
      cases e2
      cases hv
      cases hu
      exact .inl ⟨_, _, c, rfl, rfl, hc, e1, k _ (.str _)⟩
    · cases e
  | lst xs =>
    cases j <;> simp only [ixD, reduceCtorEq] at e
    obtain ⟨c, e1, e2⟩ := Option.map_eq_some_iff.mp e
    cases e2
    obtain ⟨b, vs, rfl, hb, lb⟩ := hv.N
    cases hu
    obtain ⟨z, h1, h2⟩ := lb.atI e1
    exact .inr (.inl ⟨b, vs, _, z, rfl, rfl, by rw [hb]; rfl, h1, k z h2⟩)
  | tup xs =>
    cases j <;> simp only [ixD, reduceCtorEq] at e
    obtain ⟨c, e1, e2⟩ := Option.map_eq_some_iff.mp e
    cases e2
    obtain ⟨b, vs, rfl, hb, lb⟩ := hv.N
    cases hu
    obtain ⟨z, h1, h2⟩ := lb.atI e1
    exact .inr (.inr (.inl ⟨b, vs, _, z, rfl, rfl, by rw [hb]; rfl, h1, k z h2⟩))
  | dct kvs =>
    obtain ⟨q, e1, e2⟩ := Option.bind_eq_some_iff.mp (show (keyD j).bind (fun k => (valD kvs k).map Out.v) = some (.v x) by cases j <;> exact e)
    obtain ⟨c, e3, e4⟩ := Option.map_eq_some_iff.mp e2
    cases e4
    obtain ⟨b, vs, rfl, hb, h1, h2⟩ := hv.N
    obtain ⟨z, h3, h4⟩ := (valD_rel (k := q) h1 h2).1 _ e3
    exact .inr (.inr (.inr ⟨b, vs, q, z, rfl, key_den hu.N e1, hb, h3, k z h4⟩))
  | non => cases j <;> cases e
  | bl b => cases j <;> cases e
  | int i => cases j <;> cases e
  | ins c fs => cases j <;> cases e
  | cls c => cases j <;> cases e
theorem ixM_sound {v u : V} {x y z : MV} {Q : VK} (s : SR Cl w) (hv : RelM Cl w v x) (hu : RelM Cl w u y) (e : ixM w.μ x y = some z) (k : ∀ a, RelM Cl w a z → Q a w.H) : rIxU v u w.H Q := by
  cases y with
  | r q => cases x <;> cases e
  | d j =>
    cases x with
    | d a =>
      unfold ixM at e
      simp only at e
      cases e1 : ixD a j with
      | none =>
        rw [e1] at e
        cases e
      | some o =>
        rw [e1] at e
        cases o with
        | n o => cases e
        | v x =>
          cases e
          exact ixD_sound s hv hu e1 fun z hz => k z hz
    | r p =>
      obtain ⟨rfl, o, ho⟩ := hv
      unfold ixM at e
      simp only [ho] at e
      cases o with
      | lst xs =>
        cases j <;> simp only [reduceCtorEq] at e
        obtain ⟨_, us, hus, ru⟩ := s.lst ho
        cases hu
        obtain ⟨a, h1, h2⟩ := ru.atI e
        exact .inr (.inl ⟨_, us, _, a, rfl, rfl, by rw [hus]; rfl, h1, k a h2⟩)
      | dct kvs =>
        have e : ((keyD j).bind fun k => valM kvs k) = some z := by cases j <;> exact e
        obtain ⟨q, e1, e2⟩ := Option.bind_eq_some_iff.mp e
        obtain ⟨_, us, hus, h1, h2⟩ := s.dct ho
        obtain ⟨a, h3, h4⟩ := (valM_rel (k := q) h1 h2).1 _ e2
        exact .inr (.inr (.inr ⟨_, us, q, a, rfl, key_den (Den.N hu) e1, by rw [hus]; rfl, h3, k a h4⟩))
      | frz a =>
        have e : (match ixD a j with
          | some (.v x) => some (MV.d x)
          | _ => none) = some z := by cases j <;> exact e
        have hd : Den Cl w.F w.H (.ref (w.ρ p)) a := by
          rcases s.obj p _ ho with ⟨d', e', h⟩ | ⟨u', _, h⟩
          · cases e'
            exact h
          · cases u' <;> exact h.elim
        cases e1 : ixD a j with
        | none =>
          rw [e1] at e
          cases e
        | some o =>
          rw [e1] at e
          cases o with
          | n o => cases e
          | v x =>
            cases e
            exact ixD_sound s hd hu e1 fun z hz => k z hz
      | ins c fs => cases j <;> cases e
def mIx (ma mb : En → MS → Res MV) : En → MS → Res MV := fun env μ => (ma env μ).bind fun x μ1 => (mb env μ1).bind fun y μ2 => match ixM μ2 x y with
  | some z => .ok z μ2
  | none => .bad
theorem me_ix {a b : Expr} {pos : Pos} {ma mb : En → MS → Res MV} (hr : IxR X rIxU) (ha : ME X Cl E a ma) (hb : ME X Cl E b mb) (hs : NoSl b) : ME X Cl E (.Subscript a b pos) (mIx ma mb) := ME.of (pe_ix hr pe_sem pe_sem hs) <| mt_of fun σ env w Q s he hp => by
  refine use_b (T := semE X a) ha mono_E s he hp fun x v w1 s1 x1 he1 rx hp => ?_
  refine use_b hb mono_E s1 he1 hp fun y u w2 s2 x2 he2 ry hp => ?_
  cases e : ixM w2.μ x y with
  | none =>
    simp only [e] at hp
    exact hp.elim
  | some z =>
    simp only [e] at hp
    exact ixM_sound s2 (rx.ext x2 s1) ry e fun a r => RPost.done s2 hp r
end
end Q
end

set_option Elab.async false
set_option linter.all false
set_option maxRecDepth 100000
set_option maxHeartbeats 4000000
/-! Stores: items, places, in-place operations. -/
noncomputable section
open Classical
namespace Q
variable [Tables]
open PySem PySem.Spec PyProof.Rows L2 G
section
variable {X : Cx} {Cl : Str → Addr} {E : XK} {D' : Ends} {w w' : Wd} {e o i value : Expr} {es : List Expr}
theorem SPost.done {σ : L2.St} {env : En} (s : SR Cl w) (he : EnvR Cl w σ env) (h : SPost Cl E D' w (.nx env w.μ)) : D'.nx σ w.H := h σ w rfl s Ext.refl he
/-- an own object is written, then on -/
theorem SPost.put {σ : L2.St} {env : En} {p : R} {u : HO} {m : MO} (s : SR Cl w) (lv : w.μ.live p) (he : EnvR Cl w σ env) (hf : Fits Cl w u m) (n : ¬ m.isF) (h : SPost Cl E D' w (.nx env (w.μ.set m p))) : D'.nx σ (upd w.H (w.ρ p) u) := by
  obtain ⟨s', x'⟩ := s.write lv (u := u) (o := m) hf n
  exact h σ _ rfl s' x' (he.ext x' s)
/-! ### o[i] = v -/
def putL (p : MV) (i : MV) (v : MV) (μ : MS) : Option MS := match p, i with
  | .r p, .d (.int k) => match μ.get p with
    | some (.lst xs) => (ixN xs.length k).map fun j => μ.set (.lst (xs.set j v)) p
    | _ => none
  | _, _ => none
def putD (p : MV) (i : MV) (v : MV) (μ : MS) : Option MS := match p, i with
  | .r p, .d j => match μ.get p with
    | some (.dct kvs) => (keyD j).bind fun k => if kvs.length < sizeLine then some (μ.set (.dct (putM kvs k v)) p) else none
    | _ => none
  | _, _ => none
theorem putL_sound {x y z : V} {p i v : MV} {μ' : MS} {σ : L2.St} {env : En} (s : SR Cl w) (he : EnvR Cl w σ env) (hx : RelM Cl w x p) (hy : RelM Cl w y i) (hz : RelM Cl w z v) (e : putL p i v w.μ = some μ') (h : SPost Cl E D' w (.nx env μ')) : rSetL x y z w.H fun H => D'.nx σ H := by
  match p, i, e with
  | .r p, .d (.int k), e =>
    unfold putL at e
    simp only at e
    cases eg : w.μ.get p with
    | none =>
      simp only [eg] at e
      cases e
    | some m =>
      cases m with
      | lst xs =>
        simp only [eg] at e
        obtain ⟨j, e1, rfl⟩ := Option.map_eq_some_iff.mp e
        obtain ⟨lv, us, hu, ru⟩ := s.lst eg
        cases hy
        exact ⟨_, us, k, j, hx.1, rfl, hu, by rw [Paired.length ru]; exact e1, SPost.put s lv he (show Fits Cl w (.lst (us.set j z)) (.lst (xs.set j v)) from ru.set j hz) id h⟩
      | _ =>
        simp only [eg] at e
        cases e
theorem putD_sound {x y z : V} {p i v : MV} {μ' : MS} {σ : L2.St} {env : En} (s : SR Cl w) (he : EnvR Cl w σ env) (hx : RelM Cl w x p) (hy : RelM Cl w y i) (hz : RelM Cl w z v) (e : putD p i v w.μ = some μ') (h : SPost Cl E D' w (.nx env μ')) :
    ∃ a kvs k, x = .ref a ∧ w.H a = some (.dK kvs) ∧ y = kV k ∧ kvs.length < sizeLine ∧ D'.nx σ (upd w.H a (.dK (putK kvs k z))) := by
  match p, i, e with
  | .r p, .d j, e =>
    unfold putD at e
    simp only at e
    cases eg : w.μ.get p with
    | none =>
      simp only [eg] at e
      cases e
    | some m =>
      cases m with
      | dct kvs =>
        simp only [eg] at e
        obtain ⟨k, e1, e2⟩ := Option.bind_eq_some_iff.mp e
        split at e2
        · rename_i hc
          cases e2
          obtain ⟨lv, us, hu, h1, h2⟩ := s.dct eg
          have hl : us.length = kvs.length := by simpa using congrArg List.length h1
          exact ⟨_, us, k, hx.1, hu, key_den (Den.N hy) e1, by rw [hl]; exact hc, SPost.put s lv he (show Fits Cl w (.dK (putK us k z)) (.dct (putM kvs k v)) from putM_rel hz h1 h2) id h⟩
        · cases e2
      | _ =>
        simp only [eg] at e
        cases e
def sPut (f : MV → MV → MV → MS → Option MS) (mv mo mi : En → MS → Res MV) : Mir := fun env μ => wth (mv env μ) fun z μ1 => wth (mo env μ1) fun x μ2 => wth (mi env μ2) fun y μ3 => match f x y z μ3 with
  | some μ4 => .nx env μ4
  | none => .bad
theorem mp_setL {pos pos' : Pos} {mv mo mi : En → MS → Res MV} (hv : ME X Cl E value mv) (ho : ME X Cl E o mo) (hi : ME X Cl E i mi)
    (ha : ∀ v, assign (.Subscript o i pos) X.env v = (do
      let ov ← holding [v] (eval o X.env)
      let iv ← holding [v, ov] (eval i X.env)
      standAt pos
      holding [v, ov, iv] (setItem ov iv v)
      release [v, ov, iv] []) := by intro _; rfl) (hs : swapsWithSole [.Subscript o i pos] value pos'.line X.env = pure false := by rfl) (hw : swappedStores [.Subscript o i pos] value X.env = pure none := by rfl)
    (h1 : (assignEach [.Subscript o i pos] X.env).map (·.2) = [assign (.Subscript o i pos) X.env] := by rfl) : MP X Cl E (.Assign [.Subscript o i pos] value pos') (sPut putL mv mo mi) :=
  ⟨_, ps_asg pe_sem (pg_sub pe_sem pe_sem set_list ha) hs hw h1, fun D σ env w s he hp => by
    refine use_wth (T := semE X value) hv mono_E s he hp fun z a w1 s1 x1 he1 rz hp => ?_
    refine use_wth (T := semE X o) ho mono_E s1 he1 hp fun x b w2 s2 x2 he2 rx hp => ?_
    refine use_wth (T := semE X i) hi mono_E s2 he2 hp fun y c w3 s3 x3 he3 ry hp => ?_
    cases e : putL x y z w3.μ with
    | none =>
      simp only [e] at hp
      exact hp.elim
    | some μ4 =>
      simp only [e] at hp
      exact putL_sound s3 he3 (rx.ext x3 s2) ry ((rz.ext x2 s1).ext x3 s2) e hp⟩
theorem mp_putD {pos pos' : Pos} {mv mo mi : En → MS → Res MV} (hu : X.A.units + 1 < cLine) (ho : ME X Cl E o mo) (hi : ME X Cl E i mi) (hv : ME X Cl E value mv) (hs : swapsWith value (some (.Subscript o i pos')) pos.line X.env = pure false := by rfl) :
    MP X Cl E (.Assign [.Subscript o i pos'] value pos) (sPut putD mv mo mi) :=
  ⟨_, ps_dputU hu pe_sem pe_sem pe_sem hs, fun D σ env w s he hp => by
    refine use_wth (T := semE X value) hv mono_E s he hp fun z a w1 s1 x1 he1 rz hp => ?_
    refine use_wth (T := semE X o) ho mono_E s1 he1 hp fun x b w2 s2 x2 he2 rx hp => ?_
    refine use_wth (T := semE X i) hi mono_E s2 he2 hp fun y c w3 s3 x3 he3 ry hp => ?_
    cases e : putD x y z w3.μ with
    | none =>
      simp only [e] at hp
      exact hp.elim
    | some μ4 =>
      simp only [e] at hp
      exact putD_sound s3 he3 (rx.ext x3 s2) ry ((rz.ext x2 s1).ext x3 s2) e hp⟩
/-! ### in place -/
theorem pu_ip {f : Int → Int → Int} : Pure2 Cl (ipI f) (fI fun i j => .int (f i j)) := fun F H v u dv du o Q th hv hu e q => by
  cases dv <;> cases du <;> simp only [fI, reduceCtorEq, Option.some.injEq] at e
  subst e
  cases hv
  cases hu
  exact ⟨_, _, rfl, rfl, q _ H (SubQ.refl _) (out_d th (.int _))⟩
def out2 (f : D → D → Option Out) (x y : MV) (μ : MS) : Res MV := mOut ((vw μ x).bind fun d => (vw μ y).bind fun d' => f d d') μ
theorem use_out {r : R2} {f : D → D → Option Out} {x y : MV} {v u : V} {k : MV → MS → SRes} {Q : VK} (hf : Pure2 Cl r f) (s : SR Cl w) (hx : RelM Cl w v x) (hy : RelM Cl w u y) (hp : SPost Cl E D' w (wth (out2 f x y w.μ) k))
    (hk : ∀ z a w', SR Cl w' → Ext w w' → RelM Cl w' a z → SPost Cl E D' w' (k z w'.μ) → Q a w'.H) : r v u w.H Q := by
  unfold out2 at hp
  cases e1 : vw w.μ x with
  | none =>
    rw [e1] at hp
    exact hp.elim
  | some d =>
    cases e2 : vw w.μ y with
    | none =>
      rw [e1, e2] at hp
      exact hp.elim
    | some d' =>
      rw [e1, e2] at hp
      simp only [Option.bind_some] at hp
      cases e3 : f d d' with
      | none =>
        rw [e3] at hp
        exact hp.elim
      | some o =>
        rw [e3] at hp
        refine hf w.F w.H v u d d' o Q s.th (hx.view s e1) (hy.view s e2) e3 fun a H' hs ho => ?_
        have h1 := out_post s hs ho
        cases em : mOut (some o) w.μ with
        | ok z μ' =>
          rw [em] at h1 hp
          obtain ⟨w', a1, a2, a3, a4, a5⟩ := h1
          rw [← a1]
          exact hk z a w' a3 a4 a5 (by rw [a2]; exact SPost.ext a4 hp)
        | exc c fs μ' =>
          rw [em] at h1
          exact h1.elim
        | bad =>
          rw [em] at h1
          exact h1.elim
def sAug (i : Nat) (f : D → D → Option Out) (m : En → MS → Res MV) : Mir := fun env μ => match env[i]? with
  | some (some x) => wth (m env μ) fun y μ1 => wth (out2 f x y μ1) fun z μ2 => .nx (env.set i (some z)) μ2
  | _ => .bad
theorem mp_aug {i : Nat} {x : Str} {op : Operator} {ti : TIp} {pos pos' : Pos} {f : D → D → Option Out} {m : En → MS → Res MV} (hf : Pure2 Cl ti f) (hN : X.N.Nodup) (hi : X.N[i]? = some x) (hx : Loc X.env.scope x) (he : ME X Cl E e m) (ho : PIp X op ti)
    (hl : X.fn x = true ∨ X.env.scope.names.lookup x = some .local := by first | exact .inl rfl | exact .inr rfl | assumption) : MP X Cl E (.AugAssign (.Name x pos') op e pos) (sAug i f m) :=
  ⟨_, ps_aug hN hi hx pe_sem ho hl, fun D σ env w s hv hp => by
    unfold sAug at hp
    cases q : env[i]? with
    | none =>
      rw [q] at hp
      exact hp.elim
    | some o =>
      cases o with
      | none =>
        rw [q] at hp
        exact hp.elim
      | some x =>
        rw [q] at hp
        obtain ⟨v, e1, r⟩ := hv.at_ i x q
        refine ⟨v, e1, use_wth (T := semE X e) he mono_E s hv hp fun y u w1 s1 x1 he1 ry hp => ?_⟩
        refine use_out hf s1 (r.ext x1 s) ry hp fun z a w2 s2 x2 rz hp => ?_
        exact SPost.done s2 ((he1.ext x2 s1).set rz) hp⟩
/-- o[i] op= e -/
def getL (μ : MS) (p i : MV) : Option MV := match p, i with
  | .r p, .d (.int k) => match μ.get p with
    | some (.lst xs) => if 0 ≤ k then xs[k.toNat]? else none
    | _ => none
  | _, _ => none
def sAugI (g : MS → MV → MV → Option MV) (put : MV → MV → MV → MS → Option MS) (f : D → D → Option Out) (mo mi m : En → MS → Res MV) : Mir := fun env μ => wth (mo env μ) fun p μ1 => wth (mi env μ1) fun i μ2 => match g μ2 p i with
  | some x => wth (m env μ2) fun y μ3 => wth (out2 f x y μ3) fun z μ4 => match put p i z μ4 with
    | some μ5 => .nx env μ5
    | none => .bad
  | none => .bad
theorem getL_sound {x y : V} {p i m : MV} {Q : VK} (s : SR Cl w) (hx : RelM Cl w x p) (hy : RelM Cl w y i) (e : getL w.μ p i = some m) (h : ∀ v, RelM Cl w v m → Q v w.H) : rGetL x y w.H Q := by
  match p, i, e with
  | .r p, .d (.int k), e =>
    unfold getL at e
    simp only at e
    cases eg : w.μ.get p with
    | none =>
      simp only [eg] at e
      cases e
    | some m =>
      cases m with
      | lst xs =>
        simp only [eg] at e
        split at e
        · rename_i hc
          obtain ⟨_, us, hu, ru⟩ := s.lst eg
          cases hy
          obtain ⟨v, h1, h2⟩ := ru.get e
          exact ⟨_, us, k, v, hx.1, rfl, by rw [hu]; rfl, hc, h1, h v h2⟩
        · cases e
      | _ =>
        simp only [eg] at e
        cases e
theorem mp_augL {op : Operator} {ti : TIp} {pos tpos : Pos} {f : D → D → Option Out} {mo mi m : En → MS → Res MV} (hf : Pure2 Cl ti f) (ho : ME X Cl E o mo) (hi : ME X Cl E i mi) (he : ME X Cl E e m) (hp : PIp X op ti)
    (ha : ∀ ov iv new, augStore i ov iv new = (do holding [new, ov, iv] (setItem ov iv new); release [new, ov, iv] []; pure .next) := by intros; rfl) : MP X Cl E (.AugAssign (.Subscript o i tpos) op e pos) (sAugI getL putL f mo mi m) :=
  ⟨_, ps_augS pe_sem pe_sem pget_list pe_sem hp set_list ha, fun D σ env w s hv hp => by
    refine use_wth (T := semE X o) ho mono_E s hv hp fun p x w1 s1 x1 he1 rx hp => ?_
    refine use_wth (T := semE X i) hi mono_E s1 he1 hp fun i y w2 s2 x2 he2 ry hp => ?_
    cases e1 : getL w2.μ p i with
    | none =>
      simp only [e1] at hp
      exact hp.elim
    | some m0 =>
      simp only [e1] at hp
      refine getL_sound s2 (rx.ext x2 s1) ry e1 fun v rv => ?_
      refine use_wth (T := semE X e) he mono_E s2 he2 hp fun y2 u w3 s3 x3 he3 ry2 hp => ?_
      refine use_out hf s3 (rv.ext x3 s2) ry2 hp fun z a w4 s4 x4 rz hp => ?_
      cases e2 : putL p i z w4.μ with
      | none =>
        simp only [e2] at hp
        exact hp.elim
      | some μ5 =>
        simp only [e2] at hp
        exact putL_sound s4 (he3.ext x4 s3) (((rx.ext x2 s1).ext x3 s2).ext x4 s3) ((ry.ext x3 s2).ext x4 s3) rz e2 hp⟩
def getD (μ : MS) (p i : MV) : Option MV := match p, i with
  | .r p, .d j => match μ.get p with
    | some (.dct kvs) => (keyD j).bind fun k => valM kvs k
    | _ => none
  | _, _ => none
theorem getD_sound {x y : V} {p i m : MV} (s : SR Cl w) (hx : RelM Cl w x p) (hy : RelM Cl w y i) (e : getD w.μ p i = some m) : ∃ a v, x = .ref a ∧ DGet w.H a y (some v) ∧ RelM Cl w v m := by
  match p, i, e with
  | .r p, .d j, e =>
    unfold getD at e
    simp only at e
    cases eg : w.μ.get p with
    | none =>
      simp only [eg] at e
      cases e
    | some m =>
      cases m with
      | dct kvs =>
        simp only [eg] at e
        obtain ⟨k, e1, e2⟩ := Option.bind_eq_some_iff.mp e
        obtain ⟨_, us, hu, h1, h2⟩ := s.dct eg
        obtain ⟨v, h3, h4⟩ := (valM_rel (k := k) h1 h2).1 _ e2
        refine ⟨_, v, hx.1, ?_, h4⟩
        rw [key_den (Den.N hy) e1, ← h3]
        exact DGet.k hu
      | _ =>
        simp only [eg] at e
        cases e
theorem mp_augD {op : Operator} {rd : V → V → Hp → VK → Prop} {pos tpos : Pos} {f : D → D → Option Out} {mo mi m : En → MS → Res MV} (hf : Pure2 Cl rd f) (hu : X.A.units + 1 < cLine) (ho : ME X Cl E o mo) (hi : ME X Cl E i mi) (he : ME X Cl E e m) (hop : InOp X op rd)
    (ha : ∀ ov iv new, augStore i ov iv new = (do holding [new, ov, iv] (setItem ov iv new); release [new, ov, iv] []; pure .next) := by intros; rfl) : MP X Cl E (.AugAssign (.Subscript o i tpos) op e pos) (sAugI getD putD f mo mi m) :=
  ⟨_, ps_daug hu pe_sem pe_sem pe_sem hop ha, fun D σ env w s hv hp => by
    refine use_wth (T := semE X o) ho mono_E s hv hp fun p x w1 s1 x1 he1 rx hp => ?_
    refine use_wth (T := semE X i) hi mono_E s1 he1 hp fun i y w2 s2 x2 he2 ry hp => ?_
    cases e1 : getD w2.μ p i with
    | none =>
      simp only [e1] at hp
      exact hp.elim
    | some m0 =>
      simp only [e1] at hp
      obtain ⟨a, v, rfl, hg, rv⟩ := getD_sound s2 (rx.ext x2 s1) ry e1
      refine ⟨a, v, rfl, hg, ?_⟩
      refine use_wth (T := semE X e) he mono_E s2 he2 hp fun y2 u w3 s3 x3 he3 ry2 hp => ?_
      refine use_out hf s3 (rv.ext x3 s2) ry2 hp fun z b w4 s4 x4 rz hp => ?_
      cases e2 : putD p i z w4.μ with
      | none =>
        simp only [e2] at hp
        exact hp.elim
      | some μ5 =>
        simp only [e2] at hp
        obtain ⟨a', kvs, k, ea, h1, h2, h3, h4⟩ := putD_sound s4 (he3.ext x4 s3) (((rx.ext x2 s1).ext x3 s2).ext x4 s3) ((ry.ext x3 s2).ext x4 s3) rz e2 hp
        cases ea
        exact ⟨_, .inl ⟨kvs, k, h1, h2, h3, rfl⟩, h4⟩⟩
theorem pu_rAdd : Pure2 Cl rAdd (fI fun i j => .int (i + j)) := fun F H v u dv du o Q th hv hu e q => by
  cases dv <;> cases du <;> simp only [fI, reduceCtorEq, Option.some.injEq] at e
  subst e
  cases hv
  cases hu
  exact ⟨_, _, rfl, rfl, q _ H (SubQ.refl _) (out_d th (.int _))⟩
/-! ### several names at once -/
def sPar (i j : Nat) (ns : En → MS → Res (List MV)) : Mir := fun env μ => wth (ns env μ) fun xs μ1 => match xs with
  | [a, b] => .nx ((env.set i (some a)).set j (some b)) μ1
  | _ => .bad
theorem mp_par {i j : Nat} {x y : Str} {a b : Expr} {ns : En → MS → Res (List MV)} {px py pt pos : Pos} {kt k2 pt2} (hc : X.calm = true) (hN : X.N.Nodup) (hi : X.N[i]? = some x) (hj : X.N[j]? = some y) (hij : i ≠ j)
    (hx : X.env.scope.names.lookup x = some .local) (hy : X.env.scope.names.lookup y = some .local) (ha : MA X Cl E [a, b] ns)
    (hw : swappedStores [.Tuple [.Name x px, .Name y py] kt pt] (.Tuple [a, b] k2 pt2) X.env = pure (some [x, y]))
    (hs : swapsWithSole [.Tuple [.Name x px, .Name y py] kt pt] (.Tuple [a, b] k2 pt2) pos.line X.env = pure false := by rfl) :
    MP X Cl E (.Assign [.Tuple [.Name x px, .Name y py] kt pt] (.Tuple [a, b] k2 pt2) pos) (sPar i j ns) :=
  ⟨_, ps_par hc hN hi hj hij hx hy pa_sem hw hs, fun D σ env w s hv hp => by
    refine use_wth (T := semA X [a, b]) ha mono_A s hv hp fun xs vs w1 s1 x1 he1 rx hp => ?_
    match xs, rx, hp with
    | [p, q], .cons h1 (.cons h2 .nil), hp => exact ⟨_, _, rfl, SPost.done s1 ((he1.set h1).set h2) hp⟩⟩
end
end Q
end

set_option Elab.async false
set_option linter.all false
set_option maxRecDepth 100000
set_option maxHeartbeats 4000000
/-! Instances: fields, constants of the class, methods, properties, makers. -/
noncomputable section
open Classical
namespace G
open PySem PySem.Spec PyProof.Rows L2
section
variable {X : Cx} {gb : Bool} {CX : CXT} {k : Nat} {f C p g a dx : Addr} {fs : List (Str × V)} {fd : FuncData} {ps : List Str} {sp : Sp} {dvs : List V} {ds : List Value} {E : XK} {x m n : Str} {ap pos apos : Pos} {e o : Expr} {es : List Expr} {ta : TE} {t : TA}
theorem run_makeG {pins : List (Addr × Obj)} {σ : L2.St} {H : Hp} {s : Shared} {Q : VK} {us : List Value} {vs : List V} (M : Mk X.K C f) (F : FnP gb X.prog X.w X.K X.mg X.base CX k f fd ps sp) (gd : gb = true → X.A.guards = some []) (hr : Room (k + 1) X.A) (hb : Binds X.K fd ps ds) (hd : Vals dvs ds)
    (hx : Passes CX X E) (I : Inv X pins σ H s) (r : Vals vs us)
    (h : ∀ x dx, H x = none → H dx = none → dx ≠ x → sp (.ref x :: (vs ++ dvs)) (upd (upd H dx (.own x)) x (.ins C dx [])) (fun v H2 => v = .non ∧ Q (.ref x) H2) E) :
    wpAny (model X.prog X.w) X.A (call (.ref C) us) (EP X pins σ Q) X.xe s := by
  have hq := h (s.heap.objs.size + 1) s.heap.objs.size (I.hok.fresh (Nat.le_succ _)) (I.hok.fresh (Nat.le_refl _)) (Nat.ne_of_lt (Nat.lt_succ_self _))
  have I2 := Inv.made (C := C) I
  have r2 : Vals (V.ref (s.heap.objs.size + 1) :: (vs ++ dvs)) (Value.ref (s.heap.objs.size + 1) :: (us ++ ds)) := .cons rfl (r.append hd)
  have hl : (Value.ref (s.heap.objs.size + 1) :: us ++ ds).length = ps.length := by
    have e := r2.length
    rw [F.len _ _ _ _ hq] at e
    exact e.symm
  refine wpAny_call (make_map (f := f) I.kIn M.makes M.init (beq_iff_eq.mp M.fn) (codeAny_mono (F.go _ X.stack _ _ ⟨Value.ref (s.heap.objs.size + 1) :: us, []⟩ (Value.ref (s.heap.objs.size + 1) :: (us ++ ds)) _ _ E gd (hr.make C us [])
    (I2.env0.make C us []) (hb _ (Value.ref (s.heap.objs.size + 1) :: us) I2.kIn hl) r2 hq) fun r s' hq' => ?_))
  cases r with
  | error e => exact hx pins σ _ _ e s' I2 hq'
  | ok fl =>
    cases fl with
    | ret u =>
      obtain ⟨v, H', I3, rv, ev, q3⟩ := I2.after hq'
      subst ev
      exact ⟨rv, ⟨V.ref (s.heap.objs.size + 1), H', I3, rfl, q3⟩⟩
    | next => exact False.elim hq'
    | brk => exact False.elim hq'
    | cont => exact False.elim hq'
theorem pe_makeG (M : Mk X.K C f) (F : FnP gb X.prog X.w X.K X.mg X.base CX k f fd ps sp) (gd : gb = true → X.A.guards = some []) (hr : Room (k + 1) X.A) (hg : Gl X x) (hm : X.mg x = some (.ref C)) (hb : Binds X.K fd ps ds) (hd : Vals dvs ds) (hx : Passes CX X E)
    (ha : PA X (e :: es) t) (hdb : (x == ("__debug__" : Str)) = false := by decide) (he : starEach (e :: es) X.env = (false, eval e X.env) :: starEach es X.env := by rfl) (hpl : (backTo pos (starEach es X.env)).any (·.1) = false := by rfl) :
    PE X (.Call (.Name x ap) (e :: es) [] pos) (tMake C sp dvs E t) := by
  refine ⟨fun pins s σ H Q I h => ?_⟩
  refine wpAny_Call_Name_kw (ld_glob I hg hm ?_ hdb)
  refine PySem.W.callWith_K (h₀ := X.base) I.ok.mod.kin M.kp (thn (ha.run pos pins s σ H _ I h) fun us s1 ⟨vs, H1, I1, r, q⟩ => ⟨I1.kIn, ?_⟩) he hpl
  exact run_makeG M F gd hr hb hd hx I1 r q
theorem pe_makeG0 (M : Mk X.K C f) (F : FnP gb X.prog X.w X.K X.mg X.base CX k f fd ps sp) (gd : gb = true → X.A.guards = some []) (hr : Room (k + 1) X.A) (hg : Gl X x) (hm : X.mg x = some (.ref C)) (hb : Binds X.K fd ps ds) (hd : Vals dvs ds) (hx : Passes CX X E)
    (hdb : (x == ("__debug__" : Str)) = false := by decide) : PE X (.Call (.Name x ap) [] [] pos) (tMake C sp dvs E tNil) := by
  refine ⟨fun pins s σ H Q I h => ?_⟩
  refine wpAny_Call_Name_kw (ld_glob I hg hm ?_ hdb)
  exact PySem.W.callWith_K0 I.kIn M.kp (run_makeG (us := []) M F gd hr hb hd hx I .nil h)
theorem getprop_okG {pins : List (Addr × Obj)} {σ : L2.St} {H : Hp} {s : Shared} {Q : VK} {b : Bool} {E' : Value → Shared → Prop} (I : Inv X pins σ H s) (ea : H a = some (.ins C dx fs)) (c : Cls X.K C) (hp : PropOf X.K C n p g)
    (F : FnP gb X.prog X.w X.K X.mg X.base CX k g fd ps sp) (gd : gb = true → X.A.guards = some []) (hr : Room (k + 1) X.A) (hb : Binds X.K fd ps ds) (hd : Vals dvs ds) (hx : Passes CX X.nox E) (h : sp (.ref a :: dvs) H Q E) :
    wpAny (model X.prog X.w) X.A (getAttr (.ref a) n b) (EP X pins σ Q) E' s := by
  obtain ⟨mA, O, _, _, _, _⟩ := ins_get I.hok ea
  obtain ⟨od, J, _⟩ := O.look
  obtain ⟨rest, hrec⟩ := hp.rec_
  have I1 := I.tok (s.toks + 1)
  have hl : ([Value.ref a] ++ ds).length = ps.length := by
    rw [← F.len _ _ _ _ h]
    show ds.length + 1 = dvs.length + 1
    rw [hd.length]
  have hc : (PySem.W.clsIn X.K C).isSome = true := by
    obtain ⟨cd, hc, _⟩ := PySem.W.any_some c.hd
    rw [hc]
    rfl
  refine PySem.W.get_bind I.kIn J (PySem.W.plainGet_of (c.get n)).1 (PySem.W.findObj_data hc hp.at_ hp.get hp.tak) (PySem.W.plainGet_of (c.get n)).2 (wpAny_call (PySem.W.prop_get (s := { s with toks := s.toks + 1 }) I.kIn hrec ?_))
  refine codeAny_mono (F.go X.A.in1 X.stack { s with toks := s.toks + 1 } H ⟨[.ref a], []⟩ (.ref a :: ds) (.ref a :: dvs) Q E gd hr.in1 I1.env0.in1 (hb _ [.ref a] I1.kIn hl) (.cons rfl hd) h) fun r s' hq => ?_
  cases r with
  | error er => exact False.elim (hx pins σ H { s with toks := s.toks + 1 } er s' (I1.wish _) hq)
  | ok fl =>
    cases fl with
    | ret u =>
      obtain ⟨v, H', I3, rv, q3⟩ := I1.after hq
      show wpAny _ _ (handedOut u) _ _ _
      rw [PySem.W.handedOut_of (handed_of rv)]
      exact wpAny_pure ⟨v, H', I3, rv, q3⟩
    | next => exact False.elim hq
    | brk => exact False.elim hq
    | cont => exact False.elim hq
theorem pe_propG (he : PE X e ta) (c : Cls X.K C) (hp : PropOf X.K C n p g) (F : FnP gb X.prog X.w X.K X.mg X.base CX k g fd ps sp) (gd : gb = true → X.A.guards = some []) (hr : Room (k + 1) X.A) (hb : Binds X.K fd ps ds) (hd : Vals dvs ds) (hx : Passes CX X.nox E)
    (hab : attributeBase e n X.env (eval e X.env) = eval e X.env := by rfl) : PE X (.Attribute e n pos) (tProp C sp dvs E ta) := by
  refine ⟨fun pins s σ H Q I h => ?_⟩
  refine attr_of hab (thn (he.run pins s σ H _ I h) fun u s1 ⟨x, H1, I1, rx, a, dx, fs, ex, ea, q⟩ => ?_)
  subst ex
  obtain rfl : u = Value.ref a := rx
  exact getprop_okG I1 ea c hp F gd hr hb hd hx q
end
end G
namespace Q
variable [Tables]
open PySem PySem.Spec PyProof.Rows L2 G
section
variable {X : Cx} {Cl : Str → Addr} {E : XK} {D' : Ends} {w w' : Wd} {e o i value : Expr} {es : List Expr}
/-! ### fields -/
theorem lookup_rel {f : Str} : ∀ {kvs : List (Str × V)} {xs : List (Str × MV)}, kvs.map (·.1) = xs.map (·.1) → RelL Cl w (kvs.map (·.2)) (xs.map (·.2)) →
    (∀ d, xs.lookup f = some d → ∃ v, kvs.lookup f = some v ∧ RelM Cl w v d) ∧ (xs.lookup f = none → kvs.lookup f = none)
  | [], [], _, _ => ⟨nofun, fun _ => rfl⟩
  | [], _ :: _, e, _ => by simp at e
  | _ :: _, [], e, _ => by simp at e
  | (k1, v1) :: kvs, (k2, d2) :: xs, e, .cons h t => by
    obtain ⟨e1, e2⟩ : k1 = k2 ∧ kvs.map (·.1) = xs.map (·.1) := by simpa using e
    subst e1
    obtain ⟨i1, i2⟩ := lookup_rel (f := f) e2 t
    by_cases c : (f == k1) = true
    · rw [List.lookup_cons, List.lookup_cons, c]
      exact ⟨fun d hd => by cases hd; exact ⟨v1, rfl, h⟩, nofun⟩
    · have c : (f == k1) = false := by simpa using c
      rw [List.lookup_cons, List.lookup_cons, c]
      exact ⟨i1, i2⟩
def putFM (f : Str) (m : MV) : List (Str × MV) → List (Str × MV)
  | [] => [(f, m)]
  | (g, x) :: r => if g = f then (g, m) :: r else (g, x) :: putFM f m r
theorem putF_rel {f : Str} {v : V} {m : MV} (r : RelM Cl w v m) : ∀ {kvs : List (Str × V)} {xs : List (Str × MV)}, kvs.map (·.1) = xs.map (·.1) → RelL Cl w (kvs.map (·.2)) (xs.map (·.2)) →
    (putF f v kvs).map (·.1) = (putFM f m xs).map (·.1) ∧ RelL Cl w ((putF f v kvs).map (·.2)) ((putFM f m xs).map (·.2))
  | [], [], _, _ => ⟨rfl, .cons r .nil⟩
  | [], _ :: _, e, _ => by simp at e
  | _ :: _, [], e, _ => by simp at e
  | (k1, v1) :: kvs, (k2, d2) :: xs, e, .cons h t => by
    obtain ⟨e1, e2⟩ : k1 = k2 ∧ kvs.map (·.1) = xs.map (·.1) := by simpa using e
    subst e1
    obtain ⟨i1, i2⟩ := putF_rel r (f := f) e2 t
    unfold putF putFM
    by_cases c : k1 = f
    · rw [if_pos c, if_pos c]
      exact ⟨by rw [List.map_cons, List.map_cons, e2], .cons r t⟩
    · rw [if_neg c, if_neg c]
      exact ⟨by rw [List.map_cons, List.map_cons, i1], .cons h i2⟩
/-- the fields of an instance, own or frozen -/
def insM (μ : MS) (c : Str) : MV → Option (List (Str × MV))
  | .d (.ins c' fs) => if c' = c then some (fs.map fun kv => (kv.1, .d kv.2)) else none
  | .r p => match μ.get p with
    | some (.ins c' fs) => if c' = c then some fs else none
    | some (.frz (.ins c' fs)) => if c' = c then some (fs.map fun kv => (kv.1, .d kv.2)) else none
    | _ => none
  | _ => none
theorem den_ins {v : V} {c : Str} {fs : List (Str × D)} (h : Den Cl w.F w.H v (.ins c fs)) : ∃ a dx us, v = .ref a ∧ w.H a = some (.ins (Cl c) dx us) ∧ us.map (·.1) = (fs.map fun kv => (kv.1, MV.d kv.2)).map (·.1) ∧ RelL Cl w (us.map (·.2)) ((fs.map fun kv => (kv.1, MV.d kv.2)).map (·.2)) := by
  obtain ⟨a, dx, us, rfl, h1, h2, h3⟩ := h.N
  refine ⟨a, dx, us, rfl, h1, by rw [h2, List.map_map]; rfl, ?_⟩
  have := relL_d (ρ := w.ρ) (μ := w.μ) h3
  rw [List.map_map] at this ⊢
  exact this
theorem insM_sound {v : V} {x : MV} {c : Str} {ms : List (Str × MV)} (s : SR Cl w) (h : RelM Cl w v x) (e : insM w.μ c x = some ms) : ∃ a dx us, v = .ref a ∧ w.H a = some (.ins (Cl c) dx us) ∧ us.map (·.1) = ms.map (·.1) ∧ RelL Cl w (us.map (·.2)) (ms.map (·.2)) := by
  cases x with
  | d d =>
    cases d with
    | ins c' fs =>
      unfold insM at e
      simp only at e
      split at e
      · rename_i hc
        subst hc
        cases e
        exact den_ins h
      · cases e
    | _ => cases e
  | r p =>
    obtain ⟨rfl, o, ho⟩ := h
    unfold insM at e
    simp only [ho] at e
    cases o with
    | ins c' fs =>
      simp only at e
      split at e
      · rename_i hc
        subst hc
        cases e
        obtain ⟨_, dx, us, h1, h2, h3⟩ := s.ins ho
        exact ⟨_, dx, us, rfl, h1, h2, h3⟩
      · cases e
    | frz a =>
      cases a with
      | ins c' fs =>
        simp only at e
        split at e
        · rename_i hc
          subst hc
          cases e
          rcases s.obj p _ ho with ⟨d', e', h⟩ | ⟨u', _, h⟩
          · cases e'
            exact den_ins h
          · cases u' <;> exact h.elim
        · cases e
      | _ => cases e
    | _ => cases e
def mFld (c f : Str) (m : En → MS → Res MV) : En → MS → Res MV := fun env μ => (m env μ).bind fun x μ1 => match (insM μ1 c x).bind (·.lookup f) with
  | some y => .ok y μ1
  | none => .bad
theorem me_fld {c f : Str} {pos : Pos} {m : En → MS → Res MV} (hc : Cls X.K (Cl c)) (n : NoAttr X.K (Cl c) f) (he : ME X Cl E e m) (hb : attributeBase e f X.env (eval e X.env) = eval e X.env := by rfl) : ME X Cl E (.Attribute e f pos) (mFld c f m) :=
  ME.of (pe_fldU hc n pe_sem hb) <| mt_of fun σ env w Q s hv hp => by
    refine use_b (T := semE X e) he mono_E s hv hp fun x v w1 s1 x1 he1 rx hp => ?_
    cases q : (insM w1.μ c x).bind (·.lookup f) with
    | none =>
      simp only [q] at hp
      exact hp.elim
    | some y =>
      simp only [q] at hp
      obtain ⟨ms, e1, e2⟩ := Option.bind_eq_some_iff.mp q
      obtain ⟨a, dx, us, rfl, h1, h2, h3⟩ := insM_sound s1 rx e1
      obtain ⟨u, h4, h5⟩ := (lookup_rel (f := f) h2 h3).1 y e2
      exact ⟨a, dx, us, u, rfl, h1, h4, RPost.done s1 hp h5⟩
def mCon (c f : Str) (d : D) (m : En → MS → Res MV) : En → MS → Res MV := fun env μ => (m env μ).bind fun x μ1 => match insM μ1 c x with
  | some fs => if fs.lookup f = none then .ok (.d d) μ1 else .bad
  | none => .bad
theorem me_con {c f : Str} {v : V} {d : D} {pos : Pos} {m : En → MS → Res MV} (hc : Cls X.K (Cl c)) (k : ∃ u, Con X.K (Cl c) f v u) (hd : toV d = some v) (he : ME X Cl E e m) (hb : attributeBase e f X.env (eval e X.env) = eval e X.env := by rfl) : ME X Cl E (.Attribute e f pos) (mCon c f d m) :=
  ME.of (pe_conU hc k pe_sem hb) <| mt_of fun σ env w Q s hv hp => by
    refine use_b (T := semE X e) he mono_E s hv hp fun x v w1 s1 x1 he1 rx hp => ?_
    cases q : insM w1.μ c x with
    | none =>
      simp only [q] at hp
      exact hp.elim
    | some ms =>
      simp only [q] at hp
      obtain ⟨a, dx, us, rfl, h1, h2, h3⟩ := insM_sound s1 rx q
      split at hp
      · rename_i hl
        exact ⟨a, dx, us, rfl, h1, (lookup_rel (f := f) h2 h3).2 hl, RPost.done s1 hp (toV_den hd)⟩
      · exact hp.elim
/-! ### o.f = v -/
def sFld (c f : Str) (mv mo : En → MS → Res MV) : Mir := fun env μ => wth (mv env μ) fun y μ1 => wth (mo env μ1) fun x μ2 => match x with
  | .r p => match μ2.get p with
    | some (.ins c' fs) => if c' = c ∧ fs.length < 1000 then .nx env (μ2.set (.ins c (putFM f y fs)) p) else .bad
    | _ => .bad
  | .d _ => .bad
theorem mp_fld {c f : Str} {pos pos' : Pos} {mv mo : En → MS → Res MV} (hc : Cls X.K (Cl c)) (n : NoAttr X.K (Cl c) f) (ho : ME X Cl E o mo) (hv : ME X Cl E value mv) (hs : swapsWith value (some (.Attribute o f pos')) pos.line X.env = pure false := by rfl) :
    MP X Cl E (.Assign [.Attribute o f pos'] value pos) (sFld c f mv mo) :=
  ⟨_, ps_fldU hc n pe_sem pe_sem hs, fun D σ env w s he hp => by
    refine use_wth (T := semE X value) hv mono_E s he hp fun y a w1 s1 x1 he1 ry hp => ?_
    refine use_wth (T := semE X o) ho mono_E s1 he1 hp fun x b w2 s2 x2 he2 rx hp => ?_
    cases x with
    | d d => exact hp.elim
    | r p =>
      simp only at hp
      cases eg : w2.μ.get p with
      | none =>
        rw [eg] at hp
        exact hp.elim
      | some m =>
        cases m with
        | ins c' fs =>
          rw [eg] at hp
          simp only at hp
          split at hp
          · rename_i h
            obtain ⟨rfl, hl⟩ := h
            obtain ⟨lv, dx, us, h1, h2, h3⟩ := s2.ins eg
            have hl2 : us.length = fs.length := by simpa using congrArg List.length h2
            exact ⟨_, dx, us, rx.1, h1, by rw [hl2]; exact hl, SPost.put s2 lv he2 (show Fits Cl w2 (.ins (Cl c') dx (putF f a us)) (.ins c' (putFM f y fs)) from ⟨rfl, putF_rel (ry.ext x2 s1) h2 h3⟩) id hp⟩
          · exact hp.elim
        | _ =>
          rw [eg] at hp
          exact hp.elim⟩
/-! ### methods -/
def mMeth (c m : Str) (n : Nat) (f : MF) (mo : En → MS → Res MV) (ns : En → MS → Res (List MV)) : En → MS → Res MV := fun env μ => (mo env μ).bind fun x μ1 => match insM μ1 c x with
  | some fs => if fs.lookup m = none then (ns env μ1).bind fun ms μ2 => if ms.length + 1 = n then callR f (x :: ms) μ2 else .bad else .bad
  | none => .bad
theorem use_call {f : MF} {n : Nat} {vs : List V} {ms : List MV} {Q : VK} (s : SR Cl w) (r : RelL Cl w vs ms) (hn : ms.length = n) (h : RPost Cl E (RelM Cl) w (callR f ms w.μ) Q) : spM Cl n f vs w.H Q E :=
  call_sound s r ((Paired.length r).trans hn) (by
    cases e : callR f ms w.μ with
    | ok a μ' =>
      rw [e] at h
      exact fun v w1 e1 s1 x1 r1 => h v w1 e1 s1 x1 r1
    | exc c fs μ' =>
      rw [e] at h
      exact h
    | bad =>
      rw [e] at h
      exact h)
theorem mt_meth {c m : Str} {n : Nat} {f : MF} {mo : En → MS → Res MV} {ns : En → MS → Res (List MV)} {t : TA} (mt : Mono t) (ho : ME X Cl E o mo) (ha : MT Cl E (RelL Cl) Any t ns) : MT Cl E (RelM Cl) Any (tMeth (Cl c) m (spM Cl n f) [] E (semE X o) t) (mMeth c m n f mo ns) :=
  mt_of fun σ env w Q s hv hp => by
    refine use_b (T := semE X o) ho mono_E s hv hp fun x v w1 s1 x1 he1 rx hp => ?_
    cases q : insM w1.μ c x with
    | none =>
      simp only [q] at hp
      exact hp.elim
    | some fs =>
      simp only [q] at hp
      obtain ⟨a, dx, us, rfl, h1, h2, h3⟩ := insM_sound s1 rx q
      split at hp
      · rename_i hl
        refine ⟨a, dx, us, rfl, h1, (lookup_rel (f := m) h2 h3).2 hl, ?_⟩
        refine use_b (T := t) ha mt s1 he1 hp fun ms vs w2 s2 x2 he2 rms hp => ?_
        split at hp
        · rename_i hn
          rw [List.append_nil]
          exact use_call s2 (.cons (rx.ext x2 s1) rms) hn hp
        · exact hp.elim
      · exact hp.elim
theorem mt_nilA : MT Cl E (RelL Cl) Any tNil mNil := mt_ret fun σ env w s he hr => .inr ⟨_, rfl, .nil⟩
theorem mono_nil : Mono tNil := fun σ H Q Q' h k => k _ _ h
theorem me_meth {gb : Bool} {CX : CXT} {k n : Nat} {f : Addr} {fd : FuncData} {ps : List Str} {g : MF} {c m : Str} {pos apos : Pos} {pl : Sem Bool} {mo : En → MS → Res MV} {ns : En → MS → Res (List MV)} (ho : ME X Cl E o mo) (hc : Cls X.K (Cl c)) (hm : Meth X.K (Cl c) m f) (F : FnP gb X.prog X.w X.K X.mg X.base CX k f fd ps (spM Cl n g)) (gd : gb = true → X.A.guards = some []) (hr : Room k X.A)
    (hb : Binds X.K fd ps []) (hx : Passes CX X E) (ha : MA X Cl E (e :: es) ns)
    (hst : starEach (e :: es) X.env = (false, eval e X.env) :: starEach es X.env := by rfl) (hpl : (backTo pos (starEach es X.env)).any (·.1) = false := by rfl)
    (ht : eval (.Call (.Attribute o m apos) (e :: es) [] pos) X.env = (do
      let ov ← eval o X.env
      standAt apos.atName
      let (f, first) ← holding [ov] (getMethod ov m pl)
      callWith pos f first (backTo pos (starEach (e :: es) X.env)) (backToKw pos (keywordEach [] X.env))) := by rfl) :
    ME X Cl E (.Call (.Attribute o m apos) (e :: es) [] pos) (mMeth c m n g mo ns) :=
  ME.of (pe_methG pe_sem hc hm F gd hr hb .nil hx pa_sem hst hpl ht) (mt_meth mono_A ho ha)
theorem me_meth0 {gb : Bool} {CX : CXT} {k n : Nat} {f : Addr} {fd : FuncData} {ps : List Str} {g : MF} {c m : Str} {pos apos : Pos} {pl : Sem Bool} {mo : En → MS → Res MV} (ho : ME X Cl E o mo) (hc : Cls X.K (Cl c)) (hm : Meth X.K (Cl c) m f) (F : FnP gb X.prog X.w X.K X.mg X.base CX k f fd ps (spM Cl n g)) (gd : gb = true → X.A.guards = some []) (hr : Room k X.A)
    (hb : Binds X.K fd ps []) (hx : Passes CX X E)
    (ht : eval (.Call (.Attribute o m apos) [] [] pos) X.env = (do
      let ov ← eval o X.env
      standAt apos.atName
      let (f, first) ← holding [ov] (getMethod ov m pl)
      callWith pos f first (backTo pos (starEach [] X.env)) (backToKw pos (keywordEach [] X.env))) := by rfl) :
    ME X Cl E (.Call (.Attribute o m apos) [] [] pos) (mMeth c m n g mo mNil) :=
  ME.of (pe_methG0 pe_sem hc hm F gd hr hb .nil hx ht) (mt_meth mono_nil ho mt_nilA)
/-! ### properties -/
def noExc {β : Type} : Res β → Res β
  | .exc _ _ _ => .bad
  | r => r
def mProp (c : Str) (f : MF) (mo : En → MS → Res MV) : En → MS → Res MV := fun env μ => (mo env μ).bind fun x μ1 => match insM μ1 c x with
  | some _ => noExc (callR f [x] μ1)
  | none => .bad
theorem me_prop {gb : Bool} {CX : CXT} {k : Nat} {p g : Addr} {fd : FuncData} {ps : List Str} {f : MF} {c m : Str} {pos : Pos} {mo : En → MS → Res MV} (ho : ME X Cl E o mo) (hc : Cls X.K (Cl c)) (hp : PropOf X.K (Cl c) m p g) (F : FnP gb X.prog X.w X.K X.mg X.base CX k g fd ps (spM Cl 1 f)) (gd : gb = true → X.A.guards = some []) (hr : Room (k + 1) X.A)
    (hb : Binds X.K fd ps []) (hx : Passes CX X.nox fun _ _ _ => False) (hab : attributeBase o m X.env (eval o X.env) = eval o X.env := by rfl) : ME X Cl E (.Attribute o m pos) (mProp c f mo) :=
  ME.of (pe_propG pe_sem hc hp F gd hr hb .nil hx hab) <| mt_of fun σ env w Q s hv hp => by
    refine use_b (T := semE X o) ho mono_E s hv hp fun x v w1 s1 x1 he1 rx hp => ?_
    cases q : insM w1.μ c x with
    | none =>
      simp only [q] at hp
      exact hp.elim
    | some fs =>
      simp only [q] at hp
      obtain ⟨a, dx, us, rfl, h1, h2, h3⟩ := insM_sound s1 rx q
      refine ⟨a, dx, us, rfl, h1, use_call s1 (.cons rx .nil) rfl ?_⟩
      cases ec : callR f [x] w1.μ with
      | ok y μ' =>
        rw [ec] at hp
        exact hp
      | exc c fs μ' =>
        rw [ec] at hp
        exact hp.elim
      | bad =>
        rw [ec] at hp
        exact hp
/-! ### makers -/
def mMake (c : Str) (n : Nat) (f : MF) (ns : En → MS → Res (List MV)) : En → MS → Res MV := fun env μ => (ns env μ).bind fun ms μ1 => if ms.length + 1 = n then (callR f (.r (.l μ1.L.length) :: ms) (μ1.new (.ins c []))).bind fun v μ2 => match v with
    | .d .non => .ok (.r (.l μ1.L.length)) μ2
    | _ => .bad
  else .bad
theorem mt_make {c : Str} {n : Nat} {f : MF} {ns : En → MS → Res (List MV)} {t : TA} (mt : Mono t) (ha : MT Cl E (RelL Cl) Any t ns) : MT Cl E (RelM Cl) Any (tMake (Cl c) (spM Cl n f) [] E t) (mMake c n f ns) :=
  mt_of fun σ env w Q s hv hp => by
    refine use_b (T := t) ha mt s hv hp fun ms vs w1 s1 x1 he1 rms hp => ?_
    intro x dx hx hdx hne
    split at hp
    · rename_i hn
      have hs1 := SubQ.new (o := HO.own x) hdx
      have hx2 : upd w1.H dx (.own x) x = none := (upd_ne (Ne.symm hne)).trans hx
      have hs : SubQ w1.H (upd (upd w1.H dx (.own x)) x (.ins (Cl c) dx [])) := hs1.trans (SubQ.new hx2)
      obtain ⟨s2, x2, r2⟩ := s1.alloc hs hx upd_same (u := .ins (Cl c) dx []) (o := .ins c []) ⟨rfl, rfl, .nil⟩ id
      rw [List.append_nil]
      refine use_call s2 (.cons r2 (rms.ext x2 s1)) hn ?_
      have hp := RPost.ext x2 hp
      show RPost Cl E (RelM Cl) _ (callR f (.r (.l w1.μ.L.length) :: ms) (w1.μ.new (.ins c []))) _
      cases ec : callR f (.r (.l w1.μ.L.length) :: ms) (w1.μ.new (.ins c [])) with
      | bad =>
        rw [ec] at hp
        exact hp
      | exc c' fs μ' =>
        rw [ec] at hp
        exact hp
      | ok y μ' =>
        rw [ec] at hp
        intro v w3 e3 s3 x3 r3
        match y, r3, hp with
        | .d .non, r3, hp =>
          refine ⟨by cases r3; rfl, ?_⟩
          exact hp (.ref x) w3 e3 s3 x3 (RelM.ext x3 s2 r2)
    · exact hp.elim
theorem me_make {gb : Bool} {CX : CXT} {k n : Nat} {f : Addr} {fd : FuncData} {ps : List Str} {g : MF} {c x : Str} {p pos : Pos} {ns : En → MS → Res (List MV)} (M : Mk X.K (Cl c) f) (F : FnP gb X.prog X.w X.K X.mg X.base CX k f fd ps (spM Cl n g)) (gd : gb = true → X.A.guards = some []) (hr : Room (k + 1) X.A) (hg : Gl X x) (hm : X.mg x = some (.ref (Cl c)))
    (hb : Binds X.K fd ps []) (hx : Passes CX X E) (ha : MA X Cl E (e :: es) ns) (hdb : (x == ("__debug__" : Str)) = false := by decide) (he : starEach (e :: es) X.env = (false, eval e X.env) :: starEach es X.env := by rfl) (hpl : (backTo pos (starEach es X.env)).any (·.1) = false := by rfl) :
    ME X Cl E (.Call (.Name x p) (e :: es) [] pos) (mMake c n g ns) := ME.of (pe_makeG M F gd hr hg hm hb .nil hx pa_sem hdb he hpl) (mt_make mono_A ha)
theorem me_make0 {gb : Bool} {CX : CXT} {k n : Nat} {f : Addr} {fd : FuncData} {ps : List Str} {g : MF} {c x : Str} {p pos : Pos} (M : Mk X.K (Cl c) f) (F : FnP gb X.prog X.w X.K X.mg X.base CX k f fd ps (spM Cl n g)) (gd : gb = true → X.A.guards = some []) (hr : Room (k + 1) X.A) (hg : Gl X x) (hm : X.mg x = some (.ref (Cl c)))
    (hb : Binds X.K fd ps []) (hx : Passes CX X E) (hdb : (x == ("__debug__" : Str)) = false := by decide) :
    ME X Cl E (.Call (.Name x p) [] [] pos) (mMake c n g mNil) := ME.of (pe_makeG0 M F gd hr hg hm hb .nil hx hdb) (mt_make mono_nil mt_nilA)
theorem me_call0 {gb : Bool} {CX : CXT} {k n : Nat} {f : Addr} {fd : FuncData} {ps : List Str} {g : MF} {x : Str} {p pos : Pos} (F : FnP gb X.prog X.w X.K X.mg X.base CX k f fd ps (spM Cl n g)) (gd : gb = true → X.A.guards = some []) (hr : Room k X.A) (hg : Gl X x) (hm : X.mg x = some (.ref f))
    (hk : PySem.W.keepIn X.K (.ref f) = true) (hb : Binds X.K fd ps []) (hx : Passes CX X E) (hdb : (x == ("__debug__" : Str)) = false := by decide) : ME X Cl E (.Call (.Name x p) [] [] pos) (mCall n g mNil) :=
  ME.of (pe_callG0 F gd hr hg hm hk hb .nil hx hdb) <| mt_of fun σ env w Q s hv hp => by
    unfold mCall at hp
    show spM Cl n g ([] ++ []) w.H Q E
    simp only [mNil, Res.bind] at hp
    split at hp
    · rename_i hn
      exact use_call s .nil hn hp
    · exact hp.elim
end
end Q
end

set_option Elab.async false
set_option linter.all false
set_option maxRecDepth 100000
set_option maxHeartbeats 4000000
/-! Built-in functions and methods of texts, by data. -/
noncomputable section
open Classical
namespace G
open PySem PySem.Spec PyProof.Rows L2
def rLenQ (xs : List V) (H : Hp) (Q : VK) : Prop := (∃ z, xs = [.str z] ∧ z.length ≤ sizeLine ∧ Q (.int z.length) H) ∨ (∃ p ys, xs = [.ref p] ∧ lk (H p) = some (.lst ys) ∧ Q (.int ys.length) H) ∨
  (∃ p ys, xs = [.ref p] ∧ lk (H p) = some (.tup ys) ∧ Q (.int ys.length) H) ∨ ∃ p ys, xs = [.ref p] ∧ lk (H p) = some (.dK ys) ∧ Q (.int ys.length) H
theorem call_lenQ {X : Cx} : CallR X (.builtin "len") rLenQ := by
  intro pins s σ H xs us Q I r h
  rcases h with ⟨z, e, hz, q⟩ | ⟨p, ys, e, hp, q⟩ | ⟨p, ys, e, hp, q⟩ | ⟨p, ys, rfl, hp, q⟩
  · exact call_len_str pins s σ H xs us Q I r ⟨z, e, hz, q⟩
  · exact call_len_seq pins s σ H xs us Q I r ⟨p, ys, e, Or.inl (Or.inl (rd_lk hp)), q⟩
  · exact call_len_seq pins s σ H xs us Q I r ⟨p, ys, e, Or.inr (Or.inl (rd_lk hp)), q⟩
  · obtain ⟨u, rfl, ru⟩ := vals1 r
    cases ru
    exact d_len I (rd_lk hp) fun t s' I' => ⟨.int ys.length, H, I', ⟨t, rfl⟩, q⟩
end G
namespace Q
variable [Tables]
open PySem PySem.Spec PyProof.Rows L2 G
section
variable {X : Cx} {Cl : Str → Addr} {E : XK} {D' : Ends} {w w' : Wd} {e o i value : Expr} {es : List Expr}
theorem pair_one {α β : Type} {P : α → β → Prop} {vs : List α} {z : β} (h : Paired P vs [z]) : ∃ v, vs = [v] ∧ P v z := by
  cases h with
  | cons h t =>
    cases t
    exact ⟨_, rfl, h⟩
theorem pair_two {α β : Type} {P : α → β → Prop} {vs : List α} {y z : β} (h : Paired P vs [y, z]) : ∃ u v, vs = [u, v] ∧ P u y ∧ P v z := by
  cases h with
  | cons h t =>
    obtain ⟨v, rfl, h2⟩ := pair_one t
    exact ⟨_, v, rfl, h, h2⟩
theorem me_cty {T : String} {x : Str} {p pos : Pos} {r : List V → Hp → VK → Prop} {f : List D → Option Out} {ns : En → MS → Res (List MV)} (hc : CallR X (.type T) r) (hf : PureL Cl r f) (mr : ∀ vs, Mono fun (_ : L2.St) H Q => r vs H Q)
    (hg : Gl X x) (hm : X.mg x = none) (hv : bootBuiltins x = some (.type T)) (ha : MA X Cl E (e :: es) ns) (hn : x ≠ "__name__" := by decide) (hdb : (x == ("__debug__" : Str)) = false := by decide)
    (he : starEach (e :: es) X.env = (false, eval e X.env) :: starEach es X.env := by rfl) (hpl : (backTo pos (starEach es X.env)).any (·.1) = false := by rfl) : ME X Cl E (.Call (.Name x p) (e :: es) [] pos) (mCB f ns) :=
  ME.of (pe_callTy hc hg hm hv pa_sem hn hdb he hpl) (mt_cb hf mr ha)
/-! ### len -/
def fLen : List D → Option Out
  | [.str z] => if z.length ≤ sizeLine then some (.v (.int z.length)) else none
  | [.lst xs] => some (.v (.int xs.length))
  | [.tup xs] => some (.v (.int xs.length))
  | [.dct xs] => some (.v (.int xs.length))
  | _ => none
theorem pl_len : PureL Cl rLenQ fLen := fun F H vs ds o Q th hp e k => by
  match ds, hp, e with
  | [.str z], hp, e =>
    obtain ⟨v, rfl, h⟩ := pair_one hp
    cases h
    unfold fLen at e
    simp only at e
    split at e
    · rename_i hc
      cases e
      exact .inl ⟨z, rfl, hc, k _ H (SubQ.refl _) (out_d th (.int _))⟩
    · cases e
  | [.lst xs], hp, e =>
    obtain ⟨v, rfl, a, us, rfl, ha, la⟩ := pair_one hp
    cases e
    refine .inr (.inl ⟨a, us, rfl, by rw [ha]; rfl, ?_⟩)
    rw [den_len la]
    exact k _ H (SubQ.refl _) (out_d th (.int _))
  | [.tup xs], hp, e =>
    obtain ⟨v, rfl, a, us, rfl, ha, la⟩ := pair_one hp
    cases e
    refine .inr (.inr (.inl ⟨a, us, rfl, by rw [ha]; rfl, ?_⟩))
    rw [den_len la]
    exact k _ H (SubQ.refl _) (out_d th (.int _))
  | [.dct xs], hp, e =>
    obtain ⟨v, rfl, a, us, rfl, ha, h1, h2⟩ := pair_one hp
    cases e
    refine .inr (.inr (.inr ⟨a, us, rfl, ha, ?_⟩))
    have hl : us.length = xs.length := by simpa using congrArg List.length h1
    rw [hl]
    exact k _ H (SubQ.refl _) (out_d th (.int _))
theorem mono_len {vs : List V} : Mono fun (_ : L2.St) H Q => rLenQ vs H Q := fun σ H Q Q' h k => by
  rcases h with ⟨z, e, hz, q⟩ | ⟨p, ys, e, hp, q⟩ | ⟨p, ys, e, hp, q⟩ | ⟨p, ys, e, hp, q⟩
  · exact .inl ⟨z, e, hz, k _ _ q⟩
  · exact .inr (.inl ⟨p, ys, e, hp, k _ _ q⟩)
  · exact .inr (.inr (.inl ⟨p, ys, e, hp, k _ _ q⟩))
  · exact .inr (.inr (.inr ⟨p, ys, e, hp, k _ _ q⟩))
/-! ### list, tuple -/
def fList : List D → Option Out
  | [.str x] => if x.length ≤ 16777216 then some (.n (.lst ((x.cps.toList.map fun c => D.str ⟨#[c]⟩).map .d))) else none
  | [.lst xs] => some (.n (.lst (xs.map .d)))
  | [.tup xs] => some (.n (.lst (xs.map .d)))
  | [.dct xs] => some (.n (.lst ((xs.map fun kv => match kv.1 with | .inl i => D.int i | .inr x => D.str x).map .d)))
  | _ => none
theorem den_kV {F : Addr → Prop} {H : Hp} (k : Key) : Den Cl F H (kV k) (match k with | .inl i => D.int i | .inr x => D.str x) := by
  cases k with
  | inl i => exact .int i
  | inr x => exact .str x
theorem signs_den {F : Addr → Prop} {H : Hp} (x : Str) : DenL Cl F H (signsV x) (x.cps.toList.map fun c => D.str ⟨#[c]⟩) := DenL.map (fun c => Den.str _) _
theorem keys_den {F : Addr → Prop} {H : Hp} : ∀ {us : List (Key × V)} {xs : List (Key × D)}, us.map (·.1) = xs.map (·.1) → DenL Cl F H (us.map fun kv => kV kv.1) (xs.map fun kv => match kv.1 with | .inl i => D.int i | .inr x => D.str x)
  | [], [], _ => .nil
  | [], _ :: _, e => by simp at e
  | _ :: _, [], e => by simp at e
  | u :: us, x :: xs, e => by
    obtain ⟨e1, e2⟩ : u.1 = x.1 ∧ us.map (·.1) = xs.map (·.1) := by simpa using e
    refine .cons ?_ (keys_den e2)
    show Den Cl F H (kV u.1) _
    rw [e1]
    exact den_kV _
theorem pl_list : PureL Cl rListU fList := fun F H vs ds o Q th hp e k => by
  match ds, hp, e with
  | [.str z], hp, e =>
    obtain ⟨v, rfl, h⟩ := pair_one hp
    cases h
    unfold fList at e
    simp only at e
    split at e
    · rename_i hc
      cases e
      exact .inl ⟨z, rfl, hc, fun p hp => k _ _ (SubQ.new hp) (out_lst hp (signs_den z))⟩
    · cases e
  | [.lst xs], hp, e =>
    obtain ⟨v, rfl, a, us, rfl, ha, la⟩ := pair_one hp
    cases e
    exact .inr (.inl ⟨a, us, rfl, by rw [ha]; rfl, fun p hp => k _ _ (SubQ.new hp) (out_lst hp la)⟩)
  | [.tup xs], hp, e =>
    obtain ⟨v, rfl, a, us, rfl, ha, la⟩ := pair_one hp
    cases e
    exact .inr (.inr (.inl ⟨a, us, rfl, by rw [ha]; rfl, fun p hp => k _ _ (SubQ.new hp) (out_lst hp la)⟩))
  | [.dct xs], hp, e =>
    obtain ⟨v, rfl, a, us, rfl, ha, h1, h2⟩ := pair_one hp
    cases e
    exact .inr (.inr (.inr ⟨a, us, rfl, ha, fun p hp => k _ _ (SubQ.new hp) (out_lst hp (keys_den h1))⟩))
theorem mono_list {vs : List V} : Mono fun (_ : L2.St) H Q => rListU vs H Q := fun σ H Q Q' h k => by
  rcases h with ⟨z, e, hz, q⟩ | ⟨p, ys, e, hp, q⟩ | ⟨p, ys, e, hp, q⟩ | ⟨p, ys, e, hp, q⟩
  · exact .inl ⟨z, e, hz, fun p hp => k _ _ (q p hp)⟩
  · exact .inr (.inl ⟨p, ys, e, hp, fun p hp => k _ _ (q p hp)⟩)
  · exact .inr (.inr (.inl ⟨p, ys, e, hp, fun p hp => k _ _ (q p hp)⟩))
  · exact .inr (.inr (.inr ⟨p, ys, e, hp, fun p hp => k _ _ (q p hp)⟩))
theorem out_tup {F : Addr → Prop} {H : Hp} {p : Addr} {vs : List V} {ds : List D} (th : Th F H) (hp : H p = none) (h : DenL Cl F H vs ds) : OutR Cl F H (upd H p (.tup vs)) (.ref p) (.v (.tup ds)) := by
  have hs := SubQ.new (o := HO.tup vs) hp
  have r : DenL Cl (fun a => F a ∨ a = p) (upd H p (.tup vs)) vs ds := Paired.mapP h fun _ _ h => h.mono (fun _ h => .inl h) (KeepF.of fun a ha => hs a (th a ha))
  refine ⟨fun a => F a ∨ a = p, fun _ h => .inl h, fun a h => h.imp id fun e => by rw [e]; exact hp, fun a h => ?_, .tup (.inr rfl) upd_same (Paired.length r) (paired_get r)⟩
  rcases h with h | h
  · rw [hs a (th a h)]
    exact th a h
  · rw [h, upd_same]
    nofun
/-! ### ints -/
def toInts : List D → Option (List Int)
  | [] => some []
  | .int i :: r => (toInts r).map (i :: ·)
  | _ :: _ => none
theorem den_ints {F : Addr → Prop} {H : Hp} : ∀ {vs : List V} {ds : List D} {ns : List Int}, DenL Cl F H vs ds → toInts ds = some ns → vs = ns.map V.int
  | _, _, ns, .nil, e => by
    cases e
    rfl
  | _, .int i :: ds, ns, .cons h t, e => by
    obtain ⟨ns', e1, rfl⟩ := Option.map_eq_some_iff.mp (show (toInts ds).map (i :: ·) = some ns from e)
    cases h
    rw [den_ints t e1]
    rfl
def toBls : List D → Option (List Bool)
  | [] => some []
  | .bl i :: r => (toBls r).map (i :: ·)
  | _ :: _ => none
theorem den_bls {F : Addr → Prop} {H : Hp} : ∀ {vs : List V} {ds : List D} {ns : List Bool}, DenL Cl F H vs ds → toBls ds = some ns → vs = ns.map V.bl
  | _, _, ns, .nil, e => by
    cases e
    rfl
  | _, .bl i :: ds, ns, .cons h t, e => by
    obtain ⟨ns', e1, rfl⟩ := Option.map_eq_some_iff.mp (show (toBls ds).map (i :: ·) = some ns from e)
    cases h
    rw [den_bls t e1]
    rfl
def toStrs : List D → Option (List Str)
  | [] => some []
  | .str i :: r => (toStrs r).map (i :: ·)
  | _ :: _ => none
theorem den_strs {F : Addr → Prop} {H : Hp} : ∀ {vs : List V} {ds : List D} {ns : List Str}, DenL Cl F H vs ds → toStrs ds = some ns → vs = ns.map V.str
  | _, _, ns, .nil, e => by
    cases e
    rfl
  | _, .str i :: ds, ns, .cons h t, e => by
    obtain ⟨ns', e1, rfl⟩ := Option.map_eq_some_iff.mp (show (toStrs ds).map (i :: ·) = some ns from e)
    cases h
    rw [den_strs t e1]
    rfl
def fSum : List D → Option Out
  | [.lst xs] => (toInts xs).map fun ns => .v (.int ns.sum)
  | _ => none
theorem pl_sum : PureL Cl rSumU fSum := fun F H vs ds o Q th hp e k => by
  match ds, hp, e with
  | [.lst xs], hp, e =>
    obtain ⟨v, rfl, a, us, rfl, ha, la⟩ := pair_one hp
    obtain ⟨ns, e1, rfl⟩ := Option.map_eq_some_iff.mp e
    exact ⟨a, us, rfl, by rw [ha]; rfl, ns, den_ints la e1, k _ H (SubQ.refl _) (out_d th (.int _))⟩
theorem mono_sum {vs : List V} : Mono fun (_ : L2.St) H Q => rSumU vs H Q := fun σ H Q Q' ⟨a, xs, e, h, ns, e2, q⟩ k => ⟨a, xs, e, h, ns, e2, k _ _ q⟩
def fAll : List D → Option Out
  | [.lst xs] => (toBls xs).map fun ns => .v (.bl (ns.all id))
  | _ => none
def fAny : List D → Option Out
  | [.lst xs] => (toBls xs).map fun ns => .v (.bl (ns.any id))
  | _ => none
theorem pl_all : PureL Cl rAllU fAll := fun F H vs ds o Q th hp e k => by
  match ds, hp, e with
  | [.lst xs], hp, e =>
    obtain ⟨v, rfl, a, us, rfl, ha, la⟩ := pair_one hp
    obtain ⟨ns, e1, rfl⟩ := Option.map_eq_some_iff.mp e
    exact ⟨a, us, rfl, by rw [ha]; rfl, ns, den_bls la e1, k _ H (SubQ.refl _) (out_d th (.bl _))⟩
theorem pl_any : PureL Cl rAnyU fAny := fun F H vs ds o Q th hp e k => by
  match ds, hp, e with
  | [.lst xs], hp, e =>
    obtain ⟨v, rfl, a, us, rfl, ha, la⟩ := pair_one hp
    obtain ⟨ns, e1, rfl⟩ := Option.map_eq_some_iff.mp e
    exact ⟨a, us, rfl, by rw [ha]; rfl, ns, den_bls la e1, k _ H (SubQ.refl _) (out_d th (.bl _))⟩
theorem mono_all {vs : List V} : Mono fun (_ : L2.St) H Q => rAllU vs H Q := fun σ H Q Q' ⟨a, xs, e, h, ns, e2, q⟩ k => ⟨a, xs, e, h, ns, e2, k _ _ q⟩
theorem mono_any {vs : List V} : Mono fun (_ : L2.St) H Q => rAnyU vs H Q := fun σ H Q Q' ⟨a, xs, e, h, ns, e2, q⟩ k => ⟨a, xs, e, h, ns, e2, k _ _ q⟩
def fMax : List D → Option Out
  | [.int i, .int j] => some (.v (.int (max i j)))
  | _ => none
def fMin : List D → Option Out
  | [.int i, .int j] => some (.v (.int (min i j)))
  | _ => none
theorem pl_max : PureL Cl rMax2U fMax := fun F H vs ds o Q th hp e k => by
  match ds, hp, e with
  | [.int i, .int j], hp, e =>
    obtain ⟨u, v, rfl, h1, h2⟩ := pair_two hp
    cases h1
    cases h2
    cases e
    exact ⟨i, j, rfl, k _ H (SubQ.refl _) (out_d th (.int _))⟩
theorem pl_min : PureL Cl rMin2U fMin := fun F H vs ds o Q th hp e k => by
  match ds, hp, e with
  | [.int i, .int j], hp, e =>
    obtain ⟨u, v, rfl, h1, h2⟩ := pair_two hp
    cases h1
    cases h2
    cases e
    exact ⟨i, j, rfl, k _ H (SubQ.refl _) (out_d th (.int _))⟩
theorem mono_max {vs : List V} : Mono fun (_ : L2.St) H Q => rMax2U vs H Q := fun σ H Q Q' ⟨a, b, e, q⟩ k => ⟨a, b, e, k _ _ q⟩
theorem mono_min {vs : List V} : Mono fun (_ : L2.St) H Q => rMin2U vs H Q := fun σ H Q Q' ⟨a, b, e, q⟩ k => ⟨a, b, e, k _ _ q⟩
def fInt : List D → Option Out
  | [.int i] => some (.v (.int i))
  | [.bl b] => some (.v (.int (if b then 1 else 0)))
  | _ => none
theorem pl_int : PureL Cl rInt1U fInt := fun F H vs ds o Q th hp e k => by
  match ds, hp, e with
  | [.int i], hp, e =>
    obtain ⟨u, rfl, h1⟩ := pair_one hp
    cases h1
    cases e
    exact .inl ⟨i, rfl, k _ H (SubQ.refl _) (out_d th (.int _))⟩
  | [.bl b], hp, e =>
    obtain ⟨u, rfl, h1⟩ := pair_one hp
    cases h1
    cases e
    exact .inr ⟨b, rfl, k _ H (SubQ.refl _) (out_d th (.int _))⟩
theorem mono_int {vs : List V} : Mono fun (_ : L2.St) H Q => rInt1U vs H Q := fun σ H Q Q' h k => by
  rcases h with ⟨a, e, q⟩ | ⟨a, e, q⟩
  · exact .inl ⟨a, e, k _ _ q⟩
  · exact .inr ⟨a, e, k _ _ q⟩
def fAbs : List D → Option Out
  | [.int i] => some (.v (.int (i.natAbs : Nat)))
  | _ => none
theorem pl_abs : PureL Cl rAbsU fAbs := fun F H vs ds o Q th hp e k => by
  match ds, hp, e with
  | [.int i], hp, e =>
    obtain ⟨u, rfl, h1⟩ := pair_one hp
    cases h1
    cases e
    exact ⟨i, rfl, k _ H (SubQ.refl _) (out_d th (.int _))⟩
theorem mono_abs {vs : List V} : Mono fun (_ : L2.St) H Q => rAbsU vs H Q := fun σ H Q Q' ⟨a, e, q⟩ k => ⟨a, e, k _ _ q⟩
/-! ### isinstance, of a type -/
def tyD : D → Option String
  | .non => some "NoneType"
  | .bl _ => some "bool"
  | .int _ => some "int"
  | .str _ => some "str"
  | .lst _ => some "list"
  | .tup _ => some "tuple"
  | .dct _ => some "dict"
  | _ => none
theorem tyD_den {F : Addr → Prop} {H : Hp} {v : V} {d : D} {t : String} (h : DenN Cl F H v d) (e : tyD d = some t) : tyName H v = some t := by
  cases d with
  | non => cases h; exact e
  | bl b => cases h; exact e
  | int i => cases h; exact e
  | str x => cases h; exact e
  | lst xs =>
    obtain ⟨a, vs, rfl, ha, _⟩ := h
    rw [tyN_ref, ha]
    exact e
  | tup xs =>
    obtain ⟨a, vs, rfl, ha, _⟩ := h
    rw [tyN_ref, ha]
    exact e
  | dct xs =>
    obtain ⟨a, vs, rfl, ha, _⟩ := h
    rw [tyN_ref]
    cases q : H a with
    | none =>
      rw [q] at ha
      cases ha
    | some u =>
      rw [q] at ha
      cases u with
      | dK kvs => exact e
      | frz ob u =>
        cases u with
        | dK kvs => exact e
        | _ => cases ha
      | _ => cases ha
  | ins c fs => cases e
  | cls c => cases e
def mIsi (f : String → Bool) (m : En → MS → Res MV) : En → MS → Res MV := fun env μ => (m env μ).bind fun x μ1 => match (vw μ1 x).bind tyD with
  | some t => .ok (.d (.bl (f t))) μ1
  | none => .bad
theorem me_isi {b : Expr} {n : String} {p pos : Pos} {m : En → MS → Res MV} (hT : PE X b (tC (.ty n))) (hn' : n ∈ tyAsk) (hg : Gl X "isinstance") (hm : X.mg "isinstance" = none) (hv : bootBuiltins "isinstance" = some (.builtin "isinstance")) (he : ME X Cl E e m)
    (hst : starEach [e, b] X.env = (false, eval e X.env) :: starEach [b] X.env := by rfl) (hst2 : starEach [b] X.env = (false, eval b X.env) :: starEach [] X.env := by rfl) (hpl : (backTo pos (starEach [b] X.env)).any (·.1) = false := by rfl) :
    ME X Cl E (.Call (.Name "isinstance" p) [e, b] [] pos) (mIsi (fun t => isT t n) m) := ME.of (pe_callB call_isiU hg hm hv (pa_cons pe_sem (pa_cons hT pa_nil hst2) hst) (by decide) (by decide) hst hpl) <| mt_of fun σ env w Q s hv hp => by
  refine use_b (T := semE X e) he mono_E s hv hp fun x v w1 s1 x1 he1 rx hp => ?_
  cases q : (vw w1.μ x).bind tyD with
  | none =>
    simp only [q] at hp
    exact hp.elim
  | some t =>
    simp only [q] at hp
    obtain ⟨d, e1, e2⟩ := Option.bind_eq_some_iff.mp q
    exact ⟨v, n, t, rfl, tyD_den (rx.view s1 e1) e2, hn', RPost.done s1 hp (Den.bl _)⟩
/-! ### methods of texts -/
def PureM (Cl : Str → Addr) (r : V → List V → Hp → VK → Prop) (f : D → List D → Option Out) : Prop := ∀ F H v vs d ds o (Q : VK), Th F H → DenN Cl F H v d → Paired (DenN Cl F H) vs ds → f d ds = some o → (∀ x H', SubQ H H' → OutR Cl F H H' x o → Q x H') → r v vs H Q
def mSM (f : D → List D → Option Out) (mo m : En → MS → Res MV) : En → MS → Res MV := fun env μ => (mo env μ).bind fun x μ1 => match x with
  | .d (.str a) => (m env μ1).bind fun y μ2 => mOut ((vw μ2 y).bind fun d => f (.str a) [d]) μ2
  | _ => .bad
def mSM0 (f : D → List D → Option Out) (mo : En → MS → Res MV) : En → MS → Res MV := fun env μ => (mo env μ).bind fun x μ1 => match x with
  | .d (.str a) => mOut (f (.str a) []) μ1
  | _ => .bad
theorem use_mOut {o : Option Out} {T : VK → Prop} {Q : VK} (s : SR Cl w) (hp : RPost Cl E (RelM Cl) w (mOut o w.μ) Q) (h : ∀ o', o = some o' → (∀ x H', SubQ w.H H' → OutR Cl w.F w.H H' x o' → Q x H') → T Q) : T Q := by
  cases o with
  | none => exact hp.elim
  | some o' =>
    refine h o' rfl fun x H' hs ho => ?_
    have h1 := out_post s hs ho
    cases em : mOut (some o') w.μ with
    | ok z μ' =>
      rw [em] at h1 hp
      obtain ⟨w', a1, a2, a3, a4, a5⟩ := h1
      rw [← a1]
      exact hp x w' a2 a3 a4 a5
    | exc c fs μ' =>
      rw [em] at h1
      exact h1.elim
    | bad =>
      rw [em] at h1
      exact h1.elim
theorem mt_sm {r : V → List V → Hp → VK → Prop} {f : D → List D → Option Out} {mo m : En → MS → Res MV} (hf : PureM Cl r f) (ho : ME X Cl E o mo) (he : ME X Cl E e m) : MT Cl E (RelM Cl) Any (tM1 r (semE X o) (semE X e)) (mSM f mo m) := mt_of fun σ env w Q s hv hp => by
  refine use_b (T := semE X o) ho mono_E s hv hp fun x v w1 s1 x1 he1 rx hp => ?_
  match x, rx, hp with
  | .d (.str a), rx, hp =>
    have ev : v = .str a := by cases rx; rfl
    subst ev
    refine ⟨⟨a, rfl⟩, use_b (T := semE X e) he mono_E s1 he1 hp fun y u w2 s2 x2 he2 ry hp => ?_⟩
    refine use_mOut (T := fun Q => r (.str a) [u] w2.H Q) s2 hp fun o' e1 k => ?_
    obtain ⟨d, e2, e3⟩ := Option.bind_eq_some_iff.mp e1
    exact hf w2.F w2.H _ _ (.str a) [d] o' Q s2.th (.str a) (.cons (ry.view s2 e2) .nil) e3 k
theorem mt_sm0 {r : V → List V → Hp → VK → Prop} {f : D → List D → Option Out} {mo : En → MS → Res MV} (hf : PureM Cl r f) (ho : ME X Cl E o mo) : MT Cl E (RelM Cl) Any (tM0 r (semE X o)) (mSM0 f mo) := mt_of fun σ env w Q s hv hp => by
  refine use_b (T := semE X o) ho mono_E s hv hp fun x v w1 s1 x1 he1 rx hp => ?_
  match x, rx, hp with
  | .d (.str a), rx, hp =>
    have ev : v = .str a := by cases rx; rfl
    subst ev
    refine ⟨⟨a, rfl⟩, use_mOut (T := fun Q => r (.str a) [] w1.H Q) s1 hp fun o' e1 k => ?_⟩
    exact hf w1.F w1.H _ _ (.str a) [] o' Q s1.th (.str a) .nil e1 k
def fJoin : D → List D → Option Out
  | .str a, [.lst xs] => (toStrs xs).bind fun ys => if (ys.map (·.length)).sum + ys.length * a.length ≤ 16777216 then some (.v (.str (Txt.join a ys))) else none
  | _, _ => none
theorem pm_join : PureM Cl rJoinU fJoin := fun F H v vs d ds o Q th hv hp e k => by
  match d, ds, hv, hp, e with
  | .str a, [.lst xs], hv, hp, e =>
    obtain ⟨u, rfl, b, us, rfl, hb, lb⟩ := pair_one hp
    obtain ⟨ys, e1, e2⟩ := Option.bind_eq_some_iff.mp (show ((toStrs xs).bind fun ys => if (ys.map (·.length)).sum + ys.length * a.length ≤ 16777216 then some (Out.v (.str (Txt.join a ys))) else none) = some o from e)
    split at e2
    · rename_i hc
      cases e2
      cases hv
      exact ⟨a, b, us, rfl, rfl, by rw [hb]; rfl, ys, den_strs lb e1, hc, k _ H (SubQ.refl _) (out_d th (.str _))⟩
    · cases e2
def fCount : D → List D → Option Out
  | .str a, [.str b] => some (.v (.int (Txt.count a b)))
  | _, _ => none
theorem pm_count : PureM Cl (fun x xs H Q => ∃ a b, x = .str a ∧ xs = [.str b] ∧ Q (.int (Txt.count a b)) H) fCount := fun F H v vs d ds o Q th hv hp e k => by
  match d, ds, hv, hp, e with
  | .str a, [.str b], hv, hp, e =>
    obtain ⟨u, rfl, h1⟩ := pair_one hp
    cases h1
    cases hv
    cases e
    exact ⟨a, b, rfl, rfl, k _ H (SubQ.refl _) (out_d th (.int _))⟩
def fSIndex : D → List D → Option Out
  | .str a, [.str b] => match Builtin.Str.occurrences a b 0 a.length 1 with
    | i :: _ => some (.v (.int (i : Nat)))
    | [] => none
  | _, _ => none
theorem pm_index : PureM Cl (fun x xs H Q => ∃ a b i rest, x = .str a ∧ xs = [.str b] ∧ Builtin.Str.occurrences a b 0 a.length 1 = i :: rest ∧ Q (.int (i : Nat)) H) fSIndex := fun F H v vs d ds o Q th hv hp e k => by
  match d, ds, hv, hp, e with
  | .str a, [.str b], hv, hp, e =>
    obtain ⟨u, rfl, h1⟩ := pair_one hp
    cases h1
    cases hv
    unfold fSIndex at e
    simp only at e
    split at e
    · rename_i i rest h
      cases e
      exact ⟨a, b, i, rest, rfl, rfl, h, k _ H (SubQ.refl _) (out_d th (.int _))⟩
    · cases e
def fUpper : D → List D → Option Out
  | .str a, [] => if a.length ≤ 5592405 then some (.v (.str (Txt.upper a))) else none
  | _, _ => none
theorem pm_upper : PureM Cl (fun x xs H Q => ∃ a, x = .str a ∧ xs = [] ∧ a.length ≤ 5592405 ∧ Q (.str (Txt.upper a)) H) fUpper := fun F H v vs d ds o Q th hv hp e k => by
  match d, ds, hv, hp, e with
  | .str a, [], hv, hp, e =>
    cases hp
    cases hv
    unfold fUpper at e
    simp only at e
    split at e
    · rename_i h
      cases e
      exact ⟨a, rfl, rfl, h, k _ H (SubQ.refl _) (out_d th (.str _))⟩
    · cases e
def fStarts : D → List D → Option Out
  | .str a, [.str b] => some (.v (.bl (Txt.startswith a b)))
  | _, _ => none
theorem pm_starts : PureM Cl (fun x xs H Q => ∃ a b, x = .str a ∧ xs = [.str b] ∧ Q (.bl (Txt.startswith a b)) H) fStarts := fun F H v vs d ds o Q th hv hp e k => by
  match d, ds, hv, hp, e with
  | .str a, [.str b], hv, hp, e =>
    obtain ⟨u, rfl, h1⟩ := pair_one hp
    cases h1
    cases hv
    cases e
    exact ⟨a, b, rfl, rfl, k _ H (SubQ.refl _) (out_d th (.bl _))⟩
end
end Q
end

set_option Elab.async false
set_option linter.all false
set_option maxRecDepth 100000
set_option maxHeartbeats 4000000
/-! Walks of dicts, ranges, enumerate; slices. -/
noncomputable section
open Classical
namespace G
open PySem PySem.Spec PyProof.Rows L2
/-- a dict that is about to be walked is locked (for good) -/
def tLk (te : TE) : TE := fun σ H Q => te σ H fun v H1 => ∃ d kvs, v = .ref d ∧ ((H1 d = some (.dK kvs) ∧ ∀ o, Q v (upd H1 d (.frz o (.dK kvs)))) ∨ ((∃ o, H1 d = some (.frz o (.dK kvs))) ∧ Q v H1))
theorem pe_lk {X : Cx} {e : Expr} {te : TE} (h : PE X e te) : PE X e (tLk te) := by
  refine ⟨fun pins s σ H Q I hw => ?_⟩
  refine thn (h.run pins s σ _ _ I hw) fun v s1 ⟨x, H1, I1, r, d, kvs, ex, q⟩ => ?_
  rcases q with ⟨hd, q⟩ | ⟨_, q⟩
  · obtain ⟨od, I2⟩ := I1.lock hd trivial
    exact ⟨x, _, I2, r, q od⟩
  · exact ⟨x, H1, I1, r, q⟩
end G
namespace Q
variable [Tables]
open PySem PySem.Spec PyProof.Rows L2 G
section
variable {X : Cx} {Cl : Str → Addr} {E : XK} {D' : Ends} {w w' w1 : Wd} {e o tg iter : Expr} {es : List Expr}
theorem SR.lockF (s : SR Cl w) {d : Addr} {o : Obj} {kvs : List (Key × V)} (hF : w.F d) (hd : w.H d = some (.dK kvs)) : SR Cl ⟨w.F, w.ρ, upd w.H d (.frz o (.dK kvs)), w.μ⟩ ∧ Ext w ⟨w.F, w.ρ, upd w.H d (.frz o (.dK kvs)), w.μ⟩ := by
  have x : Ext w ⟨w.F, w.ρ, upd w.H d (.frz o (.dK kvs)), w.μ⟩ := ⟨fun _ h => h, fun a h n => by
    by_cases c : a = d
    · subst c
      exact .inr (.inl ⟨hF, o, kvs, hd, upd_same⟩)
    · exact .inl (upd_ne c), fun p o e => ⟨rfl, o, e, fun _ => rfl⟩, fun _ h => .inl h, (fun p ⟨o, e, _⟩ h => by rw [show w.μ.get p = some o from e] at h; cases h), (fun a h => by
      show upd w.H d (.frz o (.dK kvs)) a ≠ none
      by_cases c : a = d
      · subst c
        rw [upd_same]
        nofun
      · rw [upd_ne c]
        exact h), rfl⟩
  refine ⟨⟨tabs_upd s.tb hd plain_dK, fun p m e => ?_, s.inj, s.nf, fun a ha => x.nn a (s.th a ha), tO_upd s.tO nofun⟩, x⟩
  rcases s.obj p m e with h | ⟨u, h1, h2⟩
  · exact .inl (frzE x s h)
  · by_cases c : m.isF
    · obtain ⟨d', rfl⟩ := isF_ex c
      cases u <;> exact h2.elim
    · have ne : w.ρ p ≠ d := fun z => s.nf p ⟨m, e, c⟩ (by rw [z]; exact hF)
      exact .inr ⟨u, (upd_ne ne).trans h1, h2.ext x s⟩
theorem mi_of2 {α : Type} {wz : TIZ α} {n : En → MS → Res MV} {f : D → Option (List D)} (he : ME X Cl E e n) (hi : PIZ X tg iter wz)
    (hk : ∀ σ H (k : List α → (Hp → Prop) → (α → Hp → V → Hp → Prop) → Hp → Prop), (semE X e σ H fun x H1 => ∃ (d : D) (ds : List D) (w1 : Wd), w1.H = H1 ∧ SR Cl w1 ∧ Den Cl w1.F w1.H x d ∧ f d = some ds ∧ ∀ w2, w2.μ = w1.μ → SR Cl w2 → Ext w1 w2 → ∀ zs Gd R, Walked Cl w2 zs ds Gd R → k zs Gd R w2.H) → wz σ H k) : MI X Cl E tg iter (items n f) := by
  refine ⟨α, wz, hi, fun σ env w k s hv hm => hk σ w.H k ?_⟩
  refine mt_use (me_frz he) mono_E s hv ?_
  unfold items at hm
  cases en : mFrz n env w.μ with
  | bad =>
    rw [en] at hm
    exact hm
  | exc c fs μ' =>
    rw [en] at hm
    exact hm
  | ok y μ' =>
    rw [en] at hm
    intro v w1 e1 s1 x1 r
    cases y with
    | r p => exact hm.elim
    | d d =>
      simp only [Res.bind] at hm
      cases ef : f d with
      | none =>
        rw [ef] at hm
        exact hm.elim
      | some ds =>
        rw [ef] at hm
        exact ⟨d, ds, w1, rfl, s1, r, ef, fun w2 e2 s2 x2 zs Gd R wk => hm w2 (e2.trans e1) s2 (x1.trans x2) zs Gd R wk⟩
def kDt : Key → D
  | .inl i => .int i
  | .inr x => .str x
theorem den_k {F : Addr → Prop} {H : Hp} (k : Key) : Den Cl F H (kV k) (kDt k) := by
  cases k with
  | inl i => exact .int i
  | inr x => exact .str x
def keyI : D → Option (List D)
  | .dct kvs => some (kvs.map fun kv => kDt kv.1)
  | _ => none
def valI : D → Option (List D)
  | .dct kvs => some (kvs.map (·.2))
  | _ => none
def itemI : D → Option (List D)
  | .dct kvs => some (kvs.map fun kv => .tup [kDt kv.1, kv.2])
  | _ => none
theorem walked_tup {α : Type} {zs : List α} {ds : List D} {f : α → List V} {Gd : Hp → Prop} (hl : zs.length = ds.length) (gd : ∀ w', Ext w1 w' → SR Cl w' → Gd w'.H)
    (h : ∀ (i : Nat) z d w', zs[i]? = some z → ds[i]? = some d → Ext w1 w' → SR Cl w' → ∃ xs, d = .tup xs ∧ DenL Cl w'.F w'.H (f z) xs) : Walked Cl w1 zs ds Gd (RTup f) :=
  ⟨hl, gd, fun i z d w' x H' h1 h2 x' s' hr => by
    obtain ⟨T, rfl, hT, rfl⟩ := hr
    obtain ⟨xs, rfl, hx⟩ := h i z d w' h1 h2 x' s'
    obtain ⟨F', f1, f2, f3, f4⟩ := out_tup s'.th hT hx
    obtain ⟨s2, x2⟩ := s'.sub (SubQ.new hT) f1 f2 f3
    exact ⟨⟨F', w'.ρ, upd w'.H T (.tup (f z)), w'.μ⟩, rfl, rfl, s2, x2, f4⟩⟩
/-- what is known of a dict that is walked -/
theorem walk_dict {x : V} {kvs : List (Key × D)} {Q : V → Hp → Prop} (s : SR Cl w) (hd : Den Cl w.F w.H x (.dct kvs)) (k : ∀ d o us (w2 : Wd), x = .ref d → w2.μ = w.μ → SR Cl w2 → Ext w w2 → w2.H d = some (.frz o (.dK us)) → us.map (·.1) = kvs.map (·.1) → DenL Cl w2.F w2.H (us.map (·.2)) (kvs.map (·.2)) →
      (∀ w3, Ext w2 w3 → w3.H d = some (.frz o (.dK us))) → Q x w2.H) : ∃ d us, x = .ref d ∧ ((w.H d = some (.dK us) ∧ ∀ o, Q x (upd w.H d (.frz o (.dK us)))) ∨ ((∃ o, w.H d = some (.frz o (.dK us))) ∧ Q x w.H)) := by
  cases hd with
  | @dct a us _ hF hl hk hv =>
    have hv' : DenL Cl w.F w.H (us.map (·.2)) (kvs.map (·.2)) := paired_of (by have := congrArg List.length hk; simpa using this) hv
    refine ⟨a, us, rfl, ?_⟩
    have kp : ∀ (w2 w3 : Wd) (o : Obj), w2.H a = some (.frz o (.dK us)) → w2.F a → SR Cl w2 → Ext w2 w3 → w3.H a = some (.frz o (.dK us)) := fun w2 w3 o h f s2 x => by
      rcases x.keep a (by rw [h]; nofun) (fun p hp e => s2.nf p hp (by rw [e]; exact f)) with h2 | ⟨_, _, _, h2, _⟩ | ⟨_, _, h2, _⟩
      · exact h2.trans h
      · rw [h] at h2
        cases h2
      · rw [h] at h2
        cases h2
    cases e : w.H a with
    | none =>
      rw [e] at hl
      cases hl
    | some u =>
      rw [e] at hl
      have main : (u = .dK us) ∨ ∃ o, u = .frz o (.dK us) := by
        cases u <;> first
          | exact .inl (Option.some.inj hl)
          | (rename_i ob u'; exact .inr ⟨ob, by rw [show u' = .dK us from Option.some.inj hl]⟩)
          | cases hl
      rcases main with rfl | ⟨o, rfl⟩
      · refine .inl ⟨rfl, fun o => ?_⟩
        obtain ⟨s2, x2⟩ := s.lockF (o := o) hF e
        exact k a o us ⟨w.F, w.ρ, upd w.H a (.frz o (.dK us)), w.μ⟩ rfl rfl s2 x2 upd_same hk (Paired.mapP hv' fun _ _ h => h.mono (fun _ h => h) (x2.keepF s)) fun w3 x3 => kp ⟨w.F, w.ρ, upd w.H a (.frz o (.dK us)), w.μ⟩ w3 o upd_same hF s2 x3
      · exact .inr ⟨⟨o, rfl⟩, k a o us w rfl rfl s Ext.refl e hk hv' fun w3 x3 => kp w w3 o e hF s x3⟩
theorem mi_keys {n : En → MS → Res MV} (he : ME X Cl E e n) : MI X Cl E tg e (items n keyI) := mi_of2 he (z_keys (pe_lk pe_sem)) fun σ H k h => mono_E σ H _ _ h fun x H1 ⟨d, ds, w1, e1, s1, hd, hf, hk⟩ => by
  cases d <;> simp only [keyI, reduceCtorEq, Option.some.injEq] at hf
  subst hf
  subst e1
  refine walk_dict (Q := fun v H1 => ∃ d o kvs, v = V.ref d ∧ H1 d = some (.frz o (.dK kvs)) ∧ k kvs (fun H => H d = some (.frz o (.dK kvs))) (RVal fun kv => kV kv.1) H1) s1 hd fun a o us w2 ex e2 s2 x2 h2 hks hvs kp => ⟨a, o, us, ex, h2, hk w2 e2 s2 x2 _ _ _ ⟨?_, fun w3 x3 _ => kp w3 x3, fun i z d w' x H' h1 h2 x' s' hr => ?_⟩⟩
  · simpa using congrArg List.length hks
  · obtain ⟨rfl, rfl⟩ := hr
    have e1 := congrArg (fun l => l[i]?) hks
    simp only [List.getElem?_map, h1] at e1
    rw [List.getElem?_map] at h2
    obtain ⟨z2, h3, h4⟩ := Option.map_eq_some_iff.mp h2
    rw [h3] at e1
    have e1 : z.1 = z2.1 := Option.some.inj e1
    refine ⟨w', rfl, rfl, s', Ext.refl, ?_⟩
    rw [← h4, ← e1]
    exact den_k _
theorem mi_vals {n : En → MS → Res MV} {apos cpos : Pos} (he : ME X Cl E e n) (hbase : attributeBase e "values" X.env (eval e X.env) = eval e X.env := by rfl) (hline : (apos.endLine == cpos.line) = true := by rfl) : MI X Cl E tg (.Call (.Attribute e "values" apos) [] [] cpos) (items n valI) := mi_of2 he (z_vals (pe_lk pe_sem) hbase hline) fun σ H k h => mono_E σ H _ _ h fun x H1 ⟨d, ds, w1, e1, s1, hd, hf, hk⟩ => by
  cases d <;> simp only [valI, reduceCtorEq, Option.some.injEq] at hf
  subst hf
  subst e1
  refine walk_dict (Q := fun v H1 => ∃ d o kvs, v = V.ref d ∧ H1 d = some (.frz o (.dK kvs)) ∧ k kvs (fun H => H d = some (.frz o (.dK kvs))) (RVal fun kv => kv.2) H1) s1 hd fun a o us w2 ex e2 s2 x2 h2 hks hvs kp => ⟨a, o, us, ex, h2, hk w2 e2 s2 x2 _ _ _ ⟨?_, fun w3 x3 _ => kp w3 x3, fun i z d w' x H' h1 h2 x' s' hr => ?_⟩⟩
  · simpa using congrArg List.length hks
  · obtain ⟨rfl, rfl⟩ := hr
    exact ⟨w', rfl, rfl, s', Ext.refl, (paired_get hvs i z.2 d (by rw [List.getElem?_map, h1]; rfl) h2).mono x'.ff (x'.keepF s2)⟩
theorem mi_items {elts : List Expr} {kk : Nat} {apos cpos tpos : Pos} {n : En → MS → Res MV} (he : ME X Cl E e n) (hbase : attributeBase e "items" X.env (eval e X.env) = eval e X.env := by rfl) (hline : (apos.endLine == cpos.line) = true := by rfl) :
    MI X Cl E (.Tuple elts kk tpos) (.Call (.Attribute e "items" apos) [] [] cpos) (items n itemI) := mi_of2 he (z_items (pe_lk pe_sem) hbase hline) fun σ H k h => mono_E σ H _ _ h fun x H1 ⟨d, ds, w1, e1, s1, hd, hf, hk⟩ => by
  cases d <;> simp only [itemI, reduceCtorEq, Option.some.injEq] at hf
  subst hf
  subst e1
  refine walk_dict (Q := fun v H1 => ∃ d o kvs, v = V.ref d ∧ H1 d = some (.frz o (.dK kvs)) ∧ k kvs (fun H => H d = some (.frz o (.dK kvs))) (RTup fun kv => [kV kv.1, kv.2]) H1) s1 hd fun a o us w2 ex e2 s2 x2 h2 hks hvs kp => ⟨a, o, us, ex, h2, hk w2 e2 s2 x2 _ _ _ (walked_tup ?_ (fun w3 x3 _ => kp w3 x3) fun i z d w' h1 h2 x' s' => ?_)⟩
  · simpa using congrArg List.length hks
  · have e1 := congrArg (fun l => l[i]?) hks
    simp only [List.getElem?_map, h1] at e1
    rw [List.getElem?_map] at h2
    obtain ⟨z2, h3, h4⟩ := Option.map_eq_some_iff.mp h2
    rw [h3] at e1
    have e1 : z.1 = z2.1 := Option.some.inj e1
    refine ⟨_, h4.symm, .cons ?_ (.cons ?_ .nil)⟩
    · rw [e1]
      exact den_k _
    · exact (paired_get hvs i z.2 z2.2 (by rw [List.getElem?_map, h1]; rfl) (by rw [List.getElem?_map, h3]; rfl)).mono x'.ff (x'.keepF s2)
/-! ### ranges -/
def rngI (ns : En → MS → Res (List MV)) (g : List MV → Option (List Int)) : En → MS → Res (List D) := fun env μ => (ns env μ).bind fun xs μ1 => match g xs with
  | some is => .ok (is.map D.int) μ1
  | none => .bad
theorem mi_rng {wz : TIZ Int} {ns : En → MS → Res (List MV)} {g : List MV → Option (List Int)} (ha : MA X Cl E es ns) (hi : PIZ X tg iter wz)
    (hk : ∀ σ H (k : List Int → (Hp → Prop) → (Int → Hp → V → Hp → Prop) → Hp → Prop), (semA X es σ H fun vs H1 => ∃ (xs : List MV) (is : List Int) (w1 : Wd), w1.H = H1 ∧ RelL Cl w1 vs xs ∧ g xs = some is ∧ k is (fun _ => True) (RVal V.int) H1) → wz σ H k) : MI X Cl E tg iter (rngI ns g) := by
  refine ⟨Int, wz, hi, fun σ env w k s hv hm => hk σ w.H k ?_⟩
  refine mt_use ha mono_A s hv ?_
  unfold rngI at hm
  cases en : ns env w.μ with
  | bad =>
    rw [en] at hm
    exact hm
  | exc c fs μ' =>
    rw [en] at hm
    exact hm
  | ok y μ' =>
    rw [en] at hm
    intro v w1 e1 s1 x1 r
    simp only [Res.bind] at hm
    cases ef : g y with
    | none =>
      rw [ef] at hm
      exact hm.elim
    | some is =>
      rw [ef] at hm
      exact ⟨y, is, w1, rfl, r, ef, hm w1 e1 s1 x1 _ _ _ (walked_fn fun z _ _ => Den.int z)⟩
def g1 : List MV → Option (List Int)
  | [.d (.int j)] => if -(2 ^ 62) ≤ j ∧ j < 2 ^ 62 then some (intsZ 0 j) else none
  | _ => none
def g2 : List MV → Option (List Int)
  | [.d (.int i), .d (.int j)] => if -(2 ^ 62) ≤ i ∧ i < 2 ^ 62 ∧ -(2 ^ 62) ≤ j ∧ j < 2 ^ 62 then some (intsZ i j) else none
  | _ => none
theorem rel_ints2 {vs : List V} {i j : Int} (h : RelL Cl w vs [.d (.int i), .d (.int j)]) : vs = [.int i, .int j] := by
  obtain ⟨u, v, rfl, h1, h2⟩ := pair_two h
  cases h1
  cases h2
  rfl
theorem rel_ints1 {vs : List V} {i : Int} (h : RelL Cl w vs [.d (.int i)]) : vs = [.int i] := by
  obtain ⟨u, rfl, h1⟩ := pair_one h
  cases h1
  rfl
theorem mi_rng1 {a : Expr} {p pos : Pos} {ns : En → MS → Res (List MV)} (hg : Gl X "range") (hm : X.mg "range" = none) (ha : MA X Cl E [a] ns) (hs : starEach [a] X.env = [(false, eval a X.env)] := by rfl) : MI X Cl E tg (.Call (.Name "range" p) [a] [] pos) (rngI ns g1) :=
  mi_rng ha (z_rng1 hg hm pa_sem hs) fun σ H k h => mono_A σ H _ _ h fun vs H1 ⟨xs, is, w1, e1, r, e2, q⟩ => by
    match xs, r, e2 with
    | [.d (.int j)], r, e2 =>
      unfold g1 at e2
      simp only at e2
      split at e2
      · rename_i hc
        cases e2
        exact ⟨j, rel_ints1 r, hc.1, hc.2, q⟩
      · cases e2
theorem mi_rng2 {a b : Expr} {p pos : Pos} {ns : En → MS → Res (List MV)} (hg : Gl X "range") (hm : X.mg "range" = none) (ha : MA X Cl E [a, b] ns) (hs : starEach [a, b] X.env = [(false, eval a X.env), (false, eval b X.env)] := by rfl)
    (hs2 : starEach [b] X.env = [(false, eval b X.env)] := by rfl) : MI X Cl E tg (.Call (.Name "range" p) [a, b] [] pos) (rngI ns g2) :=
  mi_rng ha (z_rng2 hg hm pa_sem hs hs2) fun σ H k h => mono_A σ H _ _ h fun vs H1 ⟨xs, is, w1, e1, r, e2, q⟩ => by
    match xs, r, e2 with
    | [.d (.int i), .d (.int j)], r, e2 =>
      unfold g2 at e2
      simp only at e2
      split at e2
      · rename_i hc
        cases e2
        exact ⟨i, j, rel_ints2 r, hc, q⟩
      · cases e2
end
end Q
end

set_option Elab.async false
set_option linter.all false
set_option maxRecDepth 100000
set_option maxHeartbeats 4000000
/-! Enumerate; slices; get of a dict; empty dicts; calls with defaults. -/
noncomputable section
open Classical
namespace Q
variable [Tables]
open PySem PySem.Spec PyProof.Rows L2 G
section
variable {X : Cx} {Cl : Str → Addr} {E : XK} {D' : Ends} {w w' w1 : Wd} {e f o tg iter : Expr} {es : List Expr}
/-! ### enumerate -/
def enumI (g : D → Option (List D)) (ns : En → MS → Res (List MV)) : En → MS → Res (List D) := fun env μ => (ns env μ).bind fun xs μ1 => match xs with
  | [x] => match mFrz (fun _ μ => .ok x μ) env μ1 with
    | .ok (.d d) μ2 => match g d with
      | some ds => .ok (ds.zipIdx.map fun z => .tup [.int (z.2 : Nat), z.1]) μ2
      | none => .bad
    | _ => .bad
  | _ => .bad
/-- a list's lone value is frozen -/
theorem frz_one {env : En} {x : MV} {v : V} {d : D} {μ2 : MS} (s : SR Cl w) (r : RelM Cl w v x) (h : mFrz (fun _ μ => .ok x μ) env w.μ = .ok (.d d) μ2) : ∃ w2 : Wd, w2.H = w.H ∧ w2.μ = μ2 ∧ SR Cl w2 ∧ Ext w w2 ∧ Den Cl w2.F w2.H v d := by
  unfold mFrz at h
  simp only [Res.bind] at h
  cases x with
  | d x =>
    cases h
    exact ⟨w, rfl, rfl, s, Ext.refl, r⟩
  | r p =>
    simp only at h
    cases e : frzD 4 p w.μ with
    | none =>
      rw [e] at h
      cases h
    | some z =>
      obtain ⟨d', μ'⟩ := z
      rw [e] at h
      cases h
      obtain ⟨rfl, _⟩ := r
      exact frzD_ok 4 p w d μ2 s e
theorem mi_enumS {elts : List Expr} {kk : Nat} {p pos tpos : Pos} {ns : En → MS → Res (List MV)} (hg : Gl X "enumerate") (hm : X.mg "enumerate" = none) (ha : MA X Cl E [e] ns) (hs : starEach [e] X.env = [(false, eval e X.env)] := by rfl) :
    MI X Cl E (.Tuple elts kk tpos) (.Call (.Name "enumerate" p) [e] [] pos) (enumI strI ns) := by
  refine ⟨Nat × Nat, _, z_enumS hg hm pa_sem hs, fun σ env w k s hv hm => ?_⟩
  refine mt_use (T := semA X [e]) ha mono_A s hv ?_
  unfold enumI at hm
  cases en : ns env w.μ with
  | bad =>
    rw [en] at hm
    exact hm
  | exc c fs μ' =>
    rw [en] at hm
    exact hm
  | ok y μ' =>
    rw [en] at hm
    intro v w1 e1 s1 x1 r
    simp only [Res.bind] at hm
    match y, r, hm with
    | [x], r, hm =>
      simp only at hm
      obtain ⟨u, rfl, rx⟩ := pair_one r
      rw [← e1] at hm
      cases ef : mFrz (fun _ μ => .ok x μ) env w1.μ with
      | bad =>
        rw [ef] at hm
        exact hm.elim
      | exc c fs μ'' =>
        rw [ef] at hm
        exact hm.elim
      | ok z μ2 =>
        cases z with
        | r q =>
          rw [ef] at hm
          exact hm.elim
        | d d =>
          rw [ef] at hm
          simp only at hm
          obtain ⟨w2, a1, a2, a3, a4, a5⟩ := frz_one s1 rx ef
          cases d with
          | str z =>
            simp only [strI] at hm
            cases a5
            refine ⟨z, rfl, ?_⟩
            rw [← a1]
            refine hm w2 a2 a3 (x1.trans a4) _ _ _ (walked_tup (by simp) (fun _ _ _ => trivial) fun i q d w' h1 h2 x' s' => ?_)
            rw [List.getElem?_map, List.getElem?_zipIdx] at h2
            rw [List.getElem?_zipIdx] at h1
            obtain ⟨b, h3, h4⟩ := Option.map_eq_some_iff.mp h2
            obtain ⟨c, h5, h6⟩ := Option.map_eq_some_iff.mp h1
            obtain ⟨c', h7, h8⟩ := Option.map_eq_some_iff.mp h3
            rw [List.getElem?_map, h5] at h7
            cases h7
            subst h6 h8 h4
            exact ⟨_, rfl, .cons (.int _) (.cons (.str _) .nil)⟩
          | _ => exact hm.elim
theorem mi_enumL {elts : List Expr} {kk : Nat} {p pos tpos : Pos} {ns : En → MS → Res (List MV)} (hg : Gl X "enumerate") (hm : X.mg "enumerate" = none) (ha : MA X Cl E [e] ns) (hs : starEach [e] X.env = [(false, eval e X.env)] := by rfl) :
    MI X Cl E (.Tuple elts kk tpos) (.Call (.Name "enumerate" p) [e] [] pos) (enumI lstI ns) := by
  refine ⟨V × Nat, _, z_enumL hg hm pa_sem hs, fun σ env w k s hv hm => ?_⟩
  refine mt_use (T := semA X [e]) ha mono_A s hv ?_
  unfold enumI at hm
  cases en : ns env w.μ with
  | bad =>
    rw [en] at hm
    exact hm
  | exc c fs μ' =>
    rw [en] at hm
    exact hm
  | ok y μ' =>
    rw [en] at hm
    intro v w1 e1 s1 x1 r
    simp only [Res.bind] at hm
    match y, r, hm with
    | [x], r, hm =>
      simp only at hm
      obtain ⟨u, rfl, rx⟩ := pair_one r
      rw [← e1] at hm
      cases ef : mFrz (fun _ μ => .ok x μ) env w1.μ with
      | bad =>
        rw [ef] at hm
        exact hm.elim
      | exc c fs μ'' =>
        rw [ef] at hm
        exact hm.elim
      | ok z μ2 =>
        cases z with
        | r q =>
          rw [ef] at hm
          exact hm.elim
        | d d =>
          rw [ef] at hm
          simp only at hm
          obtain ⟨w2, a1, a2, a3, a4, a5⟩ := frz_one s1 rx ef
          cases d with
          | lst ds =>
            simp only [lstI] at hm
            cases a5 with
            | @lst a us _ hF hu hl hv =>
              have hd : DenL Cl w2.F w2.H us ds := paired_of hl hv
              refine ⟨a, us, rfl, by rw [← a1, hu]; rfl, ?_⟩
              rw [← a1]
              refine hm w2 a2 a3 (x1.trans a4) _ _ _ (walked_tup (by simp [hl]) (fun w' x' s' => (x'.keepF a3).lkE hF (by rw [hu]; rfl) nofun) fun i q d w' h1 h2 x' s' => ?_)
              rw [List.getElem?_map, List.getElem?_zipIdx] at h2
              rw [List.getElem?_zipIdx] at h1
              obtain ⟨b, h3, h4⟩ := Option.map_eq_some_iff.mp h2
              obtain ⟨c, h5, h6⟩ := Option.map_eq_some_iff.mp h1
              obtain ⟨c', h7, h8⟩ := Option.map_eq_some_iff.mp h3
              subst h6 h8 h4
              exact ⟨_, rfl, .cons (.int _) (.cons ((paired_get hd i c c' h5 h7).mono x'.ff (x'.keepF a3)) .nil)⟩
          | _ => exact hm.elim
/-! ### slices -/
structure MPt (X : Cx) (Cl : Str → Addr) (E : XK) (e : Option Expr) (m : En → MS → Res (Option Int)) : Prop where
  ex : ∃ t, PO X e t ∧ Mono t ∧ MT Cl E (fun _ (a b : Option Int) => a = b) Any t m
def mNoPart : En → MS → Res (Option Int) := fun _ μ => .ok none μ
def mPart (m : En → MS → Res MV) : En → MS → Res (Option Int) := fun env μ => (m env μ).bind fun x μ1 => match x with
  | .d (.int i) => .ok (some i) μ1
  | _ => .bad
theorem mpt_none : MPt X Cl E none mNoPart := ⟨_, po_none, fun σ H Q Q' h k => k _ _ h, mt_of fun σ env w Q s hv hp => RPost.done (Ra := fun _ (a b : Option Int) => a = b) s hp rfl⟩
theorem mono_part {t : TE} (h : Mono t) : Mono (tPart t) := fun σ H Q Q' p q => h σ H _ _ p fun x H1 ⟨i, e, z⟩ => ⟨i, e, q _ _ z⟩
theorem mpt_some {m : En → MS → Res MV} (he : ME X Cl E e m) : MPt X Cl E (some e) (mPart m) := ⟨_, po_some pe_sem, mono_part mono_E, mt_of fun σ env w Q s hv hp => by
  refine use_b (T := semE X e) he mono_E s hv hp fun x v w1 s1 x1 he1 rx hp => ?_
  match x, rx, hp with
  | .d (.int i), rx, hp =>
    refine ⟨i, by cases rx; rfl, RPost.done (Ra := fun _ (a b : Option Int) => a = b) s1 hp rfl⟩⟩
def cutD (xs : List D) (lo hi : Option Int) : List D := (xs.drop (HT.sIx xs.length 0 lo)).take (HT.sIx xs.length xs.length hi - HT.sIx xs.length 0 lo)
def fSl (lo hi : Option Int) : D → Option Out
  | .lst xs => some (.n (.lst ((cutD xs lo hi).map .d)))
  | .str z => if z.length ≤ sizeLine then some (.v (.str (cutS z lo hi))) else none
  | _ => none
def mSl (m : En → MS → Res MV) (ml mh : En → MS → Res (Option Int)) : En → MS → Res MV := fun env μ => (m env μ).bind fun x μ1 => (ml env μ1).bind fun lo μ2 => (mh env μ2).bind fun hi μ3 => mOut ((vw μ3 x).bind (fSl lo hi)) μ3
theorem me_slice {lo hi : Option Expr} {p2 pos : Pos} {m : En → MS → Res MV} {ml mh : En → MS → Res (Option Int)} (he : ME X Cl E e m) (hl : MPt X Cl E lo ml) (hh : MPt X Cl E hi mh) : ME X Cl E (.Subscript e (.Slice lo hi none p2) pos) (mSl m ml mh) := by
  obtain ⟨tl, l1, l2, l3⟩ := hl.ex
  obtain ⟨th, h1, h2, h3⟩ := hh.ex
  refine ME.of (pe_slice sl_U pe_sem l1 h1) <| mt_of fun σ env w Q s hv hp => ?_
  refine use_b (T := semE X e) he mono_E s hv hp fun x v w1 s1 x1 he1 rx hp => ?_
  refine use_b (T := tl) l3 l2 s1 he1 hp fun l l' w2 s2 x2 he2 rl hp => ?_
  refine use_b (T := th) h3 h2 s2 he2 hp fun u u' w3 s3 x3 he3 ru hp => ?_
  obtain rfl : l' = l := rl
  obtain rfl : u' = u := ru
  refine use_mOut (T := fun Q => rSlU v l' u' w3.H Q) s3 hp fun o' e1 k => ?_
  obtain ⟨d, e2, e3⟩ := Option.bind_eq_some_iff.mp e1
  have rv := ((rx.ext x2 s1).ext x3 s2).view s3 e2
  cases d with
  | lst xs =>
    cases e3
    obtain ⟨a, us, rfl, ha, la⟩ := rv
    refine .inl ⟨a, us, rfl, by rw [ha]; rfl, fun p hp => k _ _ (SubQ.new hp) (out_lst hp ?_)⟩
    unfold cutV cutD
    rw [den_len la]
    exact (la.drop _).take _
  | str z =>
    unfold fSl at e3
    simp only at e3
    split at e3
    · rename_i hc
      cases e3
      cases rv
      exact .inr ⟨z, rfl, hc, k _ _ (SubQ.refl _) (out_d s3.th (.str _))⟩
    · cases e3
  | _ => cases e3
def fRev : D → Option Out
  | .lst xs => some (.n (.lst (xs.reverse.map .d)))
  | _ => none
theorem DenL.reverse {F : Addr → Prop} {H : Hp} {vs : List V} {ds : List D} (h : DenL Cl F H vs ds) : DenL Cl F H vs.reverse ds.reverse := by
  induction h with
  | nil => exact .nil
  | cons h t ih =>
    rw [List.reverse_cons, List.reverse_cons]
    exact DenL.app ih (.cons h .nil)
def mRev (m : En → MS → Res MV) : En → MS → Res MV := fun env μ => (m env μ).bind fun x μ1 => mOut ((vw μ1 x).bind fRev) μ1
theorem me_rev {k : Nat} {p1 p2 p3 pos : Pos} {m : En → MS → Res MV} (he : ME X Cl E e m) : ME X Cl E (.Subscript e (.Slice none none (some (.UnaryOp .USub (.Constant (.int 1) k p1) p2)) p3) pos) (mRev m) := ME.of (pe_revL pe_sem) <| mt_of fun σ env w Q s hv hp => by
  refine use_b (T := semE X e) he mono_E s hv hp fun x v w1 s1 x1 he1 rx hp => ?_
  refine use_mOut (T := fun Q => ∃ a xs, v = .ref a ∧ SqL X.K w1.H a xs ∧ ∀ p, w1.H p = none → Q (.ref p) (upd w1.H p (.lst xs.reverse))) s1 hp fun o' e1 k => ?_
  obtain ⟨d, e2, e3⟩ := Option.bind_eq_some_iff.mp e1
  have rv := rx.view s1 e2
  cases d with
  | lst xs =>
    cases e3
    obtain ⟨a, us, rfl, ha, la⟩ := rv
    exact ⟨a, us, rfl, .inl (rd_lk (by rw [ha]; rfl)), fun p hp => k _ _ (SubQ.new hp) (out_lst hp la.reverse)⟩
  | _ => cases e3
/-! ### d.get(y, z) -/
def dctM (μ : MS) : MV → Option (List (Key × MV))
  | .d (.dct kvs) => some (kvs.map fun kv => (kv.1, .d kv.2))
  | .r p => match μ.get p with
    | some (.dct kvs) => some kvs
    | some (.frz (.dct kvs)) => some (kvs.map fun kv => (kv.1, .d kv.2))
    | _ => none
  | _ => none
theorem den_dct {v : V} {kvs : List (Key × D)} (h : Den Cl w.F w.H v (.dct kvs)) : ∃ a us, v = .ref a ∧ lk (w.H a) = some (.dK us) ∧ us.map (·.1) = (kvs.map fun kv => (kv.1, MV.d kv.2)).map (·.1) ∧ RelL Cl w (us.map (·.2)) ((kvs.map fun kv => (kv.1, MV.d kv.2)).map (·.2)) := by
  obtain ⟨a, us, rfl, h1, h2, h3⟩ := h.N
  refine ⟨a, us, rfl, h1, by rw [h2, List.map_map]; rfl, ?_⟩
  have := relL_d (ρ := w.ρ) (μ := w.μ) h3
  rw [List.map_map] at this ⊢
  exact this
theorem dctM_sound {v : V} {x : MV} {ms : List (Key × MV)} (s : SR Cl w) (h : RelM Cl w v x) (e : dctM w.μ x = some ms) : ∃ a us, v = .ref a ∧ lk (w.H a) = some (.dK us) ∧ us.map (·.1) = ms.map (·.1) ∧ RelL Cl w (us.map (·.2)) (ms.map (·.2)) := by
  cases x with
  | d d =>
    cases d with
    | dct kvs =>
      cases e
      exact den_dct h
    | _ => cases e
  | r p =>
    obtain ⟨rfl, o, ho⟩ := h
    unfold dctM at e
    simp only [ho] at e
    cases o with
    | dct kvs =>
      cases e
      obtain ⟨_, us, h1, h2, h3⟩ := s.dct ho
      exact ⟨_, us, rfl, by rw [h1]; rfl, h2, h3⟩
    | frz a =>
      cases a with
      | dct kvs =>
        cases e
        rcases s.obj p _ ho with ⟨d', e', h⟩ | ⟨u', _, h⟩
        · cases e'
          exact den_dct h
        · cases u' <;> exact h.elim
      | _ => cases e
    | _ => cases e
def mGet2 (mo my mz : En → MS → Res MV) : En → MS → Res MV := fun env μ => (mo env μ).bind fun x μ1 => match dctM μ1 x with
  | some _ => (my env μ1).bind fun y μ2 => (mz env μ2).bind fun z μ3 => match dctM μ3 x, y with
    | some kvs, .d d => match keyD d with
      | some k => .ok ((valM kvs k).getD z) μ3
      | none => .bad
    | _, _ => .bad
  | none => .bad
theorem me_get2 {apos cpos : Pos} {mo my mz : En → MS → Res MV} (hu : X.A.units + 1 < cLine) (ho : ME X Cl E o mo) (hy : ME X Cl E e my) (hz : ME X Cl E f mz) (m : M2 X o "get" apos e f cpos) : ME X Cl E (.Call (.Attribute o "get" apos) [e, f] [] cpos) (mGet2 mo my mz) :=
  ME.of (pe_dget2U hu pe_sem pe_sem pe_sem m) <| mt_of fun σ env w Q s hv hp => by
    refine use_b (T := semE X o) ho mono_E s hv hp fun x v w1 s1 x1 he1 rx hp => ?_
    cases q : dctM w1.μ x with
    | none =>
      simp only [q] at hp
      exact hp.elim
    | some kvs =>
      simp only [q] at hp
      obtain ⟨a, us, rfl, h1, _, _⟩ := dctM_sound s1 rx q
      refine ⟨a, rfl, ⟨us, h1⟩, ?_⟩
      refine use_b (T := semE X e) hy mono_E s1 he1 hp fun y u w2 s2 x2 he2 ry hp => ?_
      refine use_b (T := semE X f) hz mono_E s2 he2 hp fun z t w3 s3 x3 he3 rz hp => ?_
      cases q2 : dctM w3.μ x with
      | none =>
        simp only [q2] at hp
        exact hp.elim
      | some kvs2 =>
        cases y with
        | r p =>
          simp only [q2] at hp
          exact hp.elim
        | d d =>
          simp only [q2] at hp
          cases q3 : keyD d with
          | none =>
            simp only [q3] at hp
            exact hp.elim
          | some k =>
            simp only [q3] at hp
            obtain ⟨a2, us2, ea, g1, g2, g3⟩ := dctM_sound s3 ((rx.ext x2 s1).ext x3 s2) q2
            cases ea
            refine ⟨us2, k, g1, key_den (Den.N ry) q3, RPost.done s3 hp ?_⟩
            obtain ⟨i1, i2⟩ := valM_rel (k := k) g2 g3
            cases q4 : valM kvs2 k with
            | none =>
              rw [q4] at i2
              cases q5 : valV us2 k with
              | none => exact rz
              | some _ =>
                rw [q5] at i2
                cases i2
            | some m =>
              obtain ⟨v', h5, h6⟩ := i1 m q4
              rw [h5]
              exact h6
/-! ### {} -/
def mDNew : En → MS → Res MV := fun _ μ => .ok (.r (.l μ.L.length)) (μ.new (.dct []))
theorem me_dnew {pos : Pos} : ME X Cl E (.Dict [] [] pos) mDNew := ME.of pe_dnewK <| mt_of fun σ env w Q s hv hp p hpn => by
  obtain ⟨s', x', r⟩ := s.alloc (SubQ.new (o := .dK []) hpn) hpn upd_same (u := .dK []) (o := .dct []) ⟨rfl, .nil⟩ id
  exact hp (.ref p) _ rfl s' x' r
/-! ### calls that leave defaults -/
def mCallD (n : Nat) (dds : List D) (f : MF) (ns : En → MS → Res (List MV)) : En → MS → Res MV := fun env μ => (ns env μ).bind fun ms μ1 => if (ms ++ dds.map MV.d).length = n then callR f (ms ++ dds.map MV.d) μ1 else .bad
theorem relL_v {dvs : List V} {dds : List D} (h : toVs dds = some dvs) : RelL Cl w dvs (dds.map MV.d) := by
  induction dds generalizing dvs with
  | nil =>
    cases h
    exact .nil
  | cons d ds ih =>
    obtain ⟨v, e1, e2⟩ := Option.bind_eq_some_iff.mp (show (toV d).bind (fun v => (toVs ds).map (v :: ·)) = some dvs from h)
    obtain ⟨vs, e3, rfl⟩ := Option.map_eq_some_iff.mp e2
    exact .cons (toV_den e1) (ih e3)
theorem me_callD {gb : Bool} {CX : CXT} {k n : Nat} {fa : Addr} {fd : FuncData} {ps : List Str} {g : MF} {x : Str} {p pos : Pos} {ns : En → MS → Res (List MV)} {dvs : List V} {dds : List D} {ds : List Value} (F : FnP gb X.prog X.w X.K X.mg X.base CX k fa fd ps (spM Cl n g)) (gd : gb = true → X.A.guards = some []) (hr : Room k X.A) (hg : Gl X x) (hm : X.mg x = some (.ref fa))
    (hk : PySem.W.keepIn X.K (.ref fa) = true) (hb : Binds X.K fd ps ds) (hd : Vals dvs ds) (hdd : toVs dds = some dvs) (hx : Passes CX X E) (ha : MA X Cl E (e :: es) ns) (hs : starEach (e :: es) X.env = (false, eval e X.env) :: starEach es X.env := by rfl)
    (hpl : (backTo pos (starEach es X.env)).any (·.1) = false := by rfl) (hdb : (x == ("__debug__" : Str)) = false := by decide) : ME X Cl E (.Call (.Name x p) (e :: es) [] pos) (mCallD n dds g ns) :=
  ME.of (pe_callP F gd hr hg hm hk hb hd hx pa_sem hs hpl hdb) <| mt_of fun σ env w Q s hv hp => by
    refine use_b (T := semA X (e :: es)) ha mono_A s hv hp fun ms vs w1 s1 x1 he1 rms hp => ?_
    split at hp
    · rename_i hn
      exact use_call s1 (RelL.app rms (relL_v hdd)) hn hp
    · exact hp.elim
end
end Q
end

set_option Elab.async false
set_option linter.all false
set_option maxRecDepth 100000
set_option maxHeartbeats 4000000
/-! Raising an own exception whose __init__ keeps one value. -/
noncomputable section
open Classical
namespace G
open PySem PySem.Spec PyProof.Rows L2
/-- __init__(self, value): ValueError.__init__(self, '..'); self.value = value -/
def spInit (K : PySem.W.Frag) (C : Addr) (f : Str) : Sp := fun vs H Q _ => ∃ a v, vs = [.ref a, v] ∧ OexC K C ∧ PySem.W.findIn K (.ref C) f = some none ∧ H a = some (exo a C none) ∧ ∀ d, H d = none → d ≠ a → Q .non (upd (upd H d (exd d [(f, v)])) a (exo a C (some d)))
section
variable {P : Program} {w : World} {K : PySem.W.Frag} {mg : Str → Option Value} {base : Heap} {CX : CXT}
theorem init_ok {x qual : Str} {params : Arguments} {body : List Stmt} {scope : Scope} {dvs : List V} {kws : List (Str × V)} {f : Addr} {fd : FuncData} {k : Nat} {C : Addr} {t : Str} {j : Nat} {p1 p2 p3 p4 p5 p6 p7 p8 p9 p10 : Pos} (F : FunD K x qual params body scope dvs kws f fd) (S : FnScope ["self", "value"] ["self", "value"] scope)
    (hb : body = [.Expr (.Call (.Attribute (.Name "ValueError" p1) "__init__" p2) [.Name "self" p3, .Constant (.str t) j p4] [] p5) p6, .Assign [.Attribute (.Name "self" p7) "value" p8] (.Name "value" p9) p10])
    (hg : scope.names.lookup ("ValueError" : Str) = some .globalImplicit) (hm : mg "ValueError" = none) (vV : PySem.W.findCls K (.type "ValueError") (.type "type") "__init__" = some (.val (.builtin "ValueError.__init__")))
    (hcall : ∀ env : Env, ∃ pl : Sem Bool, eval (.Call (.Attribute (.Name "ValueError" p1) "__init__" p2) [.Name "self" p3, .Constant (.str t) j p4] [] p5) env = (do
      let ov ← eval (.Name "ValueError" p1) env
      standAt p2.atName
      let (f, first) ← holding [ov] (getMethod ov "__init__" pl)
      callWith p5 f first (backTo p5 (starEach [.Name "self" p3, .Constant (.str t) j p4] env)) (backToKw p5 (keywordEach [] env)))) :
    FnOk P w K mg base CX (k + 1) f fd ["self", "value"] (spInit K C "value") := by
  refine FunD.ok F S (fun vs H Q E h => ?_) fun cdv A outer s H vs Q E hr h => ?_
  · obtain ⟨a, v, e, _⟩ := h
    rw [e]
    rfl
  · obtain ⟨a, v, rfl, T, hno, ha, q⟩ := h
    subst hb
    have l0 : Vis scope ("self" : Str) := (S.par "self" (List.Mem.head _)).elim (fun z => Or.inl z) (fun z => Or.inr (Or.inl z))
    have l1 : Vis scope ("value" : Str) := (S.par "value" (List.Mem.tail _ (List.Mem.head _))).elim (fun z => Or.inl z) (fun z => Or.inr (Or.inl z))
    obtain ⟨pl, hc⟩ := hcall (cxOf CX P w K mg base ["self", "value"] qual scope f cdv A outer s H E).env
    refine ⟨_, pss_cons (ps_expr (pe_veinit (pl := pl) hg hm vV (pa_cons (pe_var (i := 0) rfl l0) (pa_cons pe_str pa_nil)) hc) rfl) (pss_one (ps_ost (pe_var (i := 0) rfl l0) (pe_var (i := 1) rfl l1))), ?_⟩
    refine ⟨.ref a, rfl, a, C, [.str t], rfl, show 1 ≤ 1000 by decide, T, ha, ?_⟩
    refine ⟨v, rfl, .ref a, rfl, a, C, rfl, T, hno, .inl ⟨ha, fun dx h1 h2 => q dx h1 h2⟩⟩
end
end G
namespace Q
variable [Tables]
open PySem PySem.Spec PyProof.Rows L2 G
section
variable {X : Cx} {Cl : Str → Addr} {E : XK} {D' : Ends} {w w' w1 : Wd} {e : Expr}
def sRaise (c f : Str) (m : En → MS → Res MV) : Mir := fun env μ => wth (mFrz m env μ) fun x μ1 => match x with
  | .d d => .exc c [(f, d)] μ1
  | .r _ => .bad
theorem mp_raise {CX : CXT} {c f x : Str} {fI : Addr} {k : Nat} {fd : FuncData} {ps : List Str} {p pos pos' : Pos} {m : En → MS → Res MV} (hc : X.calm = true) (tk : Takes X fun cls d _ H => E cls d H) (T : OexC X.K (Cl c)) (hno : PySem.W.findIn X.K (.ref (Cl c)) f = some none)
    (iC : PySem.W.findIn X.K (.ref (Cl c)) "__init__" = some (some (.ref fI))) (tI : PySem.W.typeIn X.K (.ref fI) = some (.type "function")) (F1 : FnOk X.prog X.w X.K X.mg X.base CX k fI fd ps (spInit X.K (Cl c) f)) (hr : Room (k + 1) X.A) (hb : Binds X.K fd ps []) (hx : Passes CX X fun _ _ _ => False)
    (hg : Gl X x) (hm : X.mg x = some (.ref (Cl c))) (he : ME X Cl E e m) (hdb : (x == ("__debug__" : Str)) = false := by decide) (hst : starEach [e] X.env = (false, eval e X.env) :: starEach [] X.env := by rfl) (hpl : (backTo pos (starEach [] X.env)).any (·.1) = false := by rfl) :
    MP X Cl E (.Raise (some (.Call (.Name x p) [e] [] pos)) none pos') (sRaise c f m) :=
  ⟨_, ps_raise hc tk (pmk_oex T iC tI F1 hr hb .nil hx hg hm (pa_cons pe_sem pa_nil hst) hdb hst hpl), fun D σ env w s hv hp => by
    refine use_wth (T := semE X e) (me_frz he) mono_E s hv hp fun y v w1 s1 x1 he1 ry hp => ?_
    cases y with
    | r q => exact hp.elim
    | d d =>
      refine ⟨show 1 ≤ 1000 by decide, fun a ha => ?_⟩
      refine ⟨a, v, rfl, T, hno, upd_same, fun dd hd hne => ⟨rfl, dd, [(f, v)], upd_same, ?_, ?_, ?_⟩⟩
      · rw [upd_ne hne, upd_same]
      · rw [upd_ne hne] at hd
        exact hd
      · rw [upd_ne hne] at hd
        have hs : SubQ w1.H (upd (del (upd (upd (upd w1.H a (exo a (Cl c) none)) dd (exd dd [(f, v)])) a (exo a (Cl c) (some dd))) a) dd (.xd [(f, v)])) := ⟨fun b hb => by
          have h1 : b ≠ a := fun z => hb (by rw [z]; exact ha)
          have h2 : b ≠ dd := fun z => hb (by rw [z]; exact hd)
          rw [upd_ne h2, del_ne h1, upd_ne h1, upd_ne h2, upd_ne h1], fun b ps e => by
          by_cases h2 : b = dd
          · rw [h2, upd_same] at e
            cases e
          · rw [upd_ne h2] at e
            by_cases h1 : b = a
            · rw [h1, del_same] at e
              cases e
            · rw [del_ne h1, upd_ne h1, upd_ne h2, upd_ne h1] at e
              exact e⟩
        obtain ⟨s2, x2⟩ := s1.sub (F' := w1.F) hs (fun _ h => h) (fun _ h => .inl h) (fun b hb => by
          rw [hs b (s1.th b hb)]
          exact s1.th b hb)
        exact hp ⟨w1.F, w1.ρ, _, w1.μ⟩ dd x2 s2 rfl ⟨[(f, v)], upd_same, rfl, .cons (Den.mono ry x2.ff (x2.keepF s1)) .nil⟩⟩
end
end Q
end

set_option Elab.async false
set_option linter.all false
set_option maxRecDepth 100000
set_option maxHeartbeats 4000000
/-! More built-ins. -/
noncomputable section
open Classical
namespace Q
variable [Tables]
open PySem PySem.Spec PyProof.Rows L2 G
section
variable {X : Cx} {Cl : Str → Addr} {E : XK} {w w' w1 : Wd} {e : Expr} {ts : List Expr}
def fTup : List D → Option Out
  | [.lst xs] => some (.v (.tup xs))
  | _ => none
theorem pl_tup : PureL Cl rTupU fTup := fun F H vs ds o Q th hp e k => by
  match ds, hp, e with
  | [.lst xs], hp, e =>
    obtain ⟨v, rfl, a, us, rfl, ha, la⟩ := pair_one hp
    cases e
    exact .inl ⟨a, us, rfl, by rw [ha]; rfl, fun p hp => k _ _ (SubQ.new hp) (out_tup th hp la)⟩
theorem mono_tup {vs : List V} : Mono fun (_ : L2.St) H Q => rTupU vs H Q := fun σ H Q Q' h k => by
  rcases h with ⟨p, ys, e, hp, q⟩ | ⟨p, ys, e, hp, q⟩
  · exact .inl ⟨p, ys, e, hp, fun p hp => k _ _ (q p hp)⟩
  · exact .inr ⟨p, ys, e, hp, k _ _ q⟩
theorem me_isiT {kk : Nat} {cs : List V} {ns : List String} {tA : TA} {p pos tpos : Pos} {m : En → MS → Res MV} (hA : PA X ts tA) (hA2 : ∀ σ H (Q : List V → Hp → Prop), Q cs H → tA σ H Q) (hcs : tyList cs = some ns) (hns : ∀ n ∈ ns, n ∈ tyAsk) (hlen : cs.length ≤ sizeLine)
    (hg : Gl X "isinstance") (hm : X.mg "isinstance" = none) (hv : bootBuiltins "isinstance" = some (.builtin "isinstance")) (he : ME X Cl E e m)
    (hst : starEach [e, .Tuple ts kk tpos] X.env = (false, eval e X.env) :: starEach [.Tuple ts kk tpos] X.env := by rfl) (hst2 : starEach [.Tuple ts kk tpos] X.env = (false, eval (.Tuple ts kk tpos) X.env) :: starEach [] X.env := by rfl)
    (hpl : (backTo pos (starEach [.Tuple ts kk tpos] X.env)).any (·.1) = false := by rfl) :
    ME X Cl E (.Call (.Name "isinstance" p) [e, .Tuple ts kk tpos] [] pos) (mIsi (fun t => ns.any (isT t)) m) := ME.of (pe_callB call_isiTU hg hm hv (pa_cons pe_sem (pa_cons (pe_tup hA) pa_nil hst2) hst) (by decide) (by decide) hst hpl) <| mt_of fun σ env w Q s hv hp => by
  refine use_b (T := semE X e) he mono_E s hv hp fun x v w1 s1 x1 he1 rx hp => ?_
  refine hA2 _ _ _ ⟨hlen, fun q hq => ?_⟩
  have hs := SubQ.new (o := HO.tup cs) hq
  obtain ⟨s2, x2⟩ := s1.sub (F' := w1.F) hs (fun _ h => h) (fun _ h => .inl h) (fun b hb => by
    rw [hs b (s1.th b hb)]
    exact s1.th b hb)
  cases q1 : (vw w1.μ x).bind tyD with
  | none =>
    simp only [q1] at hp
    exact hp.elim
  | some t =>
    simp only [q1] at hp
    obtain ⟨d, e1, e2⟩ := Option.bind_eq_some_iff.mp q1
    have ht := tyN_sub hs (tyD_den (rx.view s1 e1) e2)
    exact ⟨v, q, cs, ns, t, rfl, upd_same, hcs, ht, hns, RPost.done s2 (RPost.ext x2 hp) (Den.bl _)⟩
end
end Q
end

set_option Elab.async false
set_option linter.all false
set_option maxRecDepth 100000
set_option maxHeartbeats 4000000
/-! sorted of ints. -/
noncomputable section
open Classical
namespace Q
variable [Tables]
open PySem PySem.Spec PyProof.Rows L2 G
def insI (a : Int) : List Int → List Int
  | [] => [a]
  | b :: l => if a ≤ b then a :: b :: l else b :: insI a l
def sortI : List Int → List Int
  | [] => []
  | a :: l => insI a (sortI l)
theorem insI_perm (a : Int) : ∀ l, (insI a l).Perm (a :: l)
  | [] => List.Perm.refl _
  | b :: l => by
    unfold insI
    split
    · exact List.Perm.refl _
    · exact ((insI_perm a l).cons b).trans (List.Perm.swap a b l)
theorem sortI_perm : ∀ l, (sortI l).Perm l
  | [] => List.Perm.refl _
  | a :: l => (insI_perm a _).trans ((sortI_perm l).cons a)
theorem insI_sorted (a : Int) : ∀ l : List Int, l.Pairwise (· ≤ ·) → (insI a l).Pairwise (· ≤ ·)
  | [], _ => by simp [insI]
  | b :: l, h => by
    unfold insI
    obtain ⟨h1, h2⟩ := List.pairwise_cons.mp h
    split
    · rename_i c
      refine List.pairwise_cons.mpr ⟨fun x hx => ?_, h⟩
      rcases List.mem_cons.mp hx with rfl | hx
      · exact c
      · exact Int.le_trans c (h1 x hx)
    · rename_i c
      refine List.pairwise_cons.mpr ⟨fun x hx => ?_, insI_sorted a l h2⟩
      rcases List.mem_cons.mp ((insI_perm a l).mem_iff.mp hx) with rfl | hx
      · omega
      · exact h1 x hx
theorem sortI_sorted : ∀ l : List Int, (sortI l).Pairwise (· ≤ ·)
  | [] => .nil
  | a :: l => insI_sorted a _ (sortI_sorted l)
theorem sorted_one : ∀ {l m : List Int}, l.Perm m → l.Pairwise (· ≤ ·) → m.Pairwise (· ≤ ·) → l = m
  | [], m, p, _, _ => by
    rw [List.nil_perm.mp p]
  | a :: l, [], p, _, _ => by
    have := List.perm_nil.mp p
    cases this
  | a :: l, b :: m, p, h, k => by
    obtain ⟨h1, h2⟩ := List.pairwise_cons.mp h
    obtain ⟨k1, k2⟩ := List.pairwise_cons.mp k
    have ab : a = b := by
      have ha : a ∈ b :: m := p.mem_iff.mp List.mem_cons_self
      have hb : b ∈ a :: l := p.mem_iff.mpr List.mem_cons_self
      rcases List.mem_cons.mp ha with e | e
      · exact e
      · rcases List.mem_cons.mp hb with f | f
        · exact f.symm
        · have := h1 b f
          have := k1 a e
          omega
    subst ab
    rw [sorted_one (List.Perm.cons_inv p) h2 k2]
section
variable {X : Cx} {Cl : Str → Addr} {E : XK}
def fSorted : List D → Option Out
  | [.lst xs] => (toInts xs).map fun ns => .n (.lst (((sortI ns).map D.int).map .d))
  | _ => none
theorem pl_sorted : PureL Cl (rSortedI X.K) fSorted := fun F H vs ds o Q th hp e k => by
  match ds, hp, e with
  | [.lst xs], hp, e =>
    obtain ⟨v, rfl, a, us, rfl, ha, la⟩ := pair_one hp
    obtain ⟨ns, e1, rfl⟩ := Option.map_eq_some_iff.mp e
    have eu := den_ints la e1
    subst eu
    refine ⟨a, ns, rfl, .inl (rd_lk (by rw [ha]; rfl)), fun ns' p hp1 hp2 hpn => ?_⟩
    obtain rfl : ns' = sortI ns := sorted_one (hp1.trans (sortI_perm ns).symm) hp2 (sortI_sorted ns)
    exact k _ _ (SubQ.new hpn) (out_lst hpn (DenL.map (fun i => Den.int i) _))
theorem mono_sorted {vs : List V} : Mono fun (_ : L2.St) H Q => rSortedI X.K vs H Q := fun σ H Q Q' ⟨a, ns, e, h, q⟩ k => ⟨a, ns, e, h, fun ns' p h1 h2 h3 => k _ _ (q ns' p h1 h2 h3)⟩
end
end Q
end

set_option Elab.async false
set_option linter.all false
set_option maxRecDepth 100000
set_option maxHeartbeats 4000000
/-! repr of data. -/
noncomputable section
open Classical
namespace Q
variable [Tables]
open PySem PySem.Spec PyProof.Rows L2 G
mutual
def pyD : D → Option PyData
  | .non => some .none
  | .bl b => some (.bool b)
  | .int i => some (.int i)
  | .str x => some (.str x)
  | .lst xs => (pyL xs).map .list
  | .tup xs => (pyL xs).map .tuple
  | .dct xs => (pyK xs).map fun ds => .dict ((xs.map fun q => kD q.1).zip ds)
  | .ins _ _ => none
  | .cls _ => none
def pyL : List D → Option (List PyData)
  | [] => some []
  | d :: r => (pyD d).bind fun p => (pyL r).map (p :: ·)
def pyK : List (Key × D) → Option (List PyData)
  | [] => some []
  | (_, d) :: r => (pyD d).bind fun p => (pyK r).map (p :: ·)
end
theorem pyK_L : ∀ xs : List (Key × D), pyK xs = pyL (xs.map (·.2))
  | [] => by rw [pyK, List.map_nil, pyL]
  | (k, d) :: r => by rw [pyK, List.map_cons, pyL, pyK_L r]
section
variable {K : PySem.W.Frag} {Cl : Str → Addr} {F : Addr → Prop} {H : Hp} {v : V} {d : D}
theorem dt_all {vs : List V} {xs : List D} (h : Paired (fun v d => ∀ p, pyD d = some p → ∃ as, Dt K H v p as) vs xs) : ∀ {ps : List PyData}, pyL xs = some ps → ∃ as, DtAll K H vs ps as := by
  induction h with
  | nil =>
    intro ps e
    rw [pyL] at e
    cases e
    exact ⟨[], .nil⟩
  | cons h t ih =>
    intro ps e
    rw [pyL] at e
    obtain ⟨p, e1, e2⟩ := Option.bind_eq_some_iff.mp e
    obtain ⟨r, e3, rfl⟩ := Option.map_eq_some_iff.mp e2
    obtain ⟨as, h1⟩ := h p e1
    obtain ⟨bs, h2⟩ := ih e3
    exact ⟨as ++ bs, .cons h1 h2⟩
theorem den_dt (h : Den Cl F H v d) : ∀ p, pyD d = some p → ∃ as, Dt K H v p as := by
  induction h with
  | non =>
    intro p e
    rw [pyD] at e
    cases e
    exact ⟨_, .non⟩
  | bl b =>
    intro p e
    rw [pyD] at e
    cases e
    exact ⟨_, .bl b⟩
  | int i =>
    intro p e
    rw [pyD] at e
    cases e
    exact ⟨_, .int i⟩
  | str x =>
    intro p e
    rw [pyD] at e
    cases e
    exact ⟨_, .str x⟩
  | cls c =>
    intro p e
    rw [pyD] at e
    cases e
  | lst ha e hl _ ih =>
    intro p e1
    rw [pyD] at e1
    obtain ⟨ps, e2, rfl⟩ := Option.map_eq_some_iff.mp e1
    obtain ⟨as, h1⟩ := dt_all (K := K) (H := H) (paired_of hl ih) e2
    exact ⟨_, .lst (.inl (rd_lk (by rw [e]; rfl))) h1⟩
  | tup ha e hl _ ih =>
    intro p e1
    rw [pyD] at e1
    obtain ⟨ps, e2, rfl⟩ := Option.map_eq_some_iff.mp e1
    obtain ⟨as, h1⟩ := dt_all (K := K) (H := H) (paired_of hl ih) e2
    exact ⟨_, .tup (.inl (rd_lk (by rw [e]; rfl))) h1⟩
  | @dct a kvs xs ha e hk _ ih =>
    intro p e1
    rw [pyD] at e1
    obtain ⟨ps, e2, rfl⟩ := Option.map_eq_some_iff.mp e1
    rw [pyK_L] at e2
    obtain ⟨as, h1⟩ := dt_all (K := K) (H := H) (paired_of (by have := congrArg List.length hk; simpa using this) ih) e2
    refine ⟨a :: as, ?_⟩
    have ek : ∀ {A B : Type} (l : List (Key × A)) (m : List (Key × B)), l.map (·.1) = m.map (·.1) → (m.map fun q => kD q.1) = l.map fun q => kD q.1 := fun l m z => by
      have := congrArg (List.map kD) z
      rw [List.map_map, List.map_map] at this
      exact this.symm
    rw [ek kvs xs hk]
    exact .dct (rd_lk e) h1
  | ins ha e hk _ ih =>
    intro p e1
    rw [pyD] at e1
    cases e1
theorem denN_dt (h : DenN Cl F H v d) (p : PyData) (e : pyD d = some p) : ∃ as, Dt K H v p as := by
  cases d with
  | lst xs =>
    obtain ⟨a, vs, rfl, ha, l⟩ := h
    rw [pyD] at e
    obtain ⟨ps, e2, rfl⟩ := Option.map_eq_some_iff.mp e
    obtain ⟨as, h1⟩ := dt_all (K := K) (H := H) (Paired.mapP l fun _ _ h => den_dt h) e2
    exact ⟨a :: as, .lst (.inl (rd_lk (by rw [ha]; rfl))) h1⟩
  | tup xs =>
    obtain ⟨a, vs, rfl, ha, l⟩ := h
    rw [pyD] at e
    obtain ⟨ps, e2, rfl⟩ := Option.map_eq_some_iff.mp e
    obtain ⟨as, h1⟩ := dt_all (K := K) (H := H) (Paired.mapP l fun _ _ h => den_dt h) e2
    exact ⟨as, .tup (.inl (rd_lk (by rw [ha]; rfl))) h1⟩
  | dct xs =>
    obtain ⟨a, kvs, rfl, ha, hk, l⟩ := h
    rw [pyD] at e
    obtain ⟨ps, e2, rfl⟩ := Option.map_eq_some_iff.mp e
    rw [pyK_L] at e2
    obtain ⟨as, h1⟩ := dt_all (K := K) (H := H) (Paired.mapP l fun _ _ h => den_dt h) e2
    refine ⟨a :: as, ?_⟩
    have ek : (xs.map fun q => kD q.1) = kvs.map fun q => kD q.1 := by
      have := congrArg (List.map kD) hk
      rw [List.map_map, List.map_map] at this
      exact this.symm
    rw [ek]
    exact .dct (rd_lk ha) h1
  | ins c fs =>
    rw [pyD] at e
    cases e
  | non => exact den_dt (show Den Cl F H v .non from h) p e
  | bl b => exact den_dt (show Den Cl F H v (.bl b) from h) p e
  | int i => exact den_dt (show Den Cl F H v (.int i) from h) p e
  | str x => exact den_dt (show Den Cl F H v (.str x) from h) p e
  | cls c => exact den_dt (show Den Cl F H v (.cls c) from h) p e
def fRepr : List D → Option Out
  | [d] => (pyD d).bind fun p => if p.showable = true ∧ p.depth ≤ 60 ∧ p.shown.length ≤ sizeLine then some (.v (.str p.shown)) else none
  | _ => none
theorem pl_repr : PureL Cl (rRepr K) fRepr := fun F H vs ds o Q th hp e k => by
  match ds, hp, e with
  | [d], hp, e =>
    obtain ⟨v, rfl, h⟩ := pair_one hp
    obtain ⟨p, e1, e2⟩ := Option.bind_eq_some_iff.mp (show ((pyD d).bind fun p => if p.showable = true ∧ p.depth ≤ 60 ∧ p.shown.length ≤ sizeLine then some (Out.v (.str p.shown)) else none) = some o from e)
    split at e2
    · rename_i hc
      cases e2
      obtain ⟨as, h1⟩ := denN_dt (K := K) h p e1
      exact ⟨v, p, as, rfl, h1, hc.1, hc.2.1, hc.2.2, k _ H (SubQ.refl _) (out_d th (.str _))⟩
    · cases e2
theorem mono_repr {vs : List V} : Mono fun (_ : L2.St) H Q => rRepr K vs H Q := fun σ H Q Q' ⟨v, p, as, e, h, a, b, c, q⟩ k => ⟨v, p, as, e, h, a, b, c, k _ _ q⟩
end
end Q
end

set_option Elab.async false
set_option linter.all false
set_option maxRecDepth 100000
set_option maxHeartbeats 4000000
/-! A lambda without parameters handed to a def that calls it at once. -/
noncomputable section
open Classical
namespace Q
variable [Tables]
open PySem PySem.Spec PyProof.Rows L2 G
/-- what the making of a lambda leaves: the maker's table at P grown at most, the code object at c -/
structure Made (H H1 : Hp) (P c : Addr) (q : Str) : Prop where
  old : ∀ b, b ≠ P → H b ≠ none → H1 b = H b
  tab : ∃ ps qs, H P = some (.tbl ps) ∧ H1 P = some (.tbl qs)
  nt : ∀ b ps, H1 b = some (.tbl ps) → b = P ∨ H b = some (.tbl ps)
  tb : LamX.Tabs Tables.T H1
  code : H1 c = some (LamX.CodeO c q)
section
variable {X : Cx} {pins : List (Addr × Obj)} {σ : L2.St} {H : Hp} {s : Shared} {E : Value → Shared → Prop} {Q : Value → Shared → Prop}
theorem lam_made {c P : Addr} {params : Arguments} {body : Expr} {scope : Scope} {pos : Pos} {q : Str} (eq : q = X.env.qual ++ "<lambda>") (I : Inv X pins σ H s) (TB : LamX.TabB X.base X.mg c P) (hcode : X.env.code = .ref c)
    (hm : (P, q) ∈ Tables.T) (hu : ∀ p ∈ Tables.T, p.1 = P → p.2 = q) (hT : LamX.Tabs Tables.T H) (hdef : defaultsOf params X.env = ([], [])) (hfree : ∀ y ∈ scope.names, y.2 = .free → ∃ c, X.env.cells.lookup y.1 = some c)
    (k : ∀ (f c' : Addr) (pm ctv : Value) (H1 : Hp) (s' : Shared), Inv X pins σ H1 s' → Made H H1 P c' q → s'.heap.get? f = some (PySem.W.kla_obj "<lambda>" q params body scope (cloFrom X.env.cells scope.names []) pm c' ctv) → H1 f = none → f ∉ frs X.stack → Q (.ref f) s') :
    wpAny (model X.prog X.w) X.A (eval (.Lambda params body scope pos) X.env) Q E s := by
  subst eq
  obtain ⟨ps, hP, tri, among⟩ := hT _ hm
  have seenB := TB.bm.keeps I.bk
  have objP : s.heap.get? P = some { cls := .none, data := .fields ps } := I.hok P _ hP
  have away : ∀ f, s.heap.objs.size ≤ f → f ∉ frs X.stack := by
    intro f hf z
    rcases List.mem_cons.mp (I.stkSub _ z) with e | e
    · exact absurd hf (Nat.not_le.mpr (by rw [e]; exact I.lt))
    · exact I.nofs hf e
  refine PySem.W.kla_eval hdef ?_
  cases hc : codeAmong pos ps.toList with
  | some cv =>
    obtain ⟨c', rfl, hco⟩ := among pos cv hc
    refine PySem.W.kla_makeFunctionHit (mg := X.mg) (c := c) (P := P) (ps := ps) (closure_ok hfree) I.ok.glob (I.mod.glob.keeps I.bk) hcode (TB.code.keeps I.bk) objP tri hc seenB ?_
    intro ctv h' tk hx hsz
    have J := I.kept (t' := tk) (h' := h'.push (PySem.W.kla_obj "<lambda>" (X.env.qual ++ "<lambda>") params body scope (cloFrom X.env.cells scope.names []) ((X.mg "__name__").getD .none) c' ctv)) fun b o e => Heap.get?_push_of_some _ (hx b o e)
    exact k _ c' _ ctv H _ J ⟨fun _ _ _ => rfl, ⟨ps, ps, hP, hP⟩, fun _ _ e => .inr e, hT, hco⟩ (Heap.get?_push_size _ rfl) (I.hok.fresh hsz) (away _ hsz)
  | none =>
    refine PySem.W.kla_makeFunction (mg := X.mg) (c := c) (P := P) (ps := ps) (closure_ok hfree) I.ok.glob (I.mod.glob.keeps I.bk) hcode (TB.code.keeps I.bk) objP tri hc TB.gP seenB ?_
    intro c' ctv h' tk hx hge hlt hrec htb
    obtain ⟨c2, oc, vs, t, e2, hoc, hd, hv⟩ := hrec
    cases e2
    have hsz : s.heap.objs.size ≤ h'.objs.size := by omega
    have nC : H c' = none := I.hok.fresh hge
    have nPc : P ≠ c' := ne_of_none hP nC
    have J := LamX.inv_table (t' := tk) (q := X.env.qual ++ "<lambda>") (more := #[rawInt pos.line, rawInt pos.col, .ref c']) (h' := h'.push (PySem.W.kla_obj "<lambda>" (X.env.qual ++ "<lambda>") params body scope (cloFrom X.env.cells scope.names []) ((X.mg "__name__").getD .none) c' ctv)) I hP
      (fun b o hb e => Heap.get?_push_of_some _ (hx b o hb e)) (Heap.get?_push_of_some _ htb) hge ⟨oc, vs, t, Heap.get?_push_of_some _ hoc, hd, hv⟩
    have stay : ∀ b, b ≠ P → H b ≠ none → upd (upd H P (.tbl (ps ++ #[rawInt pos.line, rawInt pos.col, .ref c']))) c' (LamX.CodeO c' (X.env.qual ++ "<lambda>")) b = H b := fun b hb hn => by
      rw [upd_ne fun z => hn (by rw [z]; exact nC), upd_ne hb]
    have coS : ∀ {d : Addr} {x : Str}, H d = some (LamX.CodeO d x) → upd (upd H P (.tbl (ps ++ #[rawInt pos.line, rawInt pos.col, .ref c']))) c' (LamX.CodeO c' (X.env.qual ++ "<lambda>")) d = some (LamX.CodeO d x) := fun {d x} e => by
      rw [stay d (fun z => by rw [z, hP] at e; exact LamX.codeO_ne ps (Option.some.inj e).symm) (by rw [e]; nofun)]
      exact e
    refine k _ c' _ ctv _ _ J ⟨stay, ⟨ps, _, hP, by rw [upd_ne nPc, upd_same]⟩, fun b qs e => ?_, fun p hp => ?_, upd_same⟩ (Heap.get?_push_size _ rfl) ?_ (away _ hsz)
    · by_cases h1 : b = c'
      · rw [h1, upd_same] at e
        exact absurd (Option.some.inj e) (LamX.codeO_ne qs)
      · by_cases h2 : b = P
        · exact .inl h2
        · rw [upd_ne h1, upd_ne h2] at e
          exact .inr e
    · by_cases hb : p.1 = P
      · rw [hu p hp hb, hb]
        have eL : (ps ++ #[rawInt pos.line, rawInt pos.col, .ref c']).toList = ps.toList ++ [rawInt pos.line, rawInt pos.col, .ref c'] := Array.toList_append
        refine ⟨_, by rw [upd_ne nPc, upd_same], eL ▸ PySem.TriplesOk_snoc _ _ _ _ tri, fun p' cv hcv => ?_⟩
        rcases LamX.among_app _ tri (eL ▸ hcv) with z | z
        · obtain ⟨c0, e1, e2⟩ := among p' cv z
          exact ⟨c0, e1, coS e2⟩
        · exact ⟨c', z, upd_same⟩
      · obtain ⟨ps', a1, a2, a3⟩ := hT p hp
        refine ⟨ps', (stay _ hb (by rw [a1]; nofun)).trans a1, a2, fun p' cv hcv => ?_⟩
        obtain ⟨c0, e1, e2⟩ := a3 p' cv hcv
        exact ⟨c0, e1, coS e2⟩
    · rw [upd_ne (Nat.ne_of_gt hlt), upd_ne (Nat.ne_of_gt (Nat.lt_of_lt_of_le (Heap.lt_size objP) hsz))]
      exact I.hok.fresh hsz
end
section
variable {X : Cx} {Cl : Str → Addr} {E : XK} {w w' w1 : Wd} {e : Expr}
theorem SR.made (s : SR Cl w) {H1 : Hp} {P c : Addr} {q : Str} (m : Made w.H H1 P c q) : SR Cl ⟨w.F, w.ρ, H1, w.μ⟩ ∧ Ext w ⟨w.F, w.ρ, H1, w.μ⟩ := by
  obtain ⟨ps, qs, h1, h2⟩ := m.tab
  have kp : ∀ a, w.H a ≠ none → H1 a = w.H a ∨ ∃ ps qs, w.H a = some (.tbl ps) ∧ H1 a = some (.tbl qs) := fun a h => by
    by_cases z : a = P
    · rw [z]
      exact .inr ⟨ps, qs, h1, h2⟩
    · exact .inl (m.old a z h)
  have nn : ∀ a, w.H a ≠ none → H1 a ≠ none := fun a h => by
    rcases kp a h with h2 | ⟨ps, qs, _, h2⟩
    · rw [h2]
      exact h
    · rw [h2]
      nofun
  have x : Ext w ⟨w.F, w.ρ, H1, w.μ⟩ := ⟨fun _ h => h, fun a h _ => by
      rcases kp a h with h2 | h2
      · exact .inl h2
      · exact .inr (.inr h2), fun p o e => ⟨rfl, o, e, fun _ => rfl⟩, fun a h => .inl h, (fun p ⟨o, e, _⟩ h => by rw [show w.μ.get p = some o from e] at h; cases h), nn, rfl⟩
  refine ⟨⟨m.tb, fun p o e => ?_, s.inj, s.nf, fun a h => nn a (s.th a h), fun a ps' e => ?_⟩, x⟩
  · rcases s.obj p o e with h | ⟨u, h3, h4⟩
    · exact .inl (frzE x s h)
    · refine .inr ⟨u, ?_, h4.ext x s⟩
      show H1 (w.ρ p) = some u
      rw [m.old _ (fun z => by rw [z, h1] at h3; exact h4.plain.1 ps (Option.some.inj h3).symm) (by rw [h3]; nofun)]
      exact h3
  · rcases m.nt a ps' e with z | z
    · rw [z]
      exact s.tO P ps h1
    · exact s.tO a ps' z
/-- no exception -/
def E0 : XK := fun _ _ _ => False
/-- what the def that got the lambda makes of its answer -/
def TTm (Cl : Str → Addr) (TG : Res MV → Res MV) : (XK → Hp → VK → Prop) → Hp → VK → Prop := fun tl H Q =>
  ∃ (w : Wd) (r : Res MV), w.H = H ∧ SR Cl w ∧ (∀ E Q', RPost Cl E (RelM Cl) w r Q' → tl E H Q') ∧ RPost Cl E0 (RelM Cl) w (noExc (TG r)) Q
def mLam (TG : Res MV → Res MV) (mb : En → MS → Res MV) : En → MS → Res MV := fun env μ => noExc (TG (mb env μ))
theorem noExc_post {r : Res MV} {Q : VK} (h : RPost Cl E (RelM Cl) w (noExc r) Q) : RPost Cl E0 (RelM Cl) w (noExc r) Q := by
  cases r with
  | ok y μ => exact h
  | exc c fs μ => exact h.elim
  | bad => exact h.elim
/-- the reading of a call with a lambda -/
def tLamM (P : Addr) (q : Str) (TT : (XK → Hp → VK → Prop) → Hp → VK → Prop) (t : XK → TE) : TE := fun σ H Q => LamX.Tabs Tables.T H ∧ ∀ H1 c, Made H H1 P c q → TT (fun E H' Q' => t E σ H' Q') H1 Q
theorem pe_lam {TT : (XK → Hp → VK → Prop) → Hp → VK → Prop} {x a : Str} {g c P : Addr} {k : Nat} {pg : Arguments} {bg : List Stmt} {sg : Scope} {dV kV doc pm cdv ct oc : Value} {an od : Option Addr} {osl : Array (Option Value)} {Ng : List Str}
    {params : Arguments} {body : Expr} {scope : Scope} {t : XK → TE} {p lpos pos : Pos} {q : Str} (eq : q = X.env.qual ++ "<lambda>") (hg : Gl X x) (hm : X.mg x = some (.ref g)) (hk : PySem.W.keepIn X.K (.ref g) = true)
    (lk : X.K.lookup g = some ⟨oc, od, .func (PySem.W.fnOf x x pg bg sg dV kV doc pm an cdv ct), osl⟩) (hcg : PySem.W.codeIn X.K cdv x = true) (hb : L2.Binds X.K (PySem.W.fnOf x x pg bg sg dV kV doc pm an cdv ct) [a] []) (Sg : FnScope Ng [a] sg) (hNg : Ng[0]? = some a) (hva : Vis sg a)
    (hG : LamX.GivesTo X Ng x sg g cdv bg a q TT) (TB : LamX.TabB X.base X.mg c P) (hcode : X.env.code = .ref c) (hmT : (P, q) ∈ Tables.T) (hu : ∀ p ∈ Tables.T, p.1 = P → p.2 = q) (hr : Room (k + 2) X.A) (L : LamX.LamS X.env.scope scope) (hdef : defaultsOf params X.env = ([], []))
    (hbind : ∀ (q : Str) (cl : List (Str × Addr)) (pm cv ctv : Value), bindArgs (PySem.W.kla_fn "<lambda>" q params body scope cl pm cv ctv) ⟨[], []⟩ = pure [])
    (hbody : ∀ (A : Around) (outer : List Env) (s : Shared) (H : Hp) (E : XK) (f c' : Addr), Room k (A.deeper (LamX.lamEnv X scope s.heap.objs.size f c')) → PE (LamX.lamCx X A outer s H E scope f c') body (t E))
    (hdb : (x == ("__debug__" : Str)) = false := by decide) (hd : (a == ("__debug__" : Str)) = false := by decide) (hcd : (a == ("__classdict__" : Str)) = false := by decide) :
    PE X (.Call (.Name x p) [.Lambda params body scope lpos] [] pos) (tLamM P q TT t) := by
  refine ⟨fun pins s σ H Q I h => ?_⟩
  obtain ⟨hT, h⟩ := h
  refine wpAny_Call_Name_kw (ld_glob I hg hm ?_ hdb)
  refine PySem.W.callWith_K (h₀ := X.base) I.ok.mod.kin hk ?_ (by rfl) (by rfl)
  show wpAny _ _ (spliced ((false, eval (.Lambda params body scope lpos) X.env) :: backTo pos (starEach [] X.env))) _ _ s
  refine Calls.spliced_cons (lam_made eq I TB hcode hmT hu hT hdef (L.has I.ok) ?_)
  intro f c' pm' ctv H1 s' I1 md hf hfn hfr
  subst eq
  refine Calls.spliced_nil ⟨I1.kIn, ?_⟩
  have rc : codeAny (model X.prog X.w) X.A (.call (.ref g) ⟨[.ref f], []⟩) (CR C8.CX0 X.stack X.prog X.w H1 s' Q C8.E0) s' := by
    refine LamX.run_ofS (N := Ng) (ps := [a]) (us := [.ref f]) (vs := [.ref f]) lk hcg Sg hr I1.env0 (hb s' [.ref f] I1.kIn rfl) (.cons rfl .nil) rfl ?_
    intro hr'
    obtain ⟨t', ht', hq'⟩ := hG f c' s' H1 Q (fun E H' Q' => t E σ H' Q') (fun W pn xe E p1 p2 tk hW => LamX.pe_act (i := 0) I1 L hf hfn hfr (hbind _ _ _ _ _) tk hW hr' (fun A outer s H hr2 => hbody A outer s H E f c' hr2) hNg hva hd hcd) md.code (h H1 c' md)
    exact ⟨t', ht'.nox, hq'⟩
  refine wpAny_call (codeAny_mono rc ?_)
  intro r s2 hq
  cases r with
  | error e => exact (show False from hq).elim
  | ok fl =>
    cases fl with
    | ret u => exact I1.after hq
    | next => exact hq.elim
    | brk => exact hq.elim
    | cont => exact hq.elim
/-- x(lambda: body) -/
theorem me_lam {TG : Res MV → Res MV} {mb : En → MS → Res MV} {x a : Str} {g c P : Addr} {k : Nat} {pg : Arguments} {bg : List Stmt} {sg : Scope} {dV kV doc pm cdv ct oc : Value} {an od : Option Addr} {osl : Array (Option Value)} {Ng : List Str}
    {params : Arguments} {body : Expr} {scope : Scope} {p lpos pos : Pos} {q : Str} (eq : q = X.env.qual ++ "<lambda>") (hg : Gl X x) (hm : X.mg x = some (.ref g)) (hk : PySem.W.keepIn X.K (.ref g) = true)
    (lk : X.K.lookup g = some ⟨oc, od, .func (PySem.W.fnOf x x pg bg sg dV kV doc pm an cdv ct), osl⟩) (hcg : PySem.W.codeIn X.K cdv x = true) (hb : L2.Binds X.K (PySem.W.fnOf x x pg bg sg dV kV doc pm an cdv ct) [a] []) (Sg : FnScope Ng [a] sg) (hNg : Ng[0]? = some a) (hva : Vis sg a)
    (hG : LamX.GivesTo X Ng x sg g cdv bg a q (TTm Cl TG))
    (TB : LamX.TabB X.base X.mg c P) (hcode : X.env.code = .ref c) (hmT : (P, q) ∈ Tables.T) (hu : ∀ p ∈ Tables.T, p.1 = P → p.2 = q) (hr : Room (k + 2) X.A) (L : LamX.LamS X.env.scope scope) (hdef : defaultsOf params X.env = ([], []))
    (hbind : ∀ (q : Str) (cl : List (Str × Addr)) (pm cv ctv : Value), bindArgs (PySem.W.kla_fn "<lambda>" q params body scope cl pm cv ctv) ⟨[], []⟩ = pure [])
    (hbody : ∀ (A : Around) (outer : List Env) (s : Shared) (H : Hp) (E : XK) (f c' : Addr), Room k (A.deeper (LamX.lamEnv X scope s.heap.objs.size f c')) → ME (LamX.lamCx X A outer s H E scope f c') Cl E body mb)
    (hdb : (x == ("__debug__" : Str)) = false := by decide) (hd : (a == ("__debug__" : Str)) = false := by decide) (hcd : (a == ("__classdict__" : Str)) = false := by decide) :
    ME X Cl E (.Call (.Name x p) [.Lambda params body scope lpos] [] pos) (mLam TG mb) := by
  refine ME.of (pe_lam (TT := TTm Cl TG) (t := fun E σ H Q => ∀ (A : Around) (outer : List Env) (s0 : Shared) (H0 : Hp) (f c' : Addr), Room k (A.deeper (LamX.lamEnv X scope s0.heap.objs.size f c')) → semE (LamX.lamCx X A outer s0 H0 E scope f c') body σ H Q)
    eq hg hm hk lk hcg hb Sg hNg hva hG TB hcode hmT hu hr L hdef hbind (fun A outer s H E f c' hr' => ?_) hdb hd hcd) (mt_of fun σ env w Q s hv hp => ?_)
  · exact ⟨fun pins s1 σ H1 Q I h => pe_sem.run pins s1 σ H1 Q I (h A outer s H f c' hr')⟩
  · refine ⟨s.tb, fun H1 c' md => ?_⟩
    obtain ⟨s1, x1⟩ := s.made md
    refine ⟨⟨w.F, w.ρ, H1, w.μ⟩, mb env w.μ, rfl, s1, fun E' Q' hp' A outer s0 H0 f c' hr' => ?_, RPost.ext x1 (noExc_post hp)⟩
    exact mt_use (hbody A outer s0 H0 E' f c' hr') mono_E s1 (hv.ext x1 s) hp'
end
end Q
end

set_option Elab.async false
set_option linter.all false
set_option maxRecDepth 100000
set_option maxHeartbeats 4000000
/-! try with several clauses that name the exception. -/
noncomputable section
open Classical
namespace Q
variable [Tables]
open PySem PySem.Spec PyProof.Rows L2 G
/-- a clause: its class, what its suite reads -/
abbrev Cl1 := Value × (Addr → Value → Option Addr → TS)
def unE (i : Nat) (D : Ends) : Ends := ⟨fun σ H => D.nx (σ.set i none) H, D.rt, fun σ H => D.bk (σ.set i none) H, fun σ H => D.ct (σ.set i none) H⟩
/-- what the clauses 'except .. as n' wish of an exception of the body; slot i is n's -/
def wAsL (K : PySem.W.Frag) (i : Nat) (Wout : WX) (D : Ends) : List Cl1 → WX
  | [] => Wout
  | p :: r => fun cls d σ H => ∃ b, PySem.W.exmOne K cls p.1 = some b ∧ (b = true → ∀ a, H a = none → i < σ.length → p.2 a cls d (unE i D) (σ.set i (some (.ref a))) H) ∧ (b = false → wAsL K i Wout D r cls d σ H)
inductive HdsAs (X : Cx) (n : Str) : List ExceptHandler → List Cl1 → Prop
  | nil : HdsAs X n [] []
  | cons {x : Str} {p : Cl1} {b₀ : Stmt} {suite : List Stmt} {np hp : Pos} {hds : List ExceptHandler} {l : List Cl1} (hc : Names X x p.1)
      (su : ∀ (a : Addr) (oe : Obj) (cls : Value) (d : Option Addr) (pn : List (Addr × Obj)), Zc cls d oe → (∃ vs, oe.data = .fields vs) → PSs (X.suite a ((a, oe) :: pn)) (b₀ :: suite) (p.2 a cls d)) (r : HdsAs X n hds l) :
      HdsAs X n (.ExceptHandler (some (.Name x np)) (some n) (b₀ :: suite) hp :: hds) (p :: l)
section
variable {X : Cx} {n : Str} {i : Nat} {body : List Stmt} {h₀ : ExceptHandler} {hds : List ExceptHandler} {l : List Cl1} {pos : Pos} {tb : WX → TS} {Wout : WX}
theorem ps_try_asL (hs : X.stack = X.env :: X.outer) (hf : X.env.frame = some X.env.locals) (hN : X.N.Nodup) (hi : X.N[i]? = some n) (hln : X.env.kindOf n = some .local) (tk : Takes X Wout)
    (hb : ∀ (W : WX) (pn : List (Addr × Obj)) (xe : Value → Shared → Prop), Takes (X.tr pn xe) W → PassesOwn (model X.prog X.w) X.A X.env xe → PSs (X.tr pn xe) body (tb W))
    (hh : HdsAs X n (h₀ :: hds) l) : PS X (.Try body (h₀ :: hds) [] [] pos) (fun D σ H => tb (wAsL X.K i Wout D l) D σ H) := by
  refine ⟨fun pins s σ H D I h => ?_⟩
  have ok := I.ok
  have frm : X.A.frames = some (X.env :: X.outer) := by
    rw [ok.frames, hs]
  have hloc : Loc X.env.scope n := .inl hln
  have iN : i < X.N.length := (List.getElem?_eq_some_iff.mp hi).1
  refine wpAny_Try_except ?_
  refine wpAny_mono ((hb (wAsL X.K i Wout D l) (X.pn ++ pins) (fun e s₁ => wpAny (model X.prog X.w) X.A (noteFrame e X.env) (fun _ s₂ =>
    wpAny (model X.prog X.w) X.A (setFlight e none) (fun _ s₃ => wpAny (model X.prog X.w) X.A (handleBy e X.env (h₀ :: hds)) (SP X pins D) X.xe s₃) X.xe s₂) X.xe s₁) ?_ PassesOwn.looking).run [] s σ H D (I.toTry _) h) ?_ (fun e s1 he => he)
  · -- what is caught
    intro u s' xx
    obtain ⟨a, B, sI, pins', σ', H', cls, d, rfl, J', nb, up, sky, na, os, ag, w⟩ := xx
    have J := J'.ofTry ok
    have il : i < σ'.length := by
      rw [J.len]
      exact iN
    have sk : Sky B (X.env :: X.outer) a (Zc cls d) X.env.locals s'.heap := by
      rw [← hs]
      exact sky
    show wpAny (model X.prog X.w) X.A (noteFrame (.ref a) X.env) _ _ _
    refine Sky.land Zc.steady frm hf sk ?_
    intro h3 fl3 up3
    have J3 : Inv X pins σ' H' ⟨h3, s'.gens, s'.drawn, s'.toks, s'.os⟩ := J.landed nb fl3.1 (up.trans up3) os ag
    obtain ⟨oe3, vs3, he3, hz3, hd3⟩ := fl3.there
    have nfr : a ∉ frs (X.env :: X.outer) := by
      intro hm
      obtain ⟨_, o', e', hnf⟩ := fl3.2.2.1.mem hm
      rw [he3] at e'
      cases e'
      exact hnf _ hd3
    have inF : ∀ e ∈ X.env :: X.outer, ∀ b, e.frame = some b → b ∈ frs (X.env :: X.outer) := fun e he b hb => List.mem_filterMap.mpr ⟨e, he, hb⟩
    have nL : a ≠ X.env.locals := fun z => nfr (z ▸ inF X.env List.mem_cons_self _ hf)
    have nF : a ∉ X.fs := by
      intro hm
      obtain ⟨e, he, q⟩ := List.mem_filterMap.mp hm
      exact nfr (inF e (List.mem_cons_of_mem _ he) _ q)
    have S3 := J3.suite he3 hd3 na nL nF
    have clauses : ∀ {hds' : List ExceptHandler} {l' : List Cl1}, HdsAs X n hds' l' → wAsL X.K i Wout D l' cls d σ' H' →
        wpAny (model X.prog X.w) X.A (handleBy (.ref a) X.env hds') (SP X pins D) X.xe { s' with heap := h3 } := by
      intro hds' l' hk
      induction hk with
      | nil =>
        intro w
        refine wpAny_handleBy_nil ?_
        obtain ⟨k1, k2, k3, oe, vs, T, oT, ts', he, hz, hd, h1, hr⟩ := id fl3
        unfold PySem.passOn
        refine wpAny_bind (wpAny_field he hd h1 ?_)
        rw [if_neg (show ¬ ((Value.ref T == Value.none) = true) by simp)]
        have fin : wpAny (model X.prog X.w) X.A (setFlight (.ref a) X.env.frame) (fun _ s4 => wpAny (model X.prog X.w) X.A (throw (.ref a) : Sem Flow) (SP X pins D) X.xe s4) X.xe { s' with heap := h3 } := by
          rw [hf]
          refine HandSPX.setFlight_upZ fl3 ?_
          intro h4 hh4 up4
          refine wpAny_throw (tk _ _ ⟨a, B, sI, pins, σ', H', cls, d, rfl, J, nb, (up.trans up3).trans up4, .inr (.inr ?_), na, os, ag, w⟩)
          rw [hs]
          exact hh4
        first
          | exact wpAny_bind (wpAny_pure (wpAny_bind fin))
          | exact wpAny_bind fin
      | @cons x p b₀ suite np hp hds2 l2 hc su r ih =>
        intro w
        obtain ⟨b, hb1, yes, no⟩ := w
        refine wpAny_handleBy_cons (codeAny_handlers_test ?_) (by intro q; cases q)
        have lt : PySem.W.Looks (model X.prog X.w) h3 (typeOf (.ref a)) cls := by
          intro A Q E s k q
          exact wpAny_typeOf_ref (k _ _ he3) (by rw [hz3.1]; exact q)
        have asked := PySem.W.exm_one (M := model X.prog X.w) J3.kIn lt hb1
        have test : ∀ {Q E : Value → Shared → Prop}, Q p.1 { s' with heap := h3 } → wpAny (model X.prog X.w) (X.A.mark (some (.ref a))) (eval (.Name x np) X.env) Q E { s' with heap := h3 } := by
          intro Q E q
          obtain ⟨hg, hdbg, hm | ⟨hm, hv, hnn⟩⟩ := hc
          · exact ld_glob (X := X.suite a ((a, oe3) :: (X.pn ++ pins))) S3 hg hm q hdbg
          · exact ld_blt (X := X.suite a ((a, oe3) :: (X.pn ++ pins))) S3 hg hm hv q hnn hdbg
        refine test (asked.here ?_)
        cases b with
        | false =>
          show wpAny _ X.A (handleBy (.ref a) X.env hds2) _ _ _
          exact ih (no rfl)
        | true =>
          refine codeAny_handlers_suite_as (HandSPX.lands_againZ fl3 ?_)
          intro h4 fl4 up4
          have J4 : Inv X pins σ' H' ⟨h4, s'.gens, s'.drawn, s'.toks, s'.os⟩ := J.landed nb fl4.1 ((up.trans up3).trans up4) os ag
          obtain ⟨oe4, vs4, he4, hz4, hd4⟩ := fl4.there
          have S4 := J4.suite he4 hd4 na nL nF
          refine store_ok (X := X.suite a ((a, oe4) :: (X.pn ++ pins))) (v := .ref a) S4 hN hi hloc rfl ?_ (.inr hln)
          intro s5 S5
          refine wpAny_mono ((su a oe4 cls d (X.pn ++ pins) hz4 ⟨_, hd4⟩).run [] s5 _ H' _ S5 (yes rfl a na il)) ?_ (fun _ _ z => z.elim)
          intro f s6 out
          have gone : ∀ {σ6 : L2.St} {H6 : Hp} {Q : Shared → Prop}, Inv (X.suite a ((a, oe4) :: (X.pn ++ pins))) [] σ6 H6 s6 → (∀ s7, Inv X pins (σ6.set i none) H6 s7 → Q s7) →
              wpAny (model X.prog X.w) X.A (do bindName X.env n .none; unbindBehindTheSuite X.env n hp) (fun _ s7 => Q s7) X.xe s6 := by
            intro σ6 H6 Q S6 hq
            exact gone_ok (S6.unsuite ok) hN hi hln hq
          cases f with
          | ret u =>
            obtain ⟨v6, σ6, H6, S6, r6, q6⟩ := out
            exact gone S6 fun s7 J7 => ⟨_, _, _, J7, r6, q6⟩
          | next =>
            obtain ⟨σ6, H6, S6, q6⟩ := out
            exact gone S6 fun s7 J7 => ⟨_, _, J7, q6⟩
          | brk =>
            obtain ⟨σ6, H6, S6, q6⟩ := out
            exact gone S6 fun s7 J7 => ⟨_, _, J7, q6⟩
          | cont =>
            obtain ⟨σ6, H6, S6, q6⟩ := out
            exact gone S6 fun s7 J7 => ⟨_, _, J7, q6⟩
    exact clauses hh w
  · intro f s1 out
    cases f with
    | ret u =>
      obtain ⟨v, σ', H', J', r, q⟩ := out
      exact ⟨v, σ', H', J'.ofTry ok, r, q⟩
    | next =>
      obtain ⟨σ', H', J', q⟩ := out
      exact wpAny_execs_nil ⟨σ', H', J'.ofTry ok, q⟩
    | brk =>
      obtain ⟨σ', H', J', q⟩ := out
      exact ⟨σ', H', J'.ofTry ok, q⟩
    | cont =>
      obtain ⟨σ', H', J', q⟩ := out
      exact ⟨σ', H', J'.ofTry ok, q⟩
end
end Q
end

set_option Elab.async false
set_option linter.all false
set_option maxRecDepth 100000
set_option maxHeartbeats 4000000
/-! A caught exception: its fields, isinstance. -/
noncomputable section
open Classical
namespace G
open PySem PySem.Spec PyProof.Rows L2
section
variable {prog : Program} {w : World} {A : Around} {E : Value → Shared → Prop} {s : Shared} {K : PySem.W.Frag} {x D : Addr} {ox od : Obj}
open PySem.W in
/-- e.__class__ of an exception with its dict -/
theorem kin_classD {Q : Option Value → Shared → Prop} (c : ExcC K D) (X : K.In s.heap) (I : InstAt s.heap x ox D (some od)) (h : Q (some (.ref D)) { s with toks := s.toks + 1 }) : wpAny (model prog w) A (getAttr? (.ref x) "__class__") Q E s := by
  have isC : (clsIn K D).isSome = true := by
    obtain ⟨cd, hc, _⟩ := any_some c.hd
    rw [hc]
    rfl
  obtain ⟨hp, g, d, t, os⟩ := s
  have ty := I.type (M := model prog w)
  have fGa := looks_findIn (M := model prog w) X c.hg
  have fGt := looks_findIn (M := model prog w) X c.hk
  have fCl := looks_find (M := model prog w) X I (findObj_data (od := od) isC c.ha c.hn c.ht)
  have isB : Looks (model prog w) hp (isInstance (.ref x) (.type "BaseException")) true := ty.andThen (looks_subIn X c.hs)
  have e1 : (Value.builtin "BaseException.__getattribute__" == Value.builtin "object.__getattribute__") = false := by decide +kernel
  unfold getAttr? getAttrBy? getAttrBy
  refine wpAny_bind (wpAny_mkText (wpAny_bind (wpAny_attempt (wpAny_holding (wpAny_bind (ty.at (wpAny_bind (fGa.at ?_))))))))
  show wpAny _ _ (if (onTheHeap (Value.ref D) && Value.builtin "BaseException.__getattribute__" == Value.builtin "object.__getattribute__") = true then _ else _) _ _ _
  rw [if_neg (by rw [e1, Bool.and_false]; exact Bool.false_ne_true)]
  unfold getAttrByItsOwn hookBefore
  refine wpAny_bind ?_
  rw [if_pos (show onTheHeap (Value.ref D) = true from rfl)]
  refine fGt.at (wpAny_bind (wpAny_attempt (wpAny_holding ?_)))
  unfold callGetattribute
  rw [if_neg (show ¬ (false && onTheHeap (Value.builtin "BaseException.__getattribute__")) = true from Bool.false_ne_true)]
  unfold boundAndCalled
  rw [PySem.F.excAttr_ValueError.ga.bind (.ref x)]
  refine wpAny_bind (wpAny_pure ?_)
  show wpAny _ _ (call (.builtin "BaseException.__getattribute__") [.ref x, .str "__class__" t]) _ _ _
  refine wpAny_call (codeAny_call_builtin PySem.F.excAttr_ValueError.ga.plain PySem.F.entry_bexc_ga ?_)
  refine @check_slot (model prog w) _ _ ⟨hp, g, d, t + 1, os⟩ "BaseException.__getattribute__" "BaseException" "__getattribute__" (.ref x) [.str "__class__" t] [] _ (by decide +kernel) (by decide +kernel) isB (PySem.F.args_bexc_ga (.ref x) (.str "__class__" t)) ?_
  unfold Builtin.«object.__getattribute__»
  refine wpAny_bind (wpAny_of_eq (a := ((Value.ref x : Value), [Value.str "__class__" t])) (by first | rfl | (simp only [slotArgs]; rfl)) ?_)
  refine wpAny_bind (wpAny_pure (wpAny_bind (ty.at (wpAny_bind (fCl.at ?_)))))
  show wpAny _ _ (holding [Value.builtin "object.__class__"] (call (.builtin "getset_descriptor.__get__") [.builtin "object.__class__", .ref x, .ref D]) >>= ret) _ _ _
  refine wpAny_bind (wpAny_holding (wpAny_call (class_get (s := ⟨hp, g, d, t + 1, os⟩) (ox := ox) (od := some od) X I c.hm (wpAny_pure ?_))))
  show wpAny _ _ (handedOut (.ref D)) _ _ _
  rw [handedOut_of (v := .ref D) rfl]
  first
    | exact wpAny_pure (wpAny_pure h)
    | exact wpAny_pure h
    | exact wpAny_pure (wpAny_bind (wpAny_pure (wpAny_pure h)))
open PySem.W in
theorem kitx_excD (c : ExcC K D) : KitX K (.ref x) (.ref D) (fun h => InstAt h x ox D (some od)) := by
  obtain ⟨cd, hcd, _⟩ := any_some c.hd
  have look : ∃ c' d' sl', K.lookup D = some ⟨c', d', .cls cd, sl'⟩ := by
    unfold clsIn at hcd
    split at hcd
    · rename_i c' d' cd' sl' ho
      cases hcd
      exact ⟨c', d', sl', ho⟩
    · cases hcd
  obtain ⟨c', d', sl', ho⟩ := look
  refine ⟨fun _ _ _ I => I.type, fun _ h X _ => ?_, fun h tp dd its n sl X htp => ?_, fun X I k => kin_classD c X I k⟩
  · intro A' Q' E' s' k q
    unfold isType loadHead
    exact wpAny_bind (wpAny_loadPart (k _ _ (X _ _ ho)) (wpAny_pure q))
  · refine Bool.eq_false_iff.mpr fun q => ?_
    obtain rfl : D = tp := Value.ref.inj (beq_iff_eq.mp q)
    cases (X _ _ ho).symm.trans htp
end
end G
namespace Q
variable [Tables]
open PySem PySem.Spec PyProof.Rows L2 G
section
variable {X : Cx} {Cl : Str → Addr} {w w' w1 : Wd} {i : Nat} {c : Str} {e a b : Expr} {es : List Expr} {pos : Pos}
/-- a caught exception's class: what is asked of it -/
structure ExcK (K : PySem.W.Frag) (Cl : Str → Addr) (c : Str) : Prop where
  xf : XfC K (Cl c)
  ec : ExcC K (Cl c)
/-- the state of a suite in which the exception of the class c lies in slot i -/
structure Hd (Cl : Str → Addr) (i : Nat) (c : Str) (a : Addr) (oe : Obj) (dd : Addr) (fs : List (Str × D)) (σ : L2.St) (w : Wd) : Prop where
  z : Zc (.ref (Cl c)) (some dd) oe
  f : ∃ vs, oe.data = .fields vs
  s : SR Cl w
  at_ : σ[i]? = some (some (.ref a))
  ex : ExcAt Cl w dd fs
theorem ExcAt.ext {dd : Addr} {fs : List (Str × D)} (x : Ext w w') (s : SR Cl w) (hd : ∀ p, w.μ.live p → w.ρ p ≠ dd) (h : ExcAt Cl w dd fs) : ExcAt Cl w' dd fs := by
  obtain ⟨vs, h1, h2, h3⟩ := h
  have k : w'.H dd = some (.xd vs) := by
    rcases x.keep dd (by rw [h1]; nofun) hd with k | ⟨_, o, kvs, k, _⟩ | ⟨ps, qs, k, _⟩
    · exact k.trans h1
    · rw [h1] at k
      cases k
    · rw [h1] at k
      cases k
  exact ⟨vs, k, h2, Paired.mapP h3 fun _ _ d => d.mono x.ff (x.keepF s)⟩
theorem SR.noxd (s : SR Cl w) {dd : Addr} {vs : List (Str × V)} (h : w.H dd = some (.xd vs)) : ∀ p, w.μ.live p → w.ρ p ≠ dd := fun p ⟨o, e, n⟩ z => by
  obtain ⟨_, u, h1, h2⟩ := s.at_ e n
  rw [z, h] at h1
  cases h1
  cases o <;> exact h2.elim
theorem Hd.ext {a : Addr} {oe : Obj} {dd : Addr} {fs : List (Str × D)} {σ : L2.St} (x : Ext w w') (s' : SR Cl w') (h : Hd Cl i c a oe dd fs σ w) : Hd Cl i c a oe dd fs σ w' := by
  obtain ⟨vs, h1, h2⟩ := h.ex
  exact ⟨h.z, h.f, s', h.at_, ExcAt.ext x h.s (h.s.noxd h1) ⟨vs, h1, h2⟩⟩
/-- in the suite, e is what h makes of the fields -/
def HEr (X : Cx) (Cl : Str → Addr) (i : Nat) (c : Str) (e : Expr) (h : List (Str × D) → Option D) : Prop := ∀ a oe dd pn fs σ w y (Q : VK), Hd Cl i c a oe dd fs σ w → h fs = some y →
  (∀ v w', w'.μ = w.μ → SR Cl w' → Ext w w' → Den Cl w'.F w'.H v y → Q v w'.H) → semE (X.suite a ((a, oe) :: pn)) e σ w.H Q
def HAr (X : Cx) (Cl : Str → Addr) (i : Nat) (c : Str) (es : List Expr) (h : List (Str × D) → Option (List D)) : Prop := ∀ a oe dd pn fs σ w ys (Q : List V → Hp → Prop), Hd Cl i c a oe dd fs σ w → h fs = some ys →
  (∀ vs w', w'.μ = w.μ → SR Cl w' → Ext w w' → DenL Cl w'.F w'.H vs ys → Q vs w'.H) → semA (X.suite a ((a, oe) :: pn)) es σ w.H Q
def HTr (X : Cx) (Cl : Str → Addr) (i : Nat) (c : Str) (e : Expr) (b : Bool) : Prop := ∀ a oe dd pn fs σ w (Q : Bool → Hp → Prop), Hd Cl i c a oe dd fs σ w →
  (∀ w', w'.μ = w.μ → SR Cl w' → Ext w w' → Q b w'.H) → semC (X.suite a ((a, oe) :: pn)) e σ w.H Q
theorem he_c {v : V} {d : D} (h : ∀ S : Cx, PE S e (tC v)) (r : ∀ F H, Den Cl F H v d) : HEr X Cl i c e fun _ => some d := fun a oe dd pn fs σ w y Q hd hy k => by
  cases hy
  exact semE.of (h _) (k v w rfl hd.s Ext.refl (r _ _)) fun _ _ q => q
theorem he_fld {n f : Str} {p : Pos} (ek : ExcK X.K Cl c) (hno : PySem.W.findIn X.K (.ref (Cl c)) f = some none) (hN : ∀ a pn, PE (X.suite a pn) (.Name n p) (tVar i))
    (hb : ∀ env : Env, attributeBase (.Name n p) f env (eval (.Name n p) env) = eval (.Name n p) env := by intro _; rfl) : HEr X Cl i c (.Attribute (.Name n p) f pos) fun fs => fs.lookup f := fun a oe dd pn fs σ w y Q hd hy k => by
  refine semE.of (pe_xf (pos := pos) ek.xf hno hd.z hd.f (hN a ((a, oe) :: pn)) (hb _)) (Q := Q) ?_ fun _ _ q => q
  obtain ⟨vs, h1, h2, h3⟩ := hd.ex
  have e1 := (lookup_rel (w := w) (f := f) (kvs := vs) (xs := fs.map fun kv => (kv.1, MV.d kv.2)) (by rw [h2, List.map_map]; rfl) (by
    have := relL_d (ρ := w.ρ) (μ := w.μ) h3
    rw [List.map_map] at this ⊢
    exact this)).1 (.d y) (by
      have : ∀ l : List (Str × D), l.lookup f = some y → (l.map fun kv => (kv.1, MV.d kv.2)).lookup f = some (MV.d y) := by
        intro l
        induction l with
        | nil => intro z; cases z
        | cons kv l ih =>
          intro z
          obtain ⟨g, x⟩ := kv
          simp only [List.map_cons, List.lookup] at z ⊢
          cases q : f == g with
          | true =>
            rw [q] at z
            cases z
            rfl
          | false =>
            rw [q] at z
            exact ih z
      exact this fs hy)
  obtain ⟨v, e2, e3⟩ := e1
  exact ⟨.ref a, hd.at_, rfl, rfl, dd, vs, v, rfl, h1, e2, k v w rfl hd.s Ext.refl e3⟩
/-- isinstance(n, B) -/
theorem he_isi {n B : Str} {t : Expr} {c' : V} {cv : Value} {r : Bool} {p p2 : Pos} (ek : ExcK X.K Cl c) (hN : ∀ a pn, PE (X.suite a pn) (.Name n p) (tVar i)) (hT : ∀ a pn, PE (X.suite a pn) t (tC c')) (hcv : ∀ u, RelV c' u → u = cv) (hk : PySem.W.kitOne X.K (.ref (Cl c)) cv = some r)
    (hg : Gl X "isinstance") (hm : X.mg "isinstance" = none) (hv : bootBuiltins "isinstance" = some (.builtin "isinstance")) (hst : ∀ env : Env, starEach [.Name n p, t] env = [(false, eval (.Name n p) env), (false, eval t env)] := by intro _; rfl) :
    HTr X Cl i c (.Call (.Name "isinstance" p2) [.Name n p, t] [] pos) r := fun a oe dd pn fs σ w Q hd k => by
  have hcall : CallR (X.suite a ((a, oe) :: pn)) (.builtin "isinstance") (fun xs H Q => xs = [.ref a, c'] ∧ (∃ vs, H dd = some (.xd vs)) ∧ Q (.bl r) H) := by
    intro pins s σ H xs us Q I rr h
    obtain ⟨rfl, ⟨vs, hx⟩, q⟩ := h
    cases rr with
    | cons rx rr =>
      cases rr with
      | cons rt rr =>
        cases rr
        cases rx
        obtain rfl := hcv _ rt
        obtain ⟨hget, _⟩ := I.pin (a, oe) (List.mem_append_left _ List.mem_cons_self)
        obtain ⟨fv, hfv⟩ := hd.f
        have hx' : ObjOk X.prog X.w H s.heap dd (.xd vs) := I.hok dd _ hx
        obtain ⟨mA, hns, hr⟩ := hx'
        obtain ⟨od, ho, hl⟩ := lookIn_ns hns
        have J : PySem.W.InstAt s.heap a oe (Cl c) (some od) := ⟨hget, hd.z.1, by unfold PySem.W.notCls; rw [hfv] <;> rfl, by rw [hd.z.2]; exact ho⟩
        exact PySem.W.kia_one (kitx_excD ek.ec) I.kIn J hk (fun z => nomatch z) fun tk => ⟨.bl r, H, I.kept (t' := tk) fun _ _ z => z, rfl, q⟩
  have hpe := pe_callB (X := X.suite a ((a, oe) :: pn)) (p := p2) (pos := pos) hcall hg hm hv (pa_cons (hN a ((a, oe) :: pn)) (pa_cons (hT a ((a, oe) :: pn)) pa_nil (by
    have := hst (X.suite a ((a, oe) :: pn)).env
    exact (List.cons.inj this).2)) (by
    have := hst (X.suite a ((a, oe) :: pn)).env
    rw [this]
    rw [(List.cons.inj this).2])) (by decide) (by decide) (by
    rw [hst]
    rw [(List.cons.inj (hst (X.suite a ((a, oe) :: pn)).env)).2]) (by
    rw [(List.cons.inj (hst (X.suite a ((a, oe) :: pn)).env)).2]
    rfl)
  refine semC.of (pt_val hpe (by intro _; rfl)) (Q := Q) ?_ fun _ _ q => q
  obtain ⟨vs, h1, _⟩ := hd.ex
  exact ⟨.ref a, hd.at_, rfl, ⟨vs, h1⟩, r, rfl, k w rfl hd.s Ext.refl⟩
theorem ht_not {r : Bool} (h : HTr X Cl i c e r) : HTr X Cl i c (.UnaryOp .Not e pos) (!r) := fun a oe dd pn fs σ w Q hd k => by
  refine semC.of (pt_not pt_sem) (Q := Q) ?_ fun _ _ q => q
  exact h a oe dd pn fs σ w _ hd fun w' e1 s' x => k w' e1 s' x
theorem ht_and {r r2 : Bool} {p : Pos} (h : HTr X Cl i c e r) (h2 : HTr X Cl i c b r2) : HTr X Cl i c (.BoolOp .And [e, b] p) (r && r2) := fun a oe dd pn fs σ w Q hd k => by
  refine semC.of (PW.pt (pw_and pt_sem (pw_and1 pt_sem))) (Q := Q) ?_ fun _ _ q => q
  refine h a oe dd pn fs σ w _ hd fun w' e1 s' x => ?_
  cases r with
  | true => exact h2 a oe dd pn fs σ w' _ (hd.ext x s') fun w2 e2 s2 x2 => k w2 (e2.trans e1) s2 (x.trans x2)
  | false => exact k w' e1 s' x
theorem he_if {r : Bool} {t : Expr} {h h2 : List (Str × D) → Option D} (ht : HTr X Cl i c t r) (h1 : HEr X Cl i c a h) (hb : HEr X Cl i c b h2) : HEr X Cl i c (.IfExp t a b pos) (if r = true then h else h2) := fun a' oe dd pn fs σ w y Q hd hy k => by
  refine semE.of (pe_ifExp pt_sem pe_sem pe_sem) (Q := Q) ?_ fun _ _ q => q
  refine ht a' oe dd pn fs σ w _ hd fun w' e1 s' x => ?_
  cases r with
  | true => exact h1 a' oe dd pn fs σ w' y _ (hd.ext x s') hy fun v w2 e2 s2 x2 d => k v w2 (e2.trans e1) s2 (x.trans x2) d
  | false => exact hb a' oe dd pn fs σ w' y _ (hd.ext x s') hy fun v w2 e2 s2 x2 d => k v w2 (e2.trans e1) s2 (x.trans x2) d
def hNil : List (Str × D) → Option (List D) := fun _ => some []
def hCons (h : List (Str × D) → Option D) (hs : List (Str × D) → Option (List D)) : List (Str × D) → Option (List D) := fun fs => (h fs).bind fun x => (hs fs).map (x :: ·)
theorem ha_nil : HAr X Cl i c [] hNil := fun a oe dd pn fs σ w ys Q hd hy k => by
  cases hy
  intro p pins s I
  exact (pa_nil (X := X.suite a ((a, oe) :: pn))).run p pins s σ w.H Q I (k [] w rfl hd.s Ext.refl .nil)
theorem ha_cons {h : List (Str × D) → Option D} {hs : List (Str × D) → Option (List D)} (h1 : HEr X Cl i c e h) (h2 : HAr X Cl i c es hs) (hst : ∀ env : Env, starEach (e :: es) env = (false, eval e env) :: starEach es env := by intro _; rfl) : HAr X Cl i c (e :: es) (hCons h hs) := fun a oe dd pn fs σ w ys Q hd hy k => by
  obtain ⟨x, e1, e2⟩ := Option.bind_eq_some_iff.mp hy
  obtain ⟨xs, e3, rfl⟩ := Option.map_eq_some_iff.mp e2
  intro p pins s I
  refine (pa_cons (X := X.suite a ((a, oe) :: pn)) pe_sem pa_sem (hst _)).run p pins s σ w.H Q I ?_
  refine h1 a oe dd pn fs σ w x _ hd e1 fun v w1 q1 s1 x1 d1 => ?_
  refine h2 a oe dd pn fs σ w1 xs _ (hd.ext x1 s1) e3 fun vs w2 q2 s2 x2 d2 => ?_
  exact k (v :: vs) w2 (q2.trans q1) s2 (x1.trans x2) (.cons (d1.mono x2.ff (x2.keepF s1)) d2)
theorem he_tup {hs : List (Str × D) → Option (List D)} {k : Nat} (ha : HAr X Cl i c es hs) (hl : es.length ≤ 1000) : HEr X Cl i c (.Tuple es k pos) fun fs => (hs fs).bind fun ds => if ds.length ≤ sizeLine then some (.tup ds) else none := fun a oe dd pn fs σ w y Q hd hy k => by
  obtain ⟨ds, e1, e2⟩ := Option.bind_eq_some_iff.mp hy
  split at e2
  · rename_i hc
    cases e2
    refine semE.of (pe_tup pa_sem) (Q := Q) ?_ fun _ _ q => q
    refine ha a oe dd pn fs σ w ds _ hd e1 fun vs w1 q1 s1 x1 d1 => ⟨by rw [Paired.length d1]; exact hc, fun p hp => ?_⟩
    obtain ⟨F', f1, f2, f3, f4⟩ := out_tup s1.th hp d1
    obtain ⟨s2, x2⟩ := s1.sub (SubQ.new hp) f1 f2 f3
    exact k _ ⟨F', w1.ρ, _, w1.μ⟩ q1 s2 (x1.trans x2) f4
  · cases e2
theorem he_lst {hs : List (Str × D) → Option (List D)} (ha : HAr X Cl i c es hs) : HEr X Cl i c (.List es pos) fun fs => (hs fs).bind fun ds => if ds.length ≤ sizeLine then some (.lst ds) else none := fun a oe dd pn fs σ w y Q hd hy k => by
  obtain ⟨ds, e1, e2⟩ := Option.bind_eq_some_iff.mp hy
  split at e2
  · rename_i hc
    cases e2
    refine semE.of (pe_lst pa_sem) (Q := Q) ?_ fun _ _ q => q
    refine ha a oe dd pn fs σ w ds _ hd e1 fun vs w1 q1 s1 x1 d1 => ⟨by rw [Paired.length d1]; exact hc, fun p hp => ?_⟩
    have hs' := SubQ.new (o := HO.lst vs) hp
    obtain ⟨s2, x2⟩ := s1.sub (F' := fun a => w1.F a ∨ a = p) hs' (fun _ h => .inl h) (fun a h => h.imp id fun e => by rw [e]; exact hp) (fun a h => by
      rcases h with h | h
      · rw [hs' a (s1.th a h)]
        exact s1.th a h
      · rw [h, upd_same]
        nofun)
    have r' : DenL Cl (fun a => w1.F a ∨ a = p) (upd w1.H p (.lst vs)) vs ds := Paired.mapP d1 fun _ _ h => h.mono (fun _ h => .inl h) (KeepF.of fun a ha => hs' a (s1.th a ha))
    exact k _ ⟨_, w1.ρ, _, w1.μ⟩ q1 s2 (x1.trans x2) (.lst (.inr rfl) upd_same (Paired.length r') (paired_get r'))
  · cases e2
end
end Q
end

set_option Elab.async false
set_option linter.all false
set_option maxRecDepth 100000
set_option maxHeartbeats 4000000
/-! Defs that call what they got within a try, and tell what was raised. -/
noncomputable section
open Classical
namespace Q
variable [Tables]
open PySem PySem.Spec PyProof.Rows L2 G
abbrev HF := List (Str × D) → Option D
inductive ToldH (X : Cx) (Cl : Str → Addr) (n : Str) (i : Nat) : List ExceptHandler → List (Str × HF) → Prop
  | nil : ToldH X Cl n i [] []
  | cons {x c : Str} {e : Expr} {h : HF} {np rp hp : Pos} {hds : List ExceptHandler} {l : List (Str × HF)} (hc : Names X x (.ref (Cl c))) (he : HEr X Cl i c e h) (r : ToldH X Cl n i hds l) :
      ToldH X Cl n i (.ExceptHandler (some (.Name x np)) (some n) [.Return (some e) rp] hp :: hds) ((c, h) :: l)
def hSel : List (Str × HF) → Str → Option HF
  | [], _ => none
  | p :: r, c => if c = p.1 then some p.2 else hSel r c
/-- what is told of an exception -/
def tgX (l : List (Str × HF)) (xs : List Str) (c : Str) (fs : List (Str × D)) (μ : MS) : Res MV := if c ∈ xs then match (hSel l c).bind (· fs) with
    | some y => .ok (.d y) μ
    | none => .bad
  else .bad
def frzV : MV → MS → Option (D × MS)
  | .d d, μ => some (d, μ)
  | .r p, μ => frzD 4 p μ
/-- try: return (ok, a()) / except ..: return .. -/
def tgR (ok : Str) (l : List (Str × HF)) (xs : List Str) : Res MV → Res MV
  | .ok v μ => match frzV v μ with
    | some (d, μ') => .ok (.d (.tup [.str ok, d])) μ'
    | none => .bad
  | .exc c fs μ => tgX l xs c fs μ
  | .bad => .bad
/-- try: a() / except ..: return .. / return None -/
def tgN (l : List (Str × HF)) (xs : List Str) : Res MV → Res MV
  | .ok _ μ => .ok (.d .non) μ
  | .exc c fs μ => tgX l xs c fs μ
  | .bad => .bad
section
variable {X : Cx} {Cl : Str → Addr} {w w' w1 : Wd} {n x a : Str} {i : Nat} {hds : List ExceptHandler} {l : List (Str × HF)} {xs : List Str} {Ng : List Str} {sg : Scope} {g : Addr} {cdg : Value} {q : Str} {j k : Nat} {p1 p2 p3 p4 p5 p6 p7 : Pos}
theorem told_hds (h : ToldH X Cl n i hds l) : ∃ l', HdsAs X n hds l' ∧ ∀ (D' : Ends) (c : Str) fs w dd σ y, SR Cl w → ExcAt Cl w dd fs → (∀ p ∈ l, PySem.W.exmOne X.K (.ref (Cl c)) (.ref (Cl p.1)) = some (decide (c = p.1))) → (hSel l c).bind (· fs) = some y →
    (∀ v w', w'.μ = w.μ → SR Cl w' → Ext w w' → Den Cl w'.F w'.H v y → D'.rt v w'.H) → wAsL X.K i (fun _ _ _ _ => False) D' l' (.ref (Cl c)) (some dd) σ w.H := by
  induction h with
  | nil => exact ⟨[], .nil, fun D' c fs w dd σ y s ex hx hs k => by cases hs⟩
  | @cons x c0 e h np rp hp hds l hc he r ih =>
    obtain ⟨l', h1, h2⟩ := ih
    refine ⟨(.ref (Cl c0), fun a cls d D' σ H => ∀ (oe : Obj) (pn : List (Addr × Obj)), Zc cls d oe → (∃ vs, oe.data = .fields vs) → semE (X.suite a ((a, oe) :: pn)) e σ H D'.rt) :: l', .cons hc (fun a oe cls d pn hz hf => ?_) h1, fun D' c fs w dd σ y s ex hx hs k => ?_⟩
    · exact ⟨fun pins s σ H D' I h => (pss_one (ps_ret (pos := rp) pe_sem)).run pins s σ H D' I (h oe pn hz hf)⟩
    · refine ⟨_, hx _ List.mem_cons_self, fun e1 a ha il oe pn hz hf => ?_, fun e1 => ?_⟩
      · have ec : c = c0 := of_decide_eq_true e1
        subst ec
        rw [hSel, if_pos rfl] at hs
        exact he a oe dd pn fs _ w y _ ⟨hz, hf, s, List.getElem?_set_self il, ex⟩ hs k
      · have ec : c ≠ c0 := of_decide_eq_false e1
        rw [hSel, if_neg ec] at hs
        exact h2 D' c fs w dd σ y s ex (fun p hp => hx p (List.mem_cons_of_mem _ hp)) hs k
theorem frzV_ok (s : SR Cl w) {v : V} {m : MV} (r : RelM Cl w v m) {d : D} {μ' : MS} (e : frzV m w.μ = some (d, μ')) : ∃ w' : Wd, w'.H = w.H ∧ w'.μ = μ' ∧ SR Cl w' ∧ Ext w w' ∧ Den Cl w'.F w'.H v d := by
  cases m with
  | d x =>
    cases e
    exact ⟨w, rfl, rfl, s, Ext.refl, r⟩
  | r p =>
    obtain ⟨rfl, _⟩ := r
    exact frzD_ok 4 p w d μ' s e
theorem tgX_ok {c : Str} {fs : List (Str × D)} {μ : MS} {Q : VK} (h : RPost Cl E0 (RelM Cl) w (noExc (tgX l xs c fs μ)) Q) : c ∈ xs ∧ ∃ y, (hSel l c).bind (· fs) = some y ∧ ∀ v w', w'.μ = μ → SR Cl w' → Ext w w' → Den Cl w'.F w'.H v y → Q v w'.H := by
  unfold tgX at h
  split at h
  · rename_i hc
    refine ⟨hc, ?_⟩
    split at h
    · rename_i y e
      exact ⟨y, e, h⟩
    · exact h.elim
  · exact h.elim
abbrev Zn (X : Cx) (Ng : List Str) (x : Str) (sg : Scope) (g : Addr) (cdg : Value) (s : Shared) (H : Hp) : Cx := (cxOf C8.CX0 X.prog X.w X.K X.mg X.base Ng x sg g cdg X.A X.stack s H C8.E0).nox
theorem told_R {ok : Str} (hN : Ng.Nodup) (h0 : 0 < Ng.length) (hi : Ng[i]? = some n) (hk : ∀ s H, (Zn X Ng x sg g cdg s H).env.kindOf n = some .local) (hh : ∀ s H, ToldH (Zn X Ng x sg g cdg s H) Cl n i (h₀ :: hds) l)
    (hx : ∀ c ∈ xs, ∀ p ∈ l, PySem.W.exmOne X.K (.ref (Cl c)) (.ref (Cl p.1)) = some (decide (c = p.1))) :
    LamX.GivesTo X Ng x sg g cdg [.Try [.Return (some (.Tuple [.Constant (.str ok) j p1, .Call (.Name a p2) [] [] p3] k p4)) p5] (h₀ :: hds) [] [] p6] a q (TTm Cl (tgR ok l xs)) := by
  intro f c' s H Q tl act hc h
  obtain ⟨w, r, rfl, s1, hr, hp⟩ := h
  obtain ⟨l', h1, h2⟩ := told_hds (hh s w.H)
  have st0 : (L2.start Ng [V.ref f])[0]? = some (some (V.ref f)) := rfl
  refine ⟨_, pss_one (ps_try_asL (i := i) (X := Zn X Ng x sg g cdg s w.H) (Wout := fun _ _ _ _ => False) (tb := fun W D' σ H => ∃ Ech : XK, (∀ cls d σ' H', Ech cls d H' → W cls d σ' H') ∧ σ[0]? = some (some (.ref f)) ∧ H c' = some (LamX.CodeO c' q) ∧
      tl Ech H fun v H' => (2 ≤ sizeLine) ∧ ∀ p, H' p = none → D'.rt (.ref p) (upd H' p (.tup [.str ok, v])))
      rfl rfl hN hi (hk s w.H) LamX.takes0 (fun W pn xe tk _ => ?_) h1), ?_⟩
  · refine ⟨fun pins s' σ H' D' I h' => ?_⟩
    obtain ⟨Ech, hW, q1, q2, q3⟩ := h'
    have hp := act W pn xe Ech p2 p3 tk hW
    have hq : PSs ((Zn X Ng x sg g cdg s w.H).tr pn xe) [.Return (some (.Tuple [.Constant (.str ok) j p1, .Call (.Name a p2) [] [] p3] k p4)) p5] _ := pss_one (ps_ret (pe_tup (pa_cons pe_str (pa_cons hp pa_nil))))
    exact hq.run pins s' σ H' D' I ⟨q1, q2, q3⟩
  · refine ⟨fun cls d H' => ∀ σ', wAsL X.K i (fun _ _ _ _ => False) ⟨fun _ H' => Q .non H', Q, fun _ _ => False, fun _ _ => False⟩ l' cls d σ' H', fun cls d σ' H' z => z σ', st0, hc, ?_⟩
    refine hr _ _ ?_
    cases r with
    | bad => exact hp
    | exc c fs μ =>
      obtain ⟨hcx, y, e1, k1⟩ := tgX_ok hp
      exact fun w' d x2 s2 em ex σ' => h2 _ c fs w' d σ' y s2 ex (hx c hcx) e1 fun v w2 e2 s3 x3 dn => k1 v w2 (e2.trans em) s3 (x2.trans x3) dn
    | ok m μ =>
      simp only [tgR] at hp
      intro v w' em s2 x2 rv
      cases e : frzV m μ with
      | none =>
        rw [e] at hp
        exact hp.elim
      | some z =>
        obtain ⟨d, μ2⟩ := z
        rw [e] at hp
        rw [← em] at e
        obtain ⟨w3, e3, e4, s3, x3, dn⟩ := frzV_ok s2 rv e
        have two : 2 ≤ sizeLine := by rw [sizeLine_eq]; decide
        refine ⟨two, fun p hpn => ?_⟩
        rw [← e3] at hpn ⊢
        obtain ⟨F', f1, f2, f3, f4⟩ := out_tup s3.th hpn (.cons (Den.str ok) (.cons dn .nil))
        obtain ⟨s4, x4⟩ := s3.sub (SubQ.new hpn) f1 f2 f3
        exact hp _ ⟨F', w3.ρ, _, w3.μ⟩ e4 s4 (x2.trans (x3.trans x4)) f4
theorem told_N (hN : Ng.Nodup) (h0 : 0 < Ng.length) (hi : Ng[i]? = some n) (hk : ∀ s H, (Zn X Ng x sg g cdg s H).env.kindOf n = some .local) (hh : ∀ s H, ToldH (Zn X Ng x sg g cdg s H) Cl n i (h₀ :: hds) l)
    (hx : ∀ c ∈ xs, ∀ p ∈ l, PySem.W.exmOne X.K (.ref (Cl c)) (.ref (Cl p.1)) = some (decide (c = p.1))) :
    LamX.GivesTo X Ng x sg g cdg [.Try [.Expr (.Call (.Name a p2) [] [] p3) p5] (h₀ :: hds) [] [] p6, .Return (some (.Constant .none j p1)) p7] a q (TTm Cl (tgN l xs)) := by
  intro f c' s H Q tl act hc h
  obtain ⟨w, r, rfl, s1, hr, hp⟩ := h
  obtain ⟨l', h1, h2⟩ := told_hds (hh s w.H)
  have st0 : (L2.start Ng [V.ref f])[0]? = some (some (V.ref f)) := rfl
  refine ⟨_, pss_cons (ps_try_asL (i := i) (X := Zn X Ng x sg g cdg s w.H) (Wout := fun _ _ _ _ => False) (tb := fun W D' σ H => ∃ Ech : XK, (∀ cls d σ' H', Ech cls d H' → W cls d σ' H') ∧ σ[0]? = some (some (.ref f)) ∧ H c' = some (LamX.CodeO c' q) ∧
      tl Ech H fun v H' => D'.nx σ H')
      rfl rfl hN hi (hk s w.H) LamX.takes0 (fun W pn xe tk _ => ?_) h1) (pss_one (ps_ret pe_non)), ?_⟩
  · refine ⟨fun pins s' σ H' D' I h' => ?_⟩
    obtain ⟨Ech, hW, q1, q2, q3⟩ := h'
    have hp := act W pn xe Ech p2 p3 tk hW
    have hq := pss_one (ps_expr (pos := p5) hp (by rfl))
    exact hq.run pins s' σ H' D' I ⟨q1, q2, q3⟩
  · refine ⟨fun cls d H' => ∀ σ', wAsL X.K i (fun _ _ _ _ => False) ⟨fun _ H' => Q .non H', Q, fun _ _ => False, fun _ _ => False⟩ l' cls d σ' H', fun cls d σ' H' z => z σ', st0, hc, ?_⟩
    refine hr _ _ ?_
    cases r with
    | bad => exact hp
    | exc c fs μ =>
      obtain ⟨hcx, y, e1, k1⟩ := tgX_ok hp
      exact fun w' d x2 s2 em ex σ' => h2 _ c fs w' d σ' y s2 ex (hx c hcx) e1 fun v w2 e2 s3 x3 dn => k1 v w2 (e2.trans em) s3 (x2.trans x3) dn
    | ok m μ =>
      intro v w' em s2 x2 rv
      exact hp .non w' em s2 x2 .non
end
end Q
end

set_option Elab.async false
set_option linter.all false
set_option maxRecDepth 100000
set_option maxHeartbeats 4000000
/-! Texts times, turned round, taken apart; tuples turned round. -/
namespace G
open PySem PySem.Spec PyProof.Rows L2
section
variable {prog : Program} {w : World} {A : Around} {E : Value → Shared → Prop} {s : Shared}
/-! ### a text taken apart -/
theorem draw_walk {I : Addr} {n : Nat} {P : Nat → Value → Prop} {S : Nat → Heap → Prop} (W : Walks prog w A I [I] [I] n P S) : ∀ (k i : Nat) (s : Shared) (Q : List Value → Shared → Prop), S i s.heap → i + k ≤ n →
    (∀ vs h' tk, S (i + k) h' → (∀ b o, b ≠ I → s.heap.get? b = some o → h'.get? b = some o) → vs.length = k → (∀ (j : Nat) v, vs[j]? = some v → P (i + j) v) → Q vs { s with heap := h', toks := tk }) → wpAny (model prog w) A (draw (.ref I) k) Q E s
  | 0, i, s, Q, st, _, hQ => wpAny_pure (hQ [] s.heap s.toks st (fun _ _ _ e => e) rfl fun j v e => by simp at e)
  | k + 1, i, s, Q, st, hle, hQ => by
    show wpAny _ _ (pyNext (.ref I) >>= _) Q E s
    refine wpAny_bind (W.item i s _ E (by omega) st fun v h1 tk1 hv st1 k1 => ?_)
    refine wpAny_bind (wpAny_holding (draw_walk W k (i + 1) _ _ st1 (by omega) fun vs h2 tk2 st2 k2 hl hp => wpAny_pure ?_))
    refine hQ (v :: vs) h2 tk2 (by rw [show i + (k + 1) = i + 1 + k by omega]; exact st2) (fun b o hb e => k2 b o hb (k1 b o (fun z => hb (List.mem_singleton.mp z)) e)) (by simp [hl]) fun j u e => ?_
    cases j with
    | zero =>
      simp at e
      rw [← e]
      exact hv
    | succ j =>
      have := hp j u (by simpa using e)
      rw [show i + (j + 1) = i + 1 + j by omega]
      exact this
theorem unpackItems_str {x : Str} {t : Tok} {n : Nat} {Q : List Value → Shared → Prop} (hh : A.handled = none) (hn : x.cps.size = n)
    (hQ : ∀ vs h' tk, (∀ b o, s.heap.get? b = some o → h'.get? b = some o) → vs.length = n → (∀ (j : Nat) v, vs[j]? = some v → SignAt x j v) → Q vs { s with heap := h', toks := tk }) : wpAny (model prog w) A (unpackItems (.str x t) n none) Q E s := by
  unfold unpackItems
  refine wpAny_bind ?_
  unfold notIterableAtAll
  refine wpAny_bind (wpAny_specialOf (typeIs_str s x t) F.slot_str_iter.lookup ?_)
  refine wpAny_pure ?_
  simp only [Bool.false_eq_true, if_false]
  refine wpAny_bind (wpAny_holding (wpAny_pyIter_str fun o St WW st0 => ?_))
  have W := WW A hh
  refine wpAny_bind (wpAny_holding (draw_walk W n 0 _ _ st0 (by omega) fun vs h1 tk1 st1 k1 hl hp => ?_))
  rw [if_neg (by omega)]
  refine wpAny_bind (wpAny_holding (W.done _ _ E (by rw [hn]; simpa using st1) fun h2 tk2 k2 => ?_))
  simp only [Option.isSome_none, Bool.false_eq_true, if_false]
  refine wpAny_pure (hQ vs h2 tk2 (fun b o e => ?_) hl fun j v e => by simpa using hp j v e)
  have hb : b ≠ s.heap.objs.size := Nat.ne_of_lt (Heap.lt_size e)
  exact k2 b o (fun z => hb (List.mem_singleton.mp z)) (k1 b o hb (Heap.get?_push_of_some _ e))
end
section
variable {X : Cx} {pos : Pos} {e : Expr} {te : TE}
/-- the signs of a text -/
def signsOf (z : Str) : List V := z.cps.toList.map fun c => V.str ⟨#[c]⟩
def gTupS (n : Nat) (t : TGs) : TG := fun v σ H Q => ∃ z, v = .str z ∧ z.cps.size = n ∧ t (signsOf z) σ H Q
theorem pg_tupS {es : List Expr} {k : Nat} {t : TGs} {n : Nat} (hc : X.calm = true) (h : PGs X es t) (hn : (assignEach es X.env).length = n := by rfl) (hst : (assignEach es X.env).findIdx? (·.1) = none := by rfl) : PG X (.Tuple es k pos) (gTupS n t) := by
  refine ⟨fun pins s σ H v u Q I r hw => ?_⟩
  obtain ⟨z, rfl, hz, hw⟩ := hw
  obtain ⟨tk, rfl⟩ := r
  rw [assign_Tuple]
  refine wpAny_bind (wpAny_standAt ?_)
  unfold unpack
  rw [hn, hst]
  refine wpAny_bind (wpAny_holding (unpackItems_str (I.ok.hd hc) hz fun vs h' tk' hk hl hp => ?_))
  have I1 : Inv X pins σ H { s with heap := h', toks := tk' } := I.kept (t' := tk') hk
  refine h.run pins _ σ H (signsOf z) vs Q I1 ?_ hw
  refine _root_.Q.paired_of (by unfold signsOf; simp [hl, ← hz]) fun i v u e1 e2 => ?_
  obtain ⟨c, tk2, e3, rfl⟩ := hp i u e2
  unfold signsOf at e1
  rw [List.getElem?_map, Array.getElem?_toList, e3] at e1
  cases e1
  exact ⟨tk2, rfl⟩
/-! ### text times number -/
def rMulS : R2 := fun x y H Q => ∃ z n, x = .str z ∧ y = .int n ∧ MulOk z n ∧ Q (.str (Txt.mul z n)) H
theorem op_mulS : OpR X (binaryOp .Mult) rMulS := by
  intro pins s σ H x y v u Q I rx ry h
  obtain ⟨z, n, rfl, rfl, ok, q⟩ := h
  obtain ⟨t, rfl⟩ := rx
  obtain ⟨t', rfl⟩ := ry
  exact SB.mul ok fun t2 k => ⟨.str _, H, I.tok _, ⟨_, rfl⟩, q⟩
/-! ### turned round -/
def revS (z : Str) : Str := ⟨z.cps.toList.reverse.toArray⟩
theorem idx_rev (n : Nat) : Builtin.Str.strSliceIndices none none (-1) n = (List.range n).reverse := by
  have h : Builtin.Str.strSliceIndices none none (-1) n = sliceRange ((n : Int) - 1) (-1) (-1) := by
    unfold Builtin.Str.strSliceIndices
    simp
  rw [h, PySem.W.krv_sliceRange, PySem.W.krv_range]
theorem pick_rev {α : Type} (xs : Array α) : ((List.range xs.size).reverse.filterMap (xs[·]?)) = xs.toList.reverse := by
  rw [List.filterMap_reverse, PySem.W.krv_all]
abbrev revE (e : Expr) (k : Nat) (p1 p2 p3 pos : Pos) : Expr := .Subscript e (.Slice none none (some (.UnaryOp .USub (.Constant (.int 1) k p1) p2)) p3) pos
theorem adjust_rev (n : Nat) : Builtin.Slice.sliceAdjust none none (-1) (n : Int) = ((n : Int) - 1, -1) := by
  unfold Builtin.Slice.sliceAdjust
  simp
theorem places_rev (n : Nat) : Builtin.Slice.slicePlaces ((n : Int) - 1) (-1) (-1) = n := by
  unfold Builtin.Slice.slicePlaces
  have h1 : ¬ ((-1 : Int) > 0) := by decide
  rw [if_neg h1]
  split
  · rw [show ((n : Int) - 1 - -1 - 1) = (n : Int) - 1 by omega, show (- -1 : Int) = 1 by decide, Int.ediv_one]
    omega
  · omega
theorem fm_congr {α β : Type} {f g : α → Option β} : ∀ l : List α, (∀ k ∈ l, f k = g k) → l.filterMap f = l.filterMap g
  | [], _ => rfl
  | a :: l, h => by
    rw [List.filterMap_cons, List.filterMap_cons, h a List.mem_cons_self, fm_congr l fun k hk => h k (List.mem_cons_of_mem _ hk)]
theorem tup_pick_rev (xs : Array Value) : ((List.range xs.size).filterMap fun (k : Nat) => xs[((xs.size : Int) - 1 + (k : Int) * (-1)).toNat]?) = xs.toList.reverse := by
  have e : (List.range xs.size).filterMap (fun (k : Nat) => xs[((xs.size : Int) - 1 + (k : Int) * (-1)).toNat]?) = (List.range xs.size).filterMap ((xs[·]?) ∘ fun k => xs.size - 1 - k) := by
    refine fm_congr _ fun k hk => ?_
    have := List.mem_range.mp hk
    show xs[_]? = xs[_]?
    rw [show ((xs.size : Int) - 1 + (k : Int) * (-1)).toNat = xs.size - 1 - k by omega]
  rw [e, ← List.filterMap_map, PySem.W.krv_range, pick_rev]
theorem getItem_tup_rev {prog : Program} {w : World} {A : Around} {E : Value → Shared → Prop} {s : Shared} {t sl : Addr} {items : Array Value} {u : Tok} {Q : Value → Shared → Prop} (ht : IsTup s.heap t items) (hs : s.heap.IsSliceOf sl .none .none (.int (-1) u))
    (h : Q (.ref s.heap.objs.size) { s with heap := s.heap.push { cls := .type "tuple", data := .seq items.toList.reverse.toArray } }) (hsz : items.size ≤ sizeLine) : wpAny (model prog w) A (getItem (.ref t) (.ref sl)) Q E s := by
  have hlen : sizeOk (.seq items.toList.reverse.toArray) := by
    show items.toList.reverse.toArray.size ≤ sizeLine
    simpa using hsz
  obtain ⟨os, hos, hcs, hds⟩ := id hs
  have hTs : s.TypeIs (.ref sl) "slice" := ⟨os, hos, hcs⟩
  unfold getItem
  try with_reducible refine wpAny_holding ?_
  first | refine wpAny_bind (wpAny_pure ?_) | skip
  refine wpAny_bind (wpAny_sequenceKey ht.typeIs (by decide) ?_)
  refine wpAny_bind (wpAny_callSpecial?_slot (name := Str.ofString "__getitem__") ht.typeIs slot_tuple_getitem (wpAny_call_entry slot_tuple_getitem ht.typeIs entry_tuple_getitem ?_ (args_tuple_getitem _ _)))
  show wpAny _ _ (Builtin.Tuple.tupleItemsOf (.ref t) >>= _) _ _ s
  refine wpAny_bind (tupleItemsOf_ ht (wpAny_bind (wpAny_typeOf hTs ?_)))
  rw [if_pos (by decide)]
  refine wpAny_bind ?_
  unfold Builtin.Slice.sliceApplied Builtin.Slice.sliceFields
  refine wpAny_bind (wpAny_bind (wpAny_field hos hds (x := .none) rfl (wpAny_bind (wpAny_field hos hds (x := .none) rfl (wpAny_bind (wpAny_field hos hds (x := .int (-1) u) rfl (wpAny_pure ?_)))))))
  refine wpAny_bind (slicePart_int ?_)
  show wpAny _ _ (if ((-1 : Int) == 0) = true then _ else _) _ _ s
  rw [if_neg (by decide)]
  refine wpAny_bind (slicePart_none (wpAny_bind (slicePart_none (wpAny_bind (wpAny_pure ?_)))))
  show wpAny _ _ (match Builtin.Slice.sliceAdjust none none (-1) (items.size : Int) with | (lo, hi) => pure (lo, (-1 : Int), Builtin.Slice.slicePlaces lo hi (-1))) _ _ s
  rw [adjust_rev]
  show wpAny _ _ (pure ((items.size : Int) - 1, (-1 : Int), Builtin.Slice.slicePlaces ((items.size : Int) - 1) (-1) (-1))) _ _ s
  rw [places_rev]
  refine wpAny_pure ?_
  show wpAny _ _ (if ((items.size : Int) - 1 == 0 && (-1 : Int) == 1 && items.size == items.size) = true then _ else _) _ _ s
  rw [if_neg (by rw [show ((-1 : Int) == 1) = false from by decide, Bool.and_false, Bool.false_and]; exact Bool.false_ne_true), tup_pick_rev]
  first
    | exact wpAny_bind (m := Builtin.Tuple.tupleExact _) (wpAny_newObj_type (wpAny_pure ⟨_, rfl, wpAny_pure h⟩) hlen)
    | exact wpAny_bind (m := Builtin.Tuple.tupleExact _) (wpAny_newObj_type (wpAny_bind (wpAny_pure (wpAny_pure ⟨_, rfl, wpAny_pure h⟩))) hlen)
    | exact wpAny_bind (wpAny_bind (m := Builtin.Tuple.tupleExact _) (wpAny_newObj_type (wpAny_pure (wpAny_pure ⟨_, rfl, wpAny_pure h⟩)) hlen))
    | exact wpAny_bind (wpAny_bind (m := Builtin.Tuple.tupleExact _) (wpAny_newObj_type (wpAny_pure ⟨_, rfl, wpAny_pure h⟩) hlen))
/-- x[::-1] of a list, a text, a tuple -/
def tRevU (K : PySem.W.Frag) (te : TE) : TE := fun σ H Q => te σ H fun x H1 => (∃ a xs, x = .ref a ∧ SqL K H1 a xs ∧ ∀ p, H1 p = none → Q (.ref p) (upd H1 p (.lst xs.reverse))) ∨ (∃ z, x = .str z ∧ z.length ≤ sizeLine ∧ Q (.str (revS z)) H1) ∨
  ∃ a xs, x = .ref a ∧ SqT K H1 a xs ∧ ∀ p, H1 p = none → Q (.ref p) (upd H1 p (.tup xs.reverse))
theorem pe_revU {k : Nat} {p1 p2 p3 : Pos} (he : PE X e te) : PE X (revE e k p1 p2 p3 pos) (tRevU X.K te) := by
  refine ⟨fun pins s σ H Q I h => ?_⟩
  refine Subscript_ (thn (he.run pins s σ H _ I h) ?_)
  intro v s1 hh
  obtain ⟨x, H1, I1, r1, q1⟩ := hh
  have hst : PO X (some (.UnaryOp .USub (.Constant (.int 1) k p1) p2)) (tPart (tUn (rU fun i => .int (-i)) (tC (.int 1)))) := po_some (pe_un un_neg pe_int)
  refine wpAny_Slice (thn (po_none.run pins s1 σ H1 (fun o H2 => o = none ∧ H2 = H1) I1 ⟨rfl, rfl⟩) ?_)
  rintro vl s2 ⟨l, H2, I2, pl, rfl, rfl⟩
  refine thn (po_none.run pins s2 σ H2 (fun o H3 => o = none ∧ H3 = H2) I2 ⟨rfl, rfl⟩) ?_
  rintro vu s3 ⟨u, H3, I3, pu, rfl, rfl⟩
  refine thn (hst.run pins s3 σ H3 (fun o H4 => o = some (-1) ∧ H4 = H3) I3 ⟨1, rfl, -1, rfl, rfl, rfl⟩) ?_
  rintro vs s4 ⟨o, H4, I4, ps, rfl, rfl⟩
  have I5 : Inv X pins σ H4 { s4 with heap := s4.heap.push { cls := .type "slice", data := .fields #[vl, vu, vs] } } := I4.kept (t' := s4.toks) fun b ob q => Heap.get?_push_of_some _ q
  show wpAny (model X.prog X.w) X.A (subscriptTail e (.Slice none none (some (.UnaryOp .USub (.Constant (.int 1) k p1) p2)) p3) v (.ref s4.heap.objs.size)) (EP X pins σ Q) X.xe { s4 with heap := s4.heap.push { cls := .type "slice", data := .fields #[vl, vu, vs] } }
  cases pl
  cases pu
  cases ps with
  | int i t =>
    rcases q1 with ⟨a, xs, rfl, hx, q⟩ | ⟨z, rfl, hz, q⟩ | ⟨a, xs, rfl, hx, q⟩
    · cases r1
      obtain ⟨its, r, ht, hz⟩ := I5.list hx
      have hlen := r.length
      refine tail_any (ops := [.ref a, .ref s4.heap.objs.size]) ht.isList.typeIs (PySem.slot_list_getitem.lookup) ?_ (by with_unfolding_all rfl)
      refine wpAny_getItem_list_slice ht.isList (Heap.IsSliceOf.new _ .none .none (.int (-1) t)) .none .none (.int _ _) (by decide) ?_ (by rw [List.size_toArray]; omega)
      rw [PySem.W.krv_pick]
      refine ⟨.ref _, _, I5.laid (t' := s4.toks) (o := .lst xs.reverse) (fun b ob q => Heap.get?_push_of_some _ q) (Nat.le_refl _) ?_, rfl, q _ (I5.hok.fresh (Nat.le_refl _))⟩
      exact ⟨by rw [List.length_reverse]; exact hz, _, 0, r.reverse, Heap.get?_push_size _ rfl⟩
    · obtain ⟨t2, rfl⟩ := r1
      refine tail_any (T := "str") (ops := [.str z t2, .ref s4.heap.objs.size]) (typeIs_str _ _ _) F.slot_str_getitem.lookup ?_ (by with_unfolding_all rfl)
      refine wpAny_getItem_str_slice (l := none) (u := none) (st := some (-1, t)) ⟨_, Heap.get?_push_size _ rfl, rfl, rfl⟩ rfl ?_
      show Made.post (if ((-1 : Int) == 1 && (Builtin.Str.strSliceIndices none none (-1) z.length).length == z.length) = true then Made.val (.str z t2) else Made.str ⟨((Builtin.Str.strSliceIndices none none (-1) z.length).filterMap (z.cps[·]?)).toArray⟩) _ _
      rw [if_neg (by rw [show ((-1 : Int) == 1) = false from by decide, Bool.false_and]; exact Bool.false_ne_true), idx_rev, show z.length = z.cps.size from rfl, pick_rev]
      exact ⟨by show z.cps.toList.reverse.toArray.size ≤ sizeLine; rw [List.size_toArray, List.length_reverse, Array.length_toList]; exact hz, .str (revS z), _, I5.tok _, ⟨_, rfl⟩, q⟩
    · cases r1
      obtain ⟨its, r, ht, hz⟩ := I5.tuple hx
      have hlen : its.toArray.size = xs.length := by
        rw [List.size_toArray]
        exact r.length.symm
      refine tail_any (ops := [.ref a, .ref s4.heap.objs.size]) ht.typeIs PyProof.Rows.slot_tuple_getitem.lookup ?_ (by with_unfolding_all rfl)
      refine getItem_tup_rev ht (Heap.IsSliceOf.new _ .none .none (.int (-1) t)) ?_ (by rw [hlen]; exact hz)
      refine ⟨.ref _, _, I5.laid (t' := s4.toks) (o := .tup xs.reverse) (fun b ob q => Heap.get?_push_of_some _ q) (Nat.le_refl _) ?_, rfl, q _ (I5.hok.fresh (Nat.le_refl _))⟩
      exact ⟨by rw [List.length_reverse]; exact hz, _, r.reverse, IsTup.new _ _⟩
end
end G

set_option Elab.async false
set_option linter.all false
set_option maxRecDepth 100000
set_option maxHeartbeats 4000000
/-! Operations by name; chains; turned round; how many different ones. -/
noncomputable section
open Classical
namespace Q
variable [Tables]
open PySem PySem.Spec PyProof.Rows L2 G
section
variable {X : Cx} {Cl : Str → Addr} {E : XK} {D' : Ends} {w w' w1 : Wd} {e a b c : Expr} {ma mb mc m : En → MS → Res MV} {pos : Pos} {v u : V}
/-! ### monotone -/
theorem mono_I0 {g : Int → Int → V} (v u : V) : Mono fun (_ : L2.St) H Q => rI0 g v u H Q := fun σ H Q Q' ⟨i, j, e1, e2, q⟩ k => ⟨i, j, e1, e2, k _ _ q⟩
theorem mono_I {C : Int → Int → Prop} {g : Int → Int → V} (v u : V) : Mono fun (_ : L2.St) H Q => rI C g v u H Q := fun σ H Q Q' ⟨i, j, e1, e2, c, q⟩ k => ⟨i, j, e1, e2, c, k _ _ q⟩
theorem mono_addU (v u : V) : Mono fun (_ : L2.St) H Q => rAddU v u H Q := fun σ H Q Q' h k => by
  rcases h with ⟨i, j, e1, e2, q⟩ | ⟨i, j, e1, e2, c, q⟩ | ⟨l, b, xs, zs, e1, e2, h1, h2, c, q⟩
  · exact .inl ⟨i, j, e1, e2, k _ _ q⟩
  · exact .inr (.inl ⟨i, j, e1, e2, c, k _ _ q⟩)
  · exact .inr (.inr ⟨l, b, xs, zs, e1, e2, h1, h2, c, fun p hp => k _ _ (q p hp)⟩)
def rMulQ : R2 := fun x y H Q => rMulU x y H Q ∨ rMulS x y H Q
theorem mono_mulQ (v u : V) : Mono fun (_ : L2.St) H Q => rMulQ v u H Q := fun σ H Q Q' h k => by
  rcases h with (⟨i, j, e1, e2, c, q⟩ | ⟨l, n, xs, e1, e2, h1, h2, h3, c, q⟩) | ⟨z, n, e1, e2, c, q⟩
  · exact .inl (.inl ⟨i, j, e1, e2, c, k _ _ q⟩)
  · exact .inl (.inr ⟨l, n, xs, e1, e2, h1, h2, h3, c, fun p hp => k _ _ (q p hp)⟩)
  · exact .inr ⟨z, n, e1, e2, c, k _ _ q⟩
theorem mono_eqU (v u : V) : Mono fun (_ : L2.St) H Q => rEqU v u H Q := fun σ H Q Q' h k => by
  rcases h with ⟨h, q⟩ | ⟨p, r, xs, h1, h2, h3, h4, q⟩ | ⟨p, r, xs, ys, h1, h2, h3, h4, h5, h6, q⟩
  · exact .inl ⟨h, k _ _ q⟩
  · exact .inr (.inl ⟨p, r, xs, h1, h2, h3, h4, k _ _ q⟩)
  · exact .inr (.inr ⟨p, r, xs, ys, h1, h2, h3, h4, h5, h6, k _ _ q⟩)
theorem mono_neU (v u : V) : Mono fun (_ : L2.St) H Q => rNeU v u H Q := fun σ H Q Q' h k => by
  rcases h with ⟨h, q⟩ | ⟨p, r, xs, h1, h2, h3, h4, q⟩ | ⟨p, r, xs, ys, h1, h2, h3, h4, h5, h6, q⟩
  · exact .inl ⟨h, k _ _ q⟩
  · exact .inr (.inl ⟨p, r, xs, h1, h2, h3, h4, k _ _ q⟩)
  · exact .inr (.inr ⟨p, r, xs, ys, h1, h2, h3, h4, h5, h6, k _ _ q⟩)
theorem mono_inU {neg : Bool} (v u : V) : Mono fun (_ : L2.St) H Q => rInU neg v u H Q := fun σ H Q Q' h k => by
  rcases h with ⟨i, j, e1, e2, q⟩ | ⟨p, xs, e1, h1, h2, h3, q⟩ | ⟨p, xs, e1, h1, h2, h3, q⟩ | ⟨p, xs, y, e1, e2, h1, q⟩
  · exact .inl ⟨i, j, e1, e2, k _ _ q⟩
  · exact .inr (.inl ⟨p, xs, e1, h1, h2, h3, k _ _ q⟩)
  · exact .inr (.inr (.inl ⟨p, xs, e1, h1, h2, h3, k _ _ q⟩))
  · exact .inr (.inr (.inr ⟨p, xs, y, e1, e2, h1, k _ _ q⟩))
theorem mono_is (v u : V) : Mono fun (_ : L2.St) H Q => (fun x y H (Q : VK) => y = .non ∧ Q (.bl (decide (x = .non))) H) v u H Q := fun σ H Q Q' ⟨h, q⟩ k => ⟨h, k _ _ q⟩
theorem mono_isN (v u : V) : Mono fun (_ : L2.St) H Q => (fun x y H (Q : VK) => y = .non ∧ Q (.bl (!decide (x = .non))) H) v u H Q := fun σ H Q Q' ⟨h, q⟩ k => ⟨h, k _ _ q⟩
/-! ### by name -/
def fSub : D → D → Option Out := fI fun i j => .int (i - j)
def fMod : D → D → Option Out := fIC (fun _ j => 0 < j) fun i j => .int (i % j)
def fFdiv : D → D → Option Out := fIC CDivW fun i j => .int (i / j)
def fPow : D → D → Option Out := fIC CPow fun i j => .int (i ^ j.toNat)
def fLt : D → D → Option Out := fI fun i j => .bl (decide (i < j))
def fLe : D → D → Option Out := fI fun i j => .bl (decide (i ≤ j))
def fGt : D → D → Option Out := fI fun i j => .bl (decide (j < i))
def fGe : D → D → Option Out := fI fun i j => .bl (decide (j ≤ i))
def fMulQ : D → D → Option Out
  | .str z, .int n => if MulOk z n then some (.v (.str (Txt.mul z n))) else none
  | x, y => fMul x y
theorem pu_mulQ : Pure2 Cl rMulQ fMulQ := fun F H v u dv du o Q th hv hu e q => by
  have old : fMul dv du = some o → rMulQ v u H Q := fun e => .inl (pu_mul F H v u dv du o Q th hv hu e q)
  cases dv with
  | str z =>
    cases du with
    | int n =>
      rw [fMulQ] at e
      split at e
      · rename_i hc
        cases e
        cases hv
        cases hu
        exact .inr ⟨z, n, rfl, rfl, hc, q _ H (SubQ.refl _) (out_d th (.str _))⟩
      · cases e
    | _ => exact old e
  | _ => exact old (by unfold fMulQ at e; exact e)
theorem me_add (ha : ME X Cl E a ma) (hb : ME X Cl E b mb) : ME X Cl E (.BinOp a .Add b pos) (mOp fAdd ma mb) := me_op op_addU pu_add mono_addU ha hb
theorem me_sub (ha : ME X Cl E a ma) (hb : ME X Cl E b mb) : ME X Cl E (.BinOp a .Sub b pos) (mOp fSub ma mb) := me_op op_sub (pu_I fun _ _ => rfl) mono_I0 ha hb
theorem me_mul (ha : ME X Cl E a ma) (hb : ME X Cl E b mb) : ME X Cl E (.BinOp a .Mult b pos) (mOp fMulQ ma mb) := me_op (op_mulU.or op_mulS) pu_mulQ mono_mulQ ha hb
theorem me_mod (ha : ME X Cl E a ma) (hb : ME X Cl E b mb) : ME X Cl E (.BinOp a .Mod b pos) (mOp fMod ma mb) := me_op op_mod (pu_IC fun _ _ => rfl) mono_I ha hb
theorem me_fdiv (ha : ME X Cl E a ma) (hb : ME X Cl E b mb) : ME X Cl E (.BinOp a .FloorDiv b pos) (mOp fFdiv ma mb) := me_op op_fdivW (pu_IC fun _ _ => rfl) mono_I ha hb
theorem me_pow (ha : ME X Cl E a ma) (hb : ME X Cl E b mb) : ME X Cl E (.BinOp a .Pow b pos) (mOp fPow ma mb) := me_op op_pow (pu_IC fun _ _ => rfl) mono_I ha hb
theorem me_lt (ha : ME X Cl E a ma) (hb : ME X Cl E b mb) : ME X Cl E (.Compare a [.Lt] [b] pos) (mOp fLt ma mb) := me_cmp op_lt (pu_I fun _ _ => rfl) mono_I0 ha hb (nomark _)
theorem me_le (ha : ME X Cl E a ma) (hb : ME X Cl E b mb) : ME X Cl E (.Compare a [.LtE] [b] pos) (mOp fLe ma mb) := me_cmp op_le (pu_I fun _ _ => rfl) mono_I0 ha hb (nomark _)
theorem me_gt (ha : ME X Cl E a ma) (hb : ME X Cl E b mb) : ME X Cl E (.Compare a [.Gt] [b] pos) (mOp fGt ma mb) := me_cmp op_gt (pu_I fun _ _ => rfl) mono_I0 ha hb (nomark _)
theorem me_ge (ha : ME X Cl E a ma) (hb : ME X Cl E b mb) : ME X Cl E (.Compare a [.GtE] [b] pos) (mOp fGe ma mb) := me_cmp op_ge (pu_I fun _ _ => rfl) mono_I0 ha hb (nomark _)
theorem me_eq (hu : X.A.units < cLine) (ha : ME X Cl E a ma) (hb : ME X Cl E b mb) : ME X Cl E (.Compare a [.Eq] [b] pos) (mOp (eqD false) ma mb) := me_cmp (op_eqU hu) pu_eq mono_eqU ha hb (nomark _)
theorem me_ne (hu : X.A.units < cLine) (ha : ME X Cl E a ma) (hb : ME X Cl E b mb) : ME X Cl E (.Compare a [.NotEq] [b] pos) (mOp (eqD true) ma mb) := me_cmp (op_neU hu) pu_ne mono_neU ha hb (nomark _)
theorem me_in (hu : X.A.units + 1 < cLine) (ha : ME X Cl E a ma) (hb : ME X Cl E b mb) (hm : behindInMarks .In b = false := by rfl) : ME X Cl E (.Compare a [.In] [b] pos) (mOp (inD false) ma mb) := me_cmp (op_inU hu) pu_in mono_inU ha hb hm
theorem me_nin (hu : X.A.units + 1 < cLine) (ha : ME X Cl E a ma) (hb : ME X Cl E b mb) (hm : behindInMarks .NotIn b = false := by rfl) : ME X Cl E (.Compare a [.NotIn] [b] pos) (mOp (inD true) ma mb) := me_cmp (op_notInU hu) pu_in mono_inU ha hb hm
theorem me_is (ha : ME X Cl E a ma) (hb : ME X Cl E b mb) : ME X Cl E (.Compare a [.Is] [b] pos) (mOp (isD false) ma mb) := me_cmp op_isN pu_is mono_is ha hb (nomark _)
theorem me_isN (ha : ME X Cl E a ma) (hb : ME X Cl E b mb) : ME X Cl E (.Compare a [.IsNot] [b] pos) (mOp (isD true) ma mb) := me_cmp op_notN pu_isnot mono_isN ha hb (nomark _)
theorem mc_v (h : ME X Cl E e ma) (he : ∀ whole, isTrue e X.env whole = (do let v ← whole; standAt e.pos; holding [v] (truthy v)) := by intro _; rfl) : MC X Cl E e (asB ma) := mc_val h he
/-- a comparison as a test -/
theorem mc_lt (ha : ME X Cl E a ma) (hb : ME X Cl E b mb) : MC X Cl E (.Compare a [.Lt] [b] pos) (asB (mOp fLt ma mb)) := mc_cmp op_lt (pu_I fun _ _ => rfl) mono_I0 ha hb (nomark _)
theorem mc_le (ha : ME X Cl E a ma) (hb : ME X Cl E b mb) : MC X Cl E (.Compare a [.LtE] [b] pos) (asB (mOp fLe ma mb)) := mc_cmp op_le (pu_I fun _ _ => rfl) mono_I0 ha hb (nomark _)
theorem mc_gt (ha : ME X Cl E a ma) (hb : ME X Cl E b mb) : MC X Cl E (.Compare a [.Gt] [b] pos) (asB (mOp fGt ma mb)) := mc_cmp op_gt (pu_I fun _ _ => rfl) mono_I0 ha hb (nomark _)
theorem mc_ge (ha : ME X Cl E a ma) (hb : ME X Cl E b mb) : MC X Cl E (.Compare a [.GtE] [b] pos) (asB (mOp fGe ma mb)) := mc_cmp op_ge (pu_I fun _ _ => rfl) mono_I0 ha hb (nomark _)
theorem mc_eq (hu : X.A.units < cLine) (ha : ME X Cl E a ma) (hb : ME X Cl E b mb) : MC X Cl E (.Compare a [.Eq] [b] pos) (asB (mOp (eqD false) ma mb)) := mc_cmp (op_eqU hu) pu_eq mono_eqU ha hb (nomark _)
theorem mc_ne (hu : X.A.units < cLine) (ha : ME X Cl E a ma) (hb : ME X Cl E b mb) : MC X Cl E (.Compare a [.NotEq] [b] pos) (asB (mOp (eqD true) ma mb)) := mc_cmp (op_neU hu) pu_ne mono_neU ha hb (nomark _)
theorem mc_in (hu : X.A.units + 1 < cLine) (ha : ME X Cl E a ma) (hb : ME X Cl E b mb) (hm : behindInMarks .In b = false := by rfl) : MC X Cl E (.Compare a [.In] [b] pos) (asB (mOp (inD false) ma mb)) := mc_cmp (op_inU hu) pu_in mono_inU ha hb hm
theorem mc_nin (hu : X.A.units + 1 < cLine) (ha : ME X Cl E a ma) (hb : ME X Cl E b mb) (hm : behindInMarks .NotIn b = false := by rfl) : MC X Cl E (.Compare a [.NotIn] [b] pos) (asB (mOp (inD true) ma mb)) := mc_cmp (op_notInU hu) pu_in mono_inU ha hb hm
theorem mc_is (ha : ME X Cl E a ma) (hb : ME X Cl E b mb) : MC X Cl E (.Compare a [.Is] [b] pos) (asB (mOp (isD false) ma mb)) := mc_cmp op_isN pu_is mono_is ha hb (nomark _)
theorem mc_isN (ha : ME X Cl E a ma) (hb : ME X Cl E b mb) : MC X Cl E (.Compare a [.IsNot] [b] pos) (asB (mOp (isD true) ma mb)) := mc_cmp op_notN pu_isnot mono_isN ha hb (nomark _)
/-! ### a < b <= c of whole numbers -/
def fCh (p q : Int → Int → Bool) : D → D → D → Option Bool
  | .int i, .int j, .int k => some (p i j && q j k)
  | _, _, _ => none
/-- c is looked at in any case: it is to be without effect -/
def mChain (p q : Int → Int → Bool) (ma mb mc : En → MS → Res MV) : En → MS → Res MV := fun env μ => (ma env μ).bind fun x μ1 => (mb env μ1).bind fun y μ2 => match x, y with
  | .d (.int i), .d (.int j) => if p i j = true then (mc env μ2).bind fun z μ3 => match z with
      | .d (.int k) => .ok (.d (.bl (q j k))) μ3
      | _ => .bad
    else .ok (.d (.bl false)) μ2
  | _, _ => .bad
theorem mt_chain {p q : Int → Int → Bool} (ha : ME X Cl E a ma) (hb : ME X Cl E b mb) (hc : ME X Cl E c mc) : MT Cl E (RelM Cl) Any (tChain (rI0 fun i j => .bl (p i j)) (rI0 fun i j => .bl (q i j)) (semE X a) (semE X b) (semE X c)) (mChain p q ma mb mc) := mt_of fun σ env w Q s hv hp => by
  refine use_b (T := semE X a) ha mono_E s hv hp fun x v w1 s1 x1 he1 rx hp => ?_
  refine use_b (T := semE X b) hb mono_E s1 he1 hp fun y u w2 s2 x2 he2 ry hp => ?_
  match x, y, rx, ry, hp with
  | .d (.int i), .d (.int j), rx, ry, hp =>
    cases rx
    cases ry
    refine ⟨i, j, rfl, rfl, p i j, rfl, ?_⟩
    simp only at hp
    by_cases c : p i j = true
    · rw [if_pos c] at hp ⊢
      refine use_b (T := semE X _) hc mono_E s2 he2 hp fun z t w3 s3 x3 he3 rz hp => ?_
      match z, rz, hp with
      | .d (.int k), rz, hp =>
        cases rz
        exact ⟨j, k, rfl, rfl, RPost.done s3 hp (Den.bl _)⟩
    · rw [if_neg c] at hp ⊢
      exact RPost.done s2 hp (Den.bl _)
def leB (i j : Int) : Bool := decide (i ≤ j)
def ltB (i j : Int) : Bool := decide (i < j)
theorem me_chLL (ha : ME X Cl E a ma) (hb : ME X Cl E b mb) (hc : ME X Cl E c mc) (hm : lastMarks [.LtE, .LtE] [b, c] = false := by with_unfolding_all rfl) : ME X Cl E (.Compare a [.LtE, .LtE] [b, c] pos) (mChain leB leB ma mb mc) := ME.of (pe_chain op_le op_le pe_sem pe_sem pe_sem hm) (mt_chain ha hb hc)
theorem me_chLl (ha : ME X Cl E a ma) (hb : ME X Cl E b mb) (hc : ME X Cl E c mc) (hm : lastMarks [.LtE, .Lt] [b, c] = false := by with_unfolding_all rfl) : ME X Cl E (.Compare a [.LtE, .Lt] [b, c] pos) (mChain leB ltB ma mb mc) := ME.of (pe_chain op_le op_lt pe_sem pe_sem pe_sem hm) (mt_chain ha hb hc)
theorem mono_chain {p q : Int → Int → Bool} : Mono (tChain (rI0 fun i j => .bl (p i j)) (rI0 fun i j => .bl (q i j)) (semE X a) (semE X b) (semE X c)) := fun σ H Q Q' h k => mono_E σ H _ _ h fun x H1 h => mono_E σ H1 _ _ h fun y H2 h => by
  obtain ⟨i, j, e1, e2, z, e3, h⟩ := h
  refine ⟨i, j, e1, e2, z, e3, ?_⟩
  split at h
  · rename_i c
    rw [if_pos c]
    exact mono_E σ H2 _ _ h fun x H3 ⟨i, j, e1, e2, q⟩ => ⟨i, j, e1, e2, k _ _ q⟩
  · rename_i c
    rw [if_neg c]
    exact k _ _ h
theorem mc_chLL (ha : ME X Cl E a ma) (hb : ME X Cl E b mb) (hc : ME X Cl E c mc) (hm : lastMarks [.LtE, .LtE] [b, c] = false := by with_unfolding_all rfl) : MC X Cl E (.Compare a [.LtE, .LtE] [b, c] pos) (asB (mChain leB leB ma mb mc)) := MC.of (pt_chain op_le op_le pe_sem pe_sem pe_sem hm) (mt_asB mono_chain stays_T (mt_chain ha hb hc))
theorem mc_chLl (ha : ME X Cl E a ma) (hb : ME X Cl E b mb) (hc : ME X Cl E c mc) (hm : lastMarks [.LtE, .Lt] [b, c] = false := by with_unfolding_all rfl) : MC X Cl E (.Compare a [.LtE, .Lt] [b, c] pos) (asB (mChain leB ltB ma mb mc)) := MC.of (pt_chain op_le op_lt pe_sem pe_sem pe_sem hm) (mt_asB mono_chain stays_T (mt_chain ha hb hc))
/-! ### -x -/
def mNeg (m : En → MS → Res MV) : En → MS → Res MV := fun env μ => (m env μ).bind fun x μ1 => match x with
  | .d (.int i) => .ok (.d (.int (-i))) μ1
  | _ => .bad
theorem me_neg (ha : ME X Cl E a ma) : ME X Cl E (.UnaryOp .USub a pos) (mNeg ma) := ME.of (pe_un un_neg pe_sem) <| mt_of fun σ env w Q s hv hp => by
  refine use_b (T := semE X a) ha mono_E s hv hp fun x v w1 s1 x1 he1 rx hp => ?_
  match x, rx, hp with
  | .d (.int i), rx, hp =>
    cases rx
    exact ⟨i, rfl, RPost.done s1 hp (Den.int _)⟩
/-! ### x[::-1] -/
def fRevU : D → Option Out
  | .lst xs => some (.n (.lst (xs.reverse.map .d)))
  | .str z => if z.length ≤ sizeLine then some (.v (.str (revS z))) else none
  | .tup xs => some (.v (.tup xs.reverse))
  | _ => none
def mRevU (m : En → MS → Res MV) : En → MS → Res MV := fun env μ => (m env μ).bind fun x μ1 => mOut ((vw μ1 x).bind fRevU) μ1
theorem me_revU {k : Nat} {p1 p2 p3 : Pos} (he : ME X Cl E e m) : ME X Cl E (revE e k p1 p2 p3 pos) (mRevU m) := ME.of (pe_revU pe_sem) <| mt_of fun σ env w Q s hv hp => by
  refine use_b (T := semE X e) he mono_E s hv hp fun x v w1 s1 x1 he1 rx hp => ?_
  refine use_mOut (T := fun Q => (∃ a xs, v = .ref a ∧ SqL X.K w1.H a xs ∧ ∀ p, w1.H p = none → Q (.ref p) (upd w1.H p (.lst xs.reverse))) ∨ (∃ z, v = .str z ∧ z.length ≤ sizeLine ∧ Q (.str (revS z)) w1.H) ∨
    ∃ a xs, v = .ref a ∧ SqT X.K w1.H a xs ∧ ∀ p, w1.H p = none → Q (.ref p) (upd w1.H p (.tup xs.reverse))) s1 hp fun o' e1 k => ?_
  obtain ⟨d, e2, e3⟩ := Option.bind_eq_some_iff.mp e1
  have rv := rx.view s1 e2
  cases d with
  | lst xs =>
    cases e3
    obtain ⟨a, us, rfl, ha, la⟩ := rv
    exact .inl ⟨a, us, rfl, .inl (rd_lk (by rw [ha]; rfl)), fun p hp => k _ _ (SubQ.new hp) (out_lst hp la.reverse)⟩
  | str z =>
    rw [fRevU] at e3
    split at e3
    · rename_i hc
      cases e3
      cases rv
      exact .inr (.inl ⟨z, rfl, hc, k _ _ (SubQ.refl _) (out_d s1.th (.str _))⟩)
    · cases e3
  | tup xs =>
    cases e3
    obtain ⟨a, us, rfl, ha, la⟩ := rv
    exact .inr (.inr ⟨a, us, rfl, .inl (rd_lk (by rw [ha]; rfl)), fun p hp => k _ _ (SubQ.new hp) (out_tup s1.th hp la.reverse)⟩)
  | _ => cases e3
/-! ### a, b = text -/
def gTS (n : Nat) (f : List D → En → Option En) : Tgt := fun d env => match d with
  | .str z => if z.cps.size = n then f (z.cps.toList.map fun c => .str ⟨#[c]⟩) env else none
  | _ => none
theorem gok_tupS {n : Nat} {gs : TGs} {fs : List D → En → Option En} (hs : GsOk Cl gs fs) : GOk Cl (gTupS n gs) (gTS n fs) := fun d env env' x σ w Q he hd e k => by
  cases d with
  | str z =>
    unfold gTS at e
    simp only at e
    split at e
    · rename_i hc
      cases hd
      exact ⟨z, rfl, hc, hs _ env env' _ σ w Q he (DenL.map (fun c => Den.str ⟨#[c]⟩) _) e k⟩
    · cases e
  | _ => cases e
theorem mg_tupS {as : List Expr} {k n : Nat} {fs : List D → En → Option En} (hc : X.calm = true) (h : MGs X Cl as fs) (hn : (assignEach as X.env).length = n := by rfl) (hst : (assignEach as X.env).findIdx? (·.1) = none := by rfl) :
    MG X Cl (.Tuple as k pos) (gTS n fs) := by
  obtain ⟨gs, h1, h2⟩ := h.ex
  exact ⟨_, pg_tupS hc h1 hn hst, gok_tupS h2⟩
end
end Q
end

set_option Elab.async false
set_option linter.all false
set_option maxRecDepth 100000
set_option maxHeartbeats 4000000
/-! How many different ones; dict comprehensions and displays; walks of lists and tuples. -/
noncomputable section
open Classical
namespace Q
variable [Tables]
open PySem PySem.Spec PyProof.Rows L2 G
/-! ### different ones -/
def dadd (acc : List Key) (k : Key) : List Key := if k ∈ acc then acc else acc ++ [k]
def dset (l : List Key) : List Key := l.foldl dadd []
theorem dset_snoc (l : List Key) (k : Key) : dset (l ++ [k]) = dadd (dset l) k := by
  unfold dset
  rw [List.foldl_append]
  rfl
theorem mem_dadd {acc : List Key} {k j : Key} : j ∈ dadd acc k ↔ j ∈ acc ∨ j = k := by
  unfold dadd
  split
  · rename_i h
    exact ⟨.inl, fun z => z.elim id fun e => by rw [e]; exact h⟩
  · rw [List.mem_append, List.mem_singleton]
theorem mem_dset {j : Key} (l : List Key) : j ∈ dset l ↔ j ∈ l := by
  have key : ∀ (l acc : List Key), j ∈ l.foldl dadd acc ↔ j ∈ acc ∨ j ∈ l := by
    intro l
    induction l with
    | nil => intro acc; simp
    | cons a l ih =>
      intro acc
      rw [List.foldl_cons, ih, mem_dadd, List.mem_cons, or_assoc]
  have := key l []
  simpa [dset] using this
theorem dset_le (l : List Key) : (dset l).length ≤ l.length := by
  have key : ∀ (l acc : List Key), (l.foldl dadd acc).length ≤ acc.length + l.length := by
    intro l
    induction l with
    | nil => intro acc; simp
    | cons a l ih =>
      intro acc
      rw [List.foldl_cons]
      have h1 := ih (dadd acc a)
      have h2 : (dadd acc a).length ≤ acc.length + 1 := by
        unfold dadd
        split
        · omega
        · simp
      simp only [List.length_cons]
      omega
  simpa [dset] using key l []
theorem dset_nodup (l : List Key) : (dset l).length = l.length ↔ l.Nodup := by
  have key : ∀ (l acc : List Key), (l.foldl dadd acc).length = acc.length + l.length ↔ l.Nodup ∧ ∀ k ∈ l, k ∉ acc := by
    intro l
    induction l with
    | nil => intro acc; simp
    | cons a l ih =>
      intro acc
      have le : ∀ (l acc : List Key), (l.foldl dadd acc).length ≤ acc.length + l.length := by
        intro l
        induction l with
        | nil => intro acc; simp
        | cons a l ih =>
          intro acc
          rw [List.foldl_cons]
          have h1 := ih (dadd acc a)
          have h2 : (dadd acc a).length ≤ acc.length + 1 := by
            unfold dadd
            split
            · omega
            · simp
          simp only [List.length_cons]
          omega
      rw [List.foldl_cons]
      by_cases h : a ∈ acc
      · have e : dadd acc a = acc := if_pos h
        rw [e]
        have := le l acc
        constructor
        · intro q
          simp only [List.length_cons] at q
          omega
        · intro q
          exact absurd h (q.2 a List.mem_cons_self)
      · have e : dadd acc a = acc ++ [a] := if_neg h
        rw [e]
        have h1 := ih (acc ++ [a])
        simp only [List.length_append, List.length_cons, List.length_nil, List.nodup_cons, List.mem_append, List.mem_singleton, List.mem_cons] at h1 ⊢
        constructor
        · intro q
          obtain ⟨a1, a2⟩ := h1.mp (by omega)
          refine ⟨⟨fun m => a2 a m (.inr (.inl rfl)), a1⟩, fun k hk => ?_⟩
          rcases hk with rfl | hk
          · exact h
          · exact fun z => a2 k hk (.inl z)
        · rintro ⟨⟨a1, a2⟩, a3⟩
          have := h1.mpr ⟨a2, fun k hk => fun z => by
            rcases z with z | rfl | z
            · exact a3 k (.inr hk) z
            · exact a1 hk
            · cases z⟩
          omega
  have := key l []
  simpa [dset] using this
section
variable {X : Cx} {Cl : Str → Addr} {E : XK} {D' : Ends} {w w' w1 : Wd} {e a b c : Expr} {ma mb mc m : En → MS → Res MV} {pos : Pos} {v u : V}
/-- the set of the items, each a key -/
def tSetI {α : Type} (P : Program) (w : World) (wz : TIZ α) (f : α → V) : TE := fun σ H Q => wz σ H fun zs Gd R H1 => ∃ (k : α → Key), R = RVal f ∧ (∀ z ∈ zs, f z = kV (k z)) ∧ zs.length < 4000 ∧ (∀ H', SubQ H1 H' → Gd H') ∧
  ∀ D H' S, H1 D = none → SubQ H1 H' → H' D = some (SetK P w D S (dset (zs.map k)).length) → Q (.ref D) H'
theorem setK_nt {P : Program} {w : World} {D : Addr} {S : Key → Bool} {n : Nat} : ∀ ps, SetK P w D S n ≠ .tbl ps := fun ps z => by
  unfold SetK at z
  cases z
theorem sub_set {H1 H : Hp} (h : SubQ H1 H) {D : Addr} {u : HO} (hD : H1 D = none) (nt : ∀ ps, u ≠ .tbl ps) : SubQ H1 (upd H D u) := ⟨fun a ha => by
    rw [upd_ne fun z => ha (by rw [z]; exact hD)]
    exact h a ha, fun a ps e => by
  by_cases z : a = D
  · rw [z, upd_same] at e
    exact absurd (Option.some.inj e) (nt ps)
  · rw [upd_ne z] at e
    exact h.t a ps e⟩
theorem pe_setI {α : Type} {x : Str} {iter : Expr} {scope : Scope} {i : Nat} {p1 p2 : Pos} {wz : TIZ α} {f : α → V} (hc : X.calm = true) (hN : X.N.Nodup) (hi : PIZ X (.Name x p1) iter wz) (ok : BlkOk X.N X.env.scope scope [(x, i)])
    (hg : Blks X scope fun B => PG B (.Name x p1) (gName i)) (he : Blks X scope fun B => PE B (.Name x p2) (tVar i)) (hs : ∀ y, foldedSetIterable iter X.env y = pure y := by intro _; rfl) (il : i < X.N.length) :
    PE X (.SetComp (.Name x p2) [⟨.Name x p1, iter, [], 0⟩] scope pos) (tSetI X.prog X.w wz f) := by
  refine ⟨fun pins s σ H Q I h => (pe_scK hc hN pi_sem ok pg_b pts_b pe_b hs).run pins s σ H Q I ?_⟩
  have len : σ.length = X.N.length := I.len
  refine semI.of pi_sem (hi σ H _ h) fun J H1 ⟨zs, Gd, R, W, k, eR, hk, hz, hG, hend⟩ => ?_
  subst eR
  intro D hD
  refine sc_it W.walk (fun j H => SubQ H1 H ∧ ∃ S, H D = some (SetK X.prog X.w D S (dset ((zs.take j).map k)).length) ∧ (∀ q, S q = true ↔ q ∈ (zs.take j).map k)) ⟨SubQ.new hD setK_nt, _, by rw [upd_same]; rfl, fun j => by simp⟩ (fun j H _ p => hG H p.1) ?_ ?_
  · rintro j y H H' hj ⟨s1, S, hy, hS⟩ ⟨z, hzi, rfl, rfl⟩
    have hm : z ∈ zs := List.mem_of_getElem? hzi
    have tk : zs.take (j + 1) = zs.take j ++ [z] := by
      rw [List.take_succ, hzi]
      rfl
    have wl : i < (wipe σ [i]).length := by rw [wipe_length, len]; exact il
    refine bG.of hg (t := gName i) (Q := fun σ2 H2 => σ2 = (wipe σ [i]).set i (some (f z)) ∧ H2 = H') ⟨rfl, rfl⟩ fun σ2 H2 hh => ?_
    obtain ⟨rfl, e9⟩ := hh
    subst e9
    refine ⟨?_, bT.of (t := tYes) (fun _ _ _ _ _ => pts_nil) (Q := fun b H3 => b = true ∧ H3 = H2) ⟨rfl, rfl⟩ fun b H3 hb => ?_⟩
    · show wipe ((wipe σ [i]).set i (some (f z))) [i] = wipe σ [i]
      apply List.ext_getElem?
      intro q
      by_cases hq : q = i
      · subst hq
        rw [wipe_none (by simp) (by rw [List.length_set]; exact wl), wipe_none (by simp) (by rw [len]; exact il)]
      · have nm : q ∉ [i] := by simpa using hq
        rw [wipe_out nm, List.getElem?_set_ne (fun e => hq e.symm), wipe_out nm]
    · obtain ⟨rfl, rfl⟩ := hb
      rw [if_pos rfl]
      refine bE.of he (Q := fun y H4 => y = f z ∧ H4 = H3) ⟨f z, List.getElem?_set_self wl, rfl, rfl⟩ fun y H4 hy2 => ?_
      obtain ⟨rfl, rfl⟩ := hy2
      have lt : (dset ((zs.take j).map k)).length + 1 < scanBound := by
        have := dset_le ((zs.take j).map k)
        rw [List.length_map, List.length_take] at this
        show _ < 4096
        omega
      refine ⟨k z, S, _, hk z hm, hy, lt, sub_set s1 hD setK_nt, (fun j => S j || decide (j = k z)), ?_, fun q => ?_⟩
      · rw [upd_same, tk, List.map_append, List.map_singleton, dset_snoc]
        congr 2
        unfold dadd
        by_cases h : k z ∈ dset ((zs.take j).map k)
        · rw [if_pos h, if_pos ((hS _).mpr ((mem_dset _).mp h))]
        · rw [if_neg h, if_neg (fun q => h ((mem_dset _).mpr ((hS _).mp q)))]
          simp
      · rw [tk, List.map_append, List.map_singleton, List.mem_append, List.mem_singleton, ← hS q, Bool.or_eq_true, decide_eq_true_eq]
  · rintro H ⟨s1, S, hy, _⟩
    rw [List.take_length] at hy
    exact hend D H S hD s1 hy
def invK : V → Key
  | .int i => .inl i
  | .str x => .inr x
  | _ => .inl 0
theorem invK_kV (k : Key) : invK (kV k) = k := by cases k <;> rfl
def keysD : List D → Option (List Key)
  | [] => some []
  | d :: ds => (keyD d).bind fun k => (keysD ds).map (k :: ·)
/-- the items of a text or a list, as keys -/
def itemK : D → Option (List Key)
  | .str z => some (z.cps.toList.map fun c => .inr ⟨#[c]⟩)
  | .lst ds => keysD ds
  | _ => none
def mLenSet (m : En → MS → Res MV) : En → MS → Res MV := fun env μ => (mFrz m env μ).bind fun x μ1 => match x with
  | .d d => match itemK d with
    | some ks => if ks.length < 4000 then .ok (.d (.int (dset ks).length)) μ1 else .bad
    | none => .bad
  | .r _ => .bad
theorem keysD_den {F : Addr → Prop} {H : Hp} : ∀ {vs : List V} {ds : List D} {ks : List Key}, DenL Cl F H vs ds → keysD ds = some ks → vs = ks.map kV
  | _, _, ks, .nil, e => by
    cases e
    rfl
  | _, d :: ds, ks, .cons h t, e => by
    obtain ⟨k, e1, e2⟩ := Option.bind_eq_some_iff.mp (show (keyD d).bind (fun k => (keysD ds).map (k :: ·)) = some ks from e)
    obtain ⟨ks', e3, rfl⟩ := Option.map_eq_some_iff.mp e2
    rw [List.map_cons, key_den (Den.N h) e1, keysD_den t e3]
section
variable {x : Str} {iter : Expr} {scope : Scope} {i : Nat} {p1 p2 p3 p4 : Pos}
theorem len_set {T : TE} (hpe : PE X (.SetComp (.Name x p2) [⟨.Name x p1, iter, [], 0⟩] scope p3) T) (hgl : Gl X "len") (hm : X.mg "len" = none) (hst : starEach [.SetComp (.Name x p2) [⟨.Name x p1, iter, [], 0⟩] scope p3] X.env = [(false, eval (.SetComp (.Name x p2) [⟨.Name x p1, iter, [], 0⟩] scope p3) X.env)] := by rfl) :
    PE X (.Call (.Name "len" p4) [.SetComp (.Name x p2) [⟨.Name x p1, iter, [], 0⟩] scope p3] [] pos) (tCB (rLenU X.prog X.w) (tCons T tNil)) := pe_callB call_lenU hgl hm PySem.boot_len (pa_cons hpe pa_nil) (by decide) (by decide)
theorem me_lensetS {n : En → MS → Res MV} (hc : X.calm = true) (hN : X.N.Nodup) (he : ME X Cl E iter n) (ok : BlkOk X.N X.env.scope scope [(x, i)]) (hg : Blks X scope fun B => PG B (.Name x p1) (gName i)) (hv : Blks X scope fun B => PE B (.Name x p2) (tVar i)) (il : i < X.N.length)
    (hgl : Gl X "len") (hm : X.mg "len" = none) (hs : ∀ y, foldedSetIterable iter X.env y = pure y := by intro _; rfl) (hst : starEach [.SetComp (.Name x p2) [⟨.Name x p1, iter, [], 0⟩] scope p3] X.env = [(false, eval (.SetComp (.Name x p2) [⟨.Name x p1, iter, [], 0⟩] scope p3) X.env)] := by rfl) :
    ME X Cl E (.Call (.Name "len" p4) [.SetComp (.Name x p2) [⟨.Name x p1, iter, [], 0⟩] scope p3] [] pos) (mLenSet n) := by
  have zS := pe_setI (pos := p3) (p2 := p2) (f := sgn) hc hN (z_str (tg := .Name x p1) (pe_sem (X := X) (e := iter))) ok hg hv hs il
  have zL := pe_setI (pos := p3) (p2 := p2) (f := id) hc hN (z_list (tg := .Name x p1) (pe_sem (X := X) (e := iter))) ok hg hv hs il
  refine mt_of fun σ env w Q s hv hp => ?_
  unfold mLenSet at hp
  cases q : mFrz n env w.μ with
  | bad =>
    rw [q] at hp
    exact hp.elim
  | exc c fs μ' =>
    rw [q] at hp
    have k : semE X iter σ w.H fun _ _ => False := mt_use (me_frz he) mono_E s hv (by rw [q]; exact hp)
    exact semE.of (len_set zS hgl hm hst) (Q := Q) (mono_E σ w.H _ _ k fun _ _ z => z.elim) fun _ _ q => q
  | ok y μ1 =>
    rw [q] at hp
    simp only [Res.bind] at hp
    cases y with
    | r p => exact hp.elim
    | d d =>
      simp only at hp
      cases ek : itemK d with
      | none =>
        rw [ek] at hp
        exact hp.elim
      | some ks =>
        rw [ek] at hp
        simp only at hp
        by_cases hl : ks.length < 4000
        · rw [if_pos hl] at hp
          have fin : ∀ (w1 : Wd), w1.μ = μ1 → SR Cl w1 → Ext w w1 → ∀ D H' S, w1.H D = none → SubQ w1.H H' → H' D = some (SetK X.prog X.w D S (dset ks).length) → rLenU X.prog X.w [.ref D] H' Q := by
            intro w1 e1 s1 x1 D H' S hD sub hd
            obtain ⟨s2, x2⟩ := s1.sub (F' := w1.F) sub (fun _ h => h) (fun _ h => .inl h) (fun a ha => by rw [sub a (s1.th a ha)]; exact s1.th a ha)
            exact .inr (.inr (.inr (.inr ⟨D, S, _, rfl, hd, hp _ ⟨w1.F, w1.ρ, H', w1.μ⟩ e1 s2 (x1.trans x2) (Den.int _)⟩)))
          cases d with
          | str z =>
            cases ek
            refine semE.of (len_set zS hgl hm hst) (Q := Q) ?_ fun _ _ q => q
            unfold tCB tCons tSetI zStr
            refine mt_use (me_frz he) mono_E s hv ?_
            rw [q]
            intro v w1 e1 s1 x1 r1
            cases r1
            refine ⟨z, rfl, fun c => .inr ⟨#[c]⟩, rfl, fun _ _ => rfl, by simpa using hl, fun _ _ => trivial, fun D H' S hD sub hd => ?_⟩
            exact fin w1 e1 s1 x1 D H' S hD sub hd
          | lst ds =>
            refine semE.of (len_set zL hgl hm hst) (Q := Q) ?_ fun _ _ q => q
            unfold tCB tCons tSetI zList
            refine mt_use (me_frz he) mono_E s hv ?_
            rw [q]
            intro v w1 e1 s1 x1 r1
            obtain ⟨ad, vs, rfl, ha, hl1⟩ := Den.N r1
            have ev := keysD_den hl1 ek
            subst ev
            refine ⟨ad, ks.map kV, rfl, by rw [ha]; rfl, invK, rfl, fun v hv => ?_, by simpa using hl, fun H' sub => ?_, fun D H' S hD sub hd => ?_⟩
            · obtain ⟨k, hk, rfl⟩ := List.mem_map.mp hv
              rw [invK_kV]
              rfl
            · show lk (H' ad) = _
              rw [sub ad (by rw [ha]; nofun), ha]
              rfl
            · refine fin w1 e1 s1 x1 D H' S hD sub ?_
              rw [hd, List.map_map, show (invK ∘ kV) = id from funext invK_kV, List.map_id]
          | _ => cases ek
        · rw [if_neg hl] at hp
          exact hp.elim
end
end
end Q
end

set_option Elab.async false
set_option linter.all false
set_option maxRecDepth 100000
set_option maxHeartbeats 4000000
/-! Dict comprehensions and displays; walks of lists and tuples alike. -/
noncomputable section
open Classical
namespace Q
variable [Tables]
open PySem PySem.Spec PyProof.Rows L2 G
def dmv (kvs : List (Key × D)) : List (Key × MV) := kvs.map fun kv => (kv.1, .d kv.2)
def putKD (kvs : List (Key × D)) (k : Key) (m : D) : List (Key × D) := if (kvs.any fun kv => decide (kv.1 = k)) = true then kvs.map (fun kv => if kv.1 = k then (kv.1, m) else kv) else kvs ++ [(k, m)]
theorem putM_dmv (kvs : List (Key × D)) (k : Key) (m : D) : putM (dmv kvs) k (.d m) = dmv (putKD kvs k m) := by
  unfold putM putKD dmv
  rw [List.any_map]
  by_cases h : (kvs.any fun kv => decide (kv.1 = k)) = true
  · rw [if_pos h, if_pos (show (kvs.any ((fun kv => decide (kv.1 = k)) ∘ fun kv => (kv.1, MV.d kv.2))) = true from h), List.map_map, List.map_map]
    apply List.map_congr_left
    intro kv _
    show (if kv.1 = k then _ else _) = ((if kv.1 = k then (kv.1, m) else kv).1, MV.d (if kv.1 = k then (kv.1, m) else kv).2)
    split <;> rfl
  · rw [if_neg h, if_neg (show ¬ (kvs.any ((fun kv => decide (kv.1 = k)) ∘ fun kv => (kv.1, MV.d kv.2))) = true from h), List.map_append]
    rfl
section
variable {X : Cx} {Cl : Str → Addr} {E : XK} {D' : Ends} {w w' w1 : Wd} {e a b c kx vx tg iter : Expr} {ma mb mc m : En → MS → Res MV} {pos : Pos} {v u : V} {scope : Scope}
def dcompF (f : Tgt) (c : En → MS → Res Bool) (mk mv : En → MS → Res MV) (env : En) : List D → List (Key × D) → MS → Res (List (Key × D))
  | [], acc, μ => .ok acc μ
  | d :: ds, acc, μ => match f d env with
    | none => .bad
    | some env1 => (c env1 μ).bind fun b μ1 => if b = true then (mFrz mk env1 μ1).bind fun y μ2 => match y with
        | .d y => match keyD y with
          | some k => (mFrz mv env1 μ2).bind fun z μ3 => match z with
            | .d z => dcompF f c mk mv env ds (putKD acc k z) μ3
            | .r _ => .bad
          | none => .bad
        | .r _ => .bad
      else dcompF f c mk mv env ds acc μ1
def mDComp (ni : En → MS → Res (List D)) (f : Tgt) (c : En → MS → Res Bool) (mk mv : En → MS → Res MV) (vs : List Nat) : En → MS → Res MV := fun env μ => (ni env μ).bind fun ds μ1 => if ds.length ≤ 16777216 then
  (dcompF f c mk mv (wipeE env vs) ds [] μ1).bind fun ys μ2 => .ok (.r (.l μ2.L.length)) (μ2.new (.dct (dmv ys))) else .bad
theorem putKD_len (kvs : List (Key × D)) (k : Key) (m : D) : (putKD kvs k m).length ≤ kvs.length + 1 := by
  unfold putKD
  split
  · simp
  · simp
theorem me_dcomp {ifs : List Expr} {own : List (Str × Nat)} {ni : En → MS → Res (List D)} {f : Tgt} {nc : En → MS → Res Bool} {mk mv : En → MS → Res MV} (hc : X.calm = true) (hN : X.N.Nodup) (hi : MI X Cl E tg iter ni) (ok : BlkOk X.N X.env.scope scope own)
    (hg : MGb X scope Cl (own.map (·.2)) tg f) (ht : MT Cl E BoolR Any (bT X scope ifs) nc) (hk : Blks X scope fun B => ME B Cl E kx mk) (he : Blks X scope fun B => ME B Cl E vx mv) (hs : ∀ x, foldedSetIterable iter X.env x = pure x := by intro _; rfl) :
    ME X Cl E (.DictComp kx vx [⟨tg, iter, ifs, 0⟩] scope pos) (mDComp ni f nc mk mv (own.map (·.2))) := by
  obtain ⟨α, wz, h1, h2⟩ := hi.ex
  obtain ⟨g, k1, k2⟩ := hg.ex
  have hmk := mt_frz mono_bE stays_T (mt_b hk)
  have hmv := mt_frz mono_bE stays_T (mt_b he)
  have main : ∀ σ env w (Q : VK), SR Cl w → EnvR Cl w σ env → RPost Cl E (RelM Cl) w (mDComp ni f nc mk mv (own.map (·.2)) env w.μ) Q → semI X tg iter σ w.H fun J H1 => ∀ D, H1 D = none → ∃ W : Nat → Nat → Hp → Prop, (∃ m, W 0 m (upd H1 D (.dK []))) ∧ ∀ i m H, W i m H →
      (J.stop i H ∧ Q (.ref D) H) ∨ (J.go i H ∧ ∃ Nx : Hp → Prop, (∀ H', Nx H' → ∃ m', m' < m ∧ W (i + 1) m' H') ∧ ∀ x H', J.yld i H x H' → g x (wipe σ (own.map (·.2))) H' fun σ2 H2 => wipe σ2 (own.map (·.2)) = wipe σ (own.map (·.2)) ∧ bT X scope ifs σ2 H2 fun b H3 =>
        if b = true then bE X scope kx σ2 H3 fun y H4 => bE X scope vx σ2 H4 fun z H5 => ∃ kvs k, y = kV k ∧ H5 D = some (.dK kvs) ∧ kvs.length < sizeLine ∧ Nx (upd H5 D (.dK (putK kvs k z))) else Nx H3) := by
    intro σ env w Q s hv hp
    refine semI.of pi_sem (h1 σ w.H (fun zs Gd R H1 => ∃ ds w1, w1.H = H1 ∧ SR Cl w1 ∧ Ext w w1 ∧ Walked Cl w1 zs ds Gd R ∧ RPost Cl E (RelM Cl) w1 (if ds.length ≤ 16777216 then (dcompF f nc mk mv (wipeE env (own.map (·.2))) ds [] w1.μ).bind fun ys μ2 => .ok (.r (.l μ2.L.length)) (μ2.new (.dct (dmv ys))) else .bad) Q) (h2 σ env w _ s hv ?_)) ?_
    · unfold mDComp at hp
      cases en : ni env w.μ with
      | bad =>
        rw [en] at hp
        exact hp
      | exc c fs μ' =>
        rw [en] at hp
        exact hp
      | ok ds μ1 =>
        rw [en] at hp
        simp only [Res.bind] at hp ⊢
        intro w1 e1 s1 x1 zs Gd R wk
        exact ⟨ds, w1, rfl, s1, x1, wk, by rw [e1]; exact RPost.ext x1 hp⟩
    · rintro J H1 ⟨zs, Gd, R, W, ds, w1, rfl, s1, x1, wk, hp⟩
      by_cases cl : ds.length ≤ 16777216
      · rw [if_pos cl] at hp
        intro Da hD
        obtain ⟨vs, hvs⟩ : ∃ vs, vs = own.map (·.2) := ⟨_, rfl⟩
        rw [← hvs] at hp k2 ⊢
        let RP : Res (List (Key × D)) → Prop := fun r => match r with
          | .ok ys μ' => ∀ (w2 : Wd) (us : List (Key × V)), w2.μ = μ' → SR Cl w2 → Ext w1 w2 → w2.H Da = some (.dK us) → us.map (·.1) = (dmv ys).map (·.1) → RelL Cl w2 (us.map (·.2)) ((dmv ys).map (·.2)) → ¬ w2.F Da → (∀ p, w2.μ.live p → w2.ρ p ≠ Da) → Q (.ref Da) w2.H
          | .exc c fs μ' => EOk Cl E w1 c fs μ'
          | .bad => False
        have hRP : RP (dcompF f nc mk mv (wipeE env vs) ds [] w1.μ) := by
          cases ec : dcompF f nc mk mv (wipeE env vs) ds [] w1.μ with
          | bad =>
            rw [ec] at hp
            exact hp
          | exc c fs μ' =>
            rw [ec] at hp
            exact hp
          | ok ys μ' =>
            rw [ec] at hp
            intro w2 us e2 s2 x2 hD2 hl1 hl nF aw
            obtain ⟨s3, x3, r3⟩ := SR.adopt s2 x2 hD2 (o := .dct (dmv ys)) (u := .dK us) ⟨hl1, hl⟩ id nF aw hD
            subst e2
            exact hp _ ⟨w2.F, w2.rho Da, w2.H, w2.μ.new (.dct (dmv ys))⟩ rfl s3 x3 r3
        have keepD : ∀ {wa wb : Wd} {us : List (Key × V)}, Ext wa wb → wa.H Da = some (.dK us) → ¬ wa.F Da → (∀ p, wa.μ.live p → wa.ρ p ≠ Da) → wb.H Da = some (.dK us) ∧ ¬ wb.F Da ∧ (∀ p, wb.μ.live p → wb.ρ p ≠ Da) := fun {wa wb us} y a b c => by
          have nn : wa.H Da ≠ none := by rw [a]; nofun
          refine ⟨((y.keep Da nn c).eq b a nofun).trans a, fun h => ?_, y.away nn c⟩
          rcases y.new Da h with h1 | h1 | ⟨p, h1, h2⟩
          · exact b h1
          · exact nn h1
          · exact c p h1 h2
        refine dc_it W.walk (fun i H => ∃ (w2 : Wd) (us : List (Key × V)) (acc : List (Key × D)), w2.H = H ∧ SR Cl w2 ∧ Ext w1 w2 ∧ w2.H Da = some (.dK us) ∧ us.map (·.1) = (dmv acc).map (·.1) ∧ RelL Cl w2 (us.map (·.2)) ((dmv acc).map (·.2)) ∧ acc.length ≤ i ∧ ¬ w2.F Da ∧ (∀ p, w2.μ.live p → w2.ρ p ≠ Da) ∧ RP (dcompF f nc mk mv (wipeE env vs) (ds.drop i) acc w2.μ)) ?_ ?_ ?_ ?_
        · obtain ⟨s2, x2⟩ := s1.sub (F' := w1.F) (SubQ.new (o := .dK []) hD) (fun _ h => h) (fun _ h => .inl h) (fun a h => by
            rw [upd_ne fun e => s1.th a h (by rw [e]; exact hD)]
            exact s1.th a h)
          exact ⟨⟨w1.F, w1.ρ, upd w1.H Da (.dK []), w1.μ⟩, [], [], rfl, s2, x2, upd_same, rfl, .nil, Nat.le_refl _, fun h => s1.th Da h hD, fun p hp e => s1.nn hp (by rw [e]; exact hD), hRP⟩
        · rintro i H _ ⟨w2, us, acc, rfl, s2, x2, _⟩
          exact wk.gd w2 x2 s2
        · rintro i x H H' hilt ⟨w2, us, acc, rfl, s2, x2, hD3, hl1, hl, hle, nF, aw, hrp⟩ ⟨z, hz, hr⟩
          have hlt := (List.getElem?_eq_some_iff.mp hz).1
          have hd : ds[i]? = some (ds[i]'(by rw [← wk.len]; exact hlt)) := by simp
          generalize (ds[i]'(by rw [← wk.len]; exact hlt)) = d at hd
          have hdr : ds.drop i = d :: ds.drop (i + 1) := by
            obtain ⟨h1, h2⟩ := List.getElem?_eq_some_iff.mp hd
            rw [← h2]
            exact List.drop_eq_getElem_cons h1
          rw [hdr, dcompF] at hrp
          obtain ⟨w3, rfl, e3, s3, x3, hx⟩ := wk.y i z d w2 x H' hz hd x2 s2 hr
          have x13 := x2.trans x3
          have he3 := wipeE_env (hv.ext (x1.trans x13) s) vs
          obtain ⟨d1, d2, d3⟩ := keepD x3 hD3 nF aw
          cases ef : f d (wipeE env vs) with
          | none =>
            rw [ef] at hrp
            exact hrp.elim
          | some env1 =>
            rw [ef] at hrp
            simp only at hrp
            refine k2 d _ env1 x (wipe σ vs) w3 _ he3 hx ef fun σ1 he4 l1 n1 => ⟨?_, ?_⟩
            · rw [wipe_eq (vs := vs) (l1.trans rfl) n1]
              exact wipe_eq (by rw [wipe_length]) fun j hj => wipe_out hj
            · refine mt_use ht mono_bT s3 he4 ?_
              rw [e3]
              cases ec : nc env1 w2.μ with
              | bad =>
                rw [ec] at hrp
                exact hrp.elim
              | exc c fs μ' =>
                rw [ec] at hrp
                exact EOk.ext x13 hrp
              | ok b μ3 =>
                rw [ec] at hrp
                simp only [Res.bind] at hrp
                intro b' w4 e4 s4 x4 hb
                obtain rfl : b' = b := hb
                obtain ⟨f1, f2, f3⟩ := keepD x4 d1 d2 d3
                have x14 := x13.trans x4
                have hl4 : RelL Cl w4 (us.map (·.2)) ((dmv acc).map (·.2)) := RelL.ext x4 s3 (RelL.ext x3 s2 hl)
                cases b' with
                | false =>
                  rw [if_neg Bool.false_ne_true] at hrp ⊢
                  exact ⟨w4, us, acc, rfl, s4, x14, f1, hl1, hl4, by omega, f2, f3, by rw [e4]; exact hrp⟩
                | true =>
                  rw [if_pos rfl] at hrp ⊢
                  refine mt_use hmk mono_bE s4 (he4.ext x4 s3) ?_
                  rw [e4]
                  cases em : mFrz mk env1 μ3 with
                  | bad =>
                    rw [em] at hrp
                    exact hrp.elim
                  | exc c fs μ' =>
                    rw [em] at hrp
                    exact EOk.ext x14 hrp
                  | ok y μ4 =>
                    rw [em] at hrp
                    intro vk w5 e5 s5 x5 r5
                    cases y with
                    | r p => exact hrp.elim
                    | d y =>
                      simp only at hrp
                      cases ek : keyD y with
                      | none =>
                        simp only [ek] at hrp
                        exact hrp.elim
                      | some kk =>
                        simp only [ek] at hrp
                        obtain ⟨g1, g2, g3⟩ := keepD x5 f1 f2 f3
                        refine mt_use hmv mono_bE s5 ((he4.ext x4 s3).ext x5 s4) ?_
                        rw [e5]
                        cases ev : mFrz mv env1 μ4 with
                        | bad =>
                          rw [ev] at hrp
                          exact hrp.elim
                        | exc c fs μ' =>
                          rw [ev] at hrp
                          exact EOk.ext (x14.trans x5) hrp
                        | ok zz μ5 =>
                          rw [ev] at hrp
                          intro vv w6 e6 s6 x6 r6
                          cases zz with
                          | r p => exact hrp.elim
                          | d zz =>
                            simp only at hrp
                            obtain ⟨j1, j2, j3⟩ := keepD x6 g1 g2 g3
                            have hl6 : RelL Cl w6 (us.map (·.2)) ((dmv acc).map (·.2)) := RelL.ext x6 s5 (RelL.ext x5 s4 hl4)
                            obtain ⟨p1, p2⟩ := putM_rel (k := kk) (v := vv) (m := .d zz) r6 hl1 hl6
                            rw [putM_dmv] at p1 p2
                            obtain ⟨s7, kf⟩ := s6.upd_free (a := Da) (u := .dK (putK us kk vv)) j2 j3 j1 plain_dK nofun
                            have x7 := ((x14.trans x5).trans x6).upd_new (a := Da) (u := .dK (putK us kk vv)) hD
                            have ul : us.length = acc.length := by
                              have := congrArg List.length hl1
                              simpa [dmv] using this
                            refine ⟨us, kk, key_den (Den.N r5) ek, j1, ?_, ⟨w6.F, w6.ρ, upd w6.H Da (.dK (putK us kk vv)), w6.μ⟩, putK us kk vv, putKD acc kk zz, rfl, s7, x7, upd_same, p1, ?_, ?_, j2, j3, ?_⟩
                            · have h5 := wk.len
                              rw [sizeLine_eq, ul]
                              omega
                            · exact Paired.mapP p2 fun v m h => by
                                cases m with
                                | d x => exact Den.mono h (fun _ h => h) kf
                                | r p => exact h
                            · have := putKD_len acc kk zz
                              omega
                            · show RP (dcompF f nc mk mv (wipeE env vs) (ds.drop (i + 1)) (putKD acc kk zz) w6.μ)
                              rw [e6]
                              exact hrp
        · rintro H ⟨w2, us, acc, rfl, s2, x2, hD3, hl1, hl, _, nF, aw, hrp⟩
          rw [wk.len, List.drop_length] at hrp
          exact hrp w2 us rfl s2 x2 hD3 hl1 hl nF aw
      · rw [if_neg cl] at hp
        exact hp.elim
  exact ME.of (pe_dc hc hN pi_sem ok k1 pts_b pe_b pe_b hs) (mt_of main)
/-! ### a dict with one pair -/
def mDOne (k : Key) (d : D) : En → MS → Res MV := fun env μ => match env with
  | [] => .bad
  | _ :: _ => .ok (.r (.l μ.L.length)) (μ.new (.dct [(k, .d d)]))
theorem me_dOne {k : Key} {v : V} {d : D} {ke ve : Expr} (hk : PE X ke (tC (kV k))) (hv : PE X ve (tC v)) (hd : toV d = some v) : ME X Cl E (.Dict [some ke] [ve] pos) (mDOne k d) := ME.of (pe_disp (pps_cons hk hv pps_nil) rfl rfl (by simp) (by simp)) <| mt_of fun σ env w Q s he hp => by
  cases env with
  | nil => exact hp.elim
  | cons b bs =>
    intro p hp0
    refine ⟨upd_same, [(k, v)], rfl, by simp, ?_⟩
    have e : upd (upd w.H p (.dK [])) p (.dK (mergeK [] [(k, v)])) = upd w.H p (.dK [(k, v)]) := by
      funext a
      by_cases h : a = p
      · rw [h, upd_same, upd_same]
        rfl
      · rw [upd_ne h, upd_ne h, upd_ne h]
    rw [e]
    obtain ⟨s', x', r⟩ := s.alloc (SubQ.new hp0) hp0 upd_same (u := .dK [(k, v)]) (o := .dct [(k, .d d)]) ⟨rfl, .cons (toV_den hd) .nil⟩ id
    exact hp _ _ rfl s' x' r
end
end Q
end

set_option Elab.async false
set_option linter.all false
set_option maxRecDepth 100000
set_option maxHeartbeats 4000000
/-! Walks of what is a list or a tuple; shut defs; a def's own code object. -/
noncomputable section
open Classical
namespace G
open PySem PySem.Spec PyProof.Rows L2
section
variable {X : Cx} {tg l : Expr} {tl : TE}
def iSeqU (K : PySem.W.Frag) (tl : TE) : TI := fun σ H R => tl σ H fun x H1 => (∃ a, x = .ref a ∧ (∃ xs, SqL K H1 a xs) ∧ R (Itl K a) H1) ∨ ∃ a, x = .ref a ∧ (∃ xs, SqT K H1 a xs) ∧ R (Itt K a) H1
theorem pi_seqU (hl : PE X l tl) : PI X tg l (iSeqU X.K tl) := by
  refine ⟨fun pins s σ H R I h => thn (hl.run pins s σ H _ I h) ?_⟩
  intro v s1 hh
  obtain ⟨x, H1, I1, r1, q1⟩ := hh
  have kept : ∀ ob : Obj, Inv X pins σ H1 { s1 with heap := s1.heap.push ob, toks := s1.toks } := fun ob => I1.kept (t' := s1.toks) fun b o e => Heap.get?_push_of_some _ e
  have fp : ∀ b ∈ [s1.heap.objs.size], FpOk X pins H1 b := by
    intro b hb
    obtain rfl : b = s1.heap.objs.size := by simpa using hb
    exact I1.fpOk (Nat.le_refl _) (I1.hok.fresh (Nat.le_refl _))
  rcases q1 with ⟨a, rfl, ⟨xs, hq⟩, q⟩ | ⟨a, rfl, ⟨xs, hq⟩, q⟩
  · cases r1
    obtain ⟨its, rv, p, hz⟩ := I1.list hq
    refine wpAny_pyIter_list p.isList ?_
    exact ⟨s1.heap.objs.size, [s1.heap.objs.size], _, _, H1, rfl, kept _, turn_list a _, ⟨_, Heap.get?_push_size _ rfl, rfl, rfl⟩, fp, q⟩
  · cases r1
    obtain ⟨its, rv, p, hz⟩ := I1.tuple hq
    refine wpAny_pyIter_tuple (show s1.heap.IsTuple a its.toArray from p) ?_
    exact ⟨s1.heap.objs.size, [s1.heap.objs.size], _, _, H1, rfl, kept _, turn_tuple a _, ⟨_, Heap.get?_push_size _ rfl, rfl, rfl⟩, fp, q⟩
def zSeq (te : TE) : TIZ V := fun σ H k => te σ H fun x H1 => ∃ a xs, x = .ref a ∧ ((lk (H1 a) = some (.lst xs) ∧ k xs (fun H => lk (H a) = some (.lst xs)) (RVal id) H1) ∨ (lk (H1 a) = some (.tup xs) ∧ k xs (fun H => lk (H a) = some (.tup xs)) (RVal id) H1))
theorem z_seq {e : Expr} {te : TE} (he : PE X e te) : PIZ X tg e (zSeq te) := fun σ H k h =>
  semI.of (pi_seqU pe_sem) (semE.of he h fun v H1 hh => by
    obtain ⟨a, xs, ea, ⟨ha, q⟩ | ⟨ha, q⟩⟩ := hh
    · exact Or.inl ⟨a, ea, ⟨xs, Or.inl (rd_lk ha)⟩, xs, _, RVal id, ⟨walk_list.mono (fun H hh => Or.inl (rd_lk hh)) fun i H x H' _ _ y => ⟨x, y.2, y.1, rfl⟩⟩, q⟩
    · exact Or.inr ⟨a, ea, ⟨xs, Or.inl (rd_lk ha)⟩, xs, _, RVal id, ⟨walk_tup.mono (fun H hh => Or.inl (rd_lk hh)) fun i H x H' _ _ y => ⟨x, y.2, y.1, rfl⟩⟩, q⟩) fun _ _ q => q
end
end G
namespace Q
variable [Tables]
open PySem PySem.Spec PyProof.Rows L2 G
section
variable {X : Cx} {Cl : Str → Addr} {E : XK} {D' : Ends} {w w' w1 : Wd} {e tg iter : Expr}
def seqI : D → Option (List D)
  | .lst ds => some ds
  | .tup ds => some ds
  | _ => none
theorem mi_seq {n : En → MS → Res MV} (he : ME X Cl E iter n) : MI X Cl E tg iter (items n seqI) := mi_of he (z_seq pe_sem) fun σ H k h => mono_E σ H _ _ h fun x H1 ⟨d, ds, w1, e1, s1, hd, hf, hk⟩ => by
  cases d <;> simp only [seqI, reduceCtorEq, Option.some.injEq] at hf
  · subst hf
    subst e1
    cases hd with
    | lst ha hu hl hg => exact ⟨_, _, rfl, .inl ⟨by rw [hu]; rfl, hk _ _ _ (walked_val s1 (paired_of hl hg) ha hu rfl nofun)⟩⟩
  · subst hf
    subst e1
    cases hd with
    | tup ha hu hl hg => exact ⟨_, _, rfl, .inr ⟨by rw [hu]; rfl, hk _ _ _ (walked_val s1 (paired_of hl hg) ha hu rfl nofun)⟩⟩
/-! ### shut: what a def hands back holds no open objects within -/
def lRefs : List R → List R := fun l => l.filter fun p => match p with
  | .l _ => true
  | .b _ => false
/-- the def's own objects that lie in what it was given, or hands back -/
def inner (m : MV) (μ : MS) : List R := lRefs (μ.B.flatMap moRefs) ++ match m with
  | .r (.l k) => match μ.L[k]? with
    | some o => lRefs (moRefs o)
    | none => []
  | _ => []
def nzA (μ : MS) : MS := ⟨μ.B.map (nz μ), μ.L.map (nz μ)⟩
theorem nzA_get {μ : MS} {p : R} : (nzA μ).get p = (μ.get p).map (nz μ) := by
  cases p with
  | b k => exact List.getElem?_map
  | l k => exact List.getElem?_map
def shut (m : MV) (μ : MS) : Option MS := (frzs (frzD 3) (inner m μ) μ).map nzA
theorem SR.nzA (s : SR Cl w) : SR Cl ⟨w.F, w.ρ, w.H, nzA w.μ⟩ ∧ Ext w ⟨w.F, w.ρ, w.H, nzA w.μ⟩ := by
  have rel : ∀ {v : V} {m : MV}, RelM Cl w v m → RelM Cl ⟨w.F, w.ρ, w.H, Q.nzA w.μ⟩ v m := fun {v m} h => by
    cases m with
    | d x => exact h
    | r p =>
      obtain ⟨h1, o, h2⟩ := h
      exact ⟨h1, nz w.μ o, by show (Q.nzA w.μ).get p = _; rw [nzA_get, h2]; rfl⟩
  have fit : ∀ {u : HO} {o : MO}, Fits Cl w u o → Fits Cl ⟨w.F, w.ρ, w.H, Q.nzA w.μ⟩ u o := fun {u o} h => by
    cases u <;> cases o <;> first
      | exact h.elim
      | exact Paired.mapP h fun _ _ h => rel h
      | exact ⟨h.1, Paired.mapP h.2 fun _ _ h => rel h⟩
      | exact ⟨h.1, h.2.1, Paired.mapP h.2.2 fun _ _ h => rel h⟩
  have back : ∀ {p : R} {o : MO}, (Q.nzA w.μ).get p = some o → ∃ o0, w.μ.get p = some o0 ∧ o = nz w.μ o0 := fun {p o} e => by
    rw [nzA_get] at e
    obtain ⟨o0, h1, h2⟩ := Option.map_eq_some_iff.mp e
    exact ⟨o0, h1, h2.symm⟩
  have lv : ∀ p, (Q.nzA w.μ).live p → w.μ.live p := fun p ⟨o, e, n⟩ => by
    obtain ⟨o0, h1, rfl⟩ := back e
    exact ⟨o0, h1, fun z => n (nz_isF.mpr z)⟩
  refine ⟨⟨s.tb, fun p o e => ?_, fun p q hp hq e => s.inj p q (lv p hp) (lv q hq) e, fun p hp => s.nf p (lv p hp), s.th, s.tO⟩, fun _ h => h, fun a h _ => .inl rfl, fun p o e => ⟨rfl, nz w.μ o, by show (Q.nzA w.μ).get p = _; rw [nzA_get, e]; rfl, fun z => ?_⟩, fun a h => .inl h, (fun p hp h => by
    obtain ⟨o, e, _⟩ := lv p hp
    rw [h] at e
    cases e), fun _ h => h, List.length_map _⟩
  · obtain ⟨o0, h1, rfl⟩ := back e
    rcases s.obj p o0 h1 with ⟨d, rfl, h⟩ | ⟨u, h2, h3⟩
    · exact .inl ⟨d, rfl, h⟩
    · exact .inr ⟨u, h2, fit (Fits.nz s h3)⟩
  · obtain ⟨d, rfl⟩ := isF_ex z
    rfl
def mDefS (N : Nat) (b : Mir) : MF := fun ms B => match b (ms.map some ++ List.replicate (N - ms.length) none) ⟨B, []⟩ with
  | .nx _ μ => match shut (.d .non) μ with
    | some μ' => .ret (.d .non) μ'
    | none => .bad
  | .rt m μ => match shut m μ with
    | some μ' => .ret m μ'
    | none => .bad
  | .exc c fs μ => match shut (.d .non) μ with
    | some μ' => .exc c fs μ'
    | none => .bad
  | _ => .bad
theorem shut_ok {m : MV} {μ' : MS} (s : SR Cl w) (e : shut m w.μ = some μ') : ∃ w' : Wd, w'.H = w.H ∧ w'.μ = μ' ∧ SR Cl w' ∧ Ext w w' := by
  obtain ⟨μ1, e1, rfl⟩ := Option.map_eq_some_iff.mp e
  obtain ⟨w1, a1, a2, a3, a4⟩ := frzs_ok (frzD_ok 3) _ w μ1 s e1
  obtain ⟨b1, b2⟩ := a3.nzA
  exact ⟨⟨w1.F, w1.ρ, w1.H, nzA w1.μ⟩, a1, by rw [← a2], b1, a4.trans b2⟩
end
section
variable {P : Program} {w : World} {K : PySem.W.Frag} {mg : Str → Option Value} {base : Heap} {CX : CXT}
/-- the def's code object -/
def CodeAt (K : PySem.W.Frag) (f : Addr) (cdv : Value) : Prop := (∃ oc od fd osl, K.lookup f = some ⟨oc, od, .func fd, osl⟩ ∧ fd.code = cdv) ∧ ∃ c, cdv = .ref c
theorem fnP_ofC {g : Bool} {x qual : Str} {params : Arguments} {body : List Stmt} {scope : Scope} {dvs : List V} {kws : List (Str × V)} {f : Addr} {fd : FuncData} {N ps : List Str} {k : Nat} {sp : Sp} (F : FunD K x qual params body scope dvs kws f fd) (S : FnScope N ps scope)
    (len : ∀ vs H Q E, sp vs H Q E → vs.length = ps.length)
    (hb : ∀ (cdv : Value) (A : Around) (outer : List Env) (s : Shared) (H : Hp) (vs : List V) (Q : VK) (E : XK), CodeAt K f cdv → (g = true → (A.deeper (envOfC qual scope s.heap.objs.size f cdv)).guards = some []) → Room k (A.deeper (envOfC qual scope s.heap.objs.size f cdv)) → sp vs H Q E →
      ∃ t, PSs (cxOf CX P w K mg base N qual scope f cdv A outer s H E) body t ∧ t { nx := fun _ H' => Q .non H', rt := Q } (L2.start N vs) H) : FnP g P w K mg base CX (k + 1) f fd ps sp := by
  obtain ⟨oc, od, dV, kV, doc, pm, an, cdv, ct, osl, rfl, lk, hcd, _, _⟩ := F.ex
  refine ⟨len, ?_⟩
  intro A outer s H args us vs Q E hg hr e0 hbd r hsp
  have hl := len _ _ _ _ hsp
  have hin : ∀ b o, base.get? b = some o → s.heap.get? b = some o := fun b o e => (e0.bs b o e).1
  have KX : K.In s.heap := e0.mod.kin.keeps hin
  have lim : s.heap.NoLimit := e0.mod.nolimit.keeps hin
  refine codeAny_call_function hr.depth (KX _ _ lk) rfl S.co S.gen rfl (PySem.W.codeRec_of KX hcd) (hbd _ _ _ _ ?_)
  refine wpAny_newFunctionEnv_cells S.kind ?_ ?_
  · rintro ⟨n, v⟩ hy
    rcases S.par n (List.of_mem_zip hy).1 with q | q
    · exact .inl q
    · exact .inr ⟨q, PySem.W.cellsFrom_some _ _ _ (.inl q)⟩
  · intro env he s1 x
    subst he
    refine ⟨lim.keeps x.toInCall.keep, codeAny_func ?_⟩
    obtain ⟨t, ht, hq⟩ := hb cdv A outer s H vs Q E ⟨⟨oc, od, _, osl, lk, rfl⟩, He.codeIn_ref hcd⟩ hg (hr.deeper _) hsp
    have I := inv_start (CX := CX) (E := E) S hr.hd e0 hl r x
    refine wpAny_mono (ht.run [] s1 (L2.start N vs) H _ I hq) ?_ (fun e s' hs => hs)
    intro fl s' hs
    cases fl with
    | brk => obtain ⟨_, _, _, q⟩ := hs; exact q.elim
    | cont => obtain ⟨_, _, _, q⟩ := hs; exact q.elim
    | next =>
      obtain ⟨σ', H', J, q⟩ := hs
      exact ⟨V.non, H', J.os, J.bare, J.base, J.hok, rfl, q⟩
    | ret u =>
      obtain ⟨v, σ', H', J, rv, q⟩ := hs
      exact ⟨v, H', J.os, J.bare, J.base, J.hok, rv, q⟩
theorem fnM {g : Bool} {Cl : Str → Addr} {x qual : Str} {params : Arguments} {body : List Stmt} {scope : Scope} {dvs : List V} {kws : List (Str × V)} {f : Addr} {fd : FuncData} {N ps : List Str} {k : Nat} {n : Mir} (F : FunD K x qual params body scope dvs kws f fd) (S : FnScope N ps scope)
    (hb : ∀ (cdv : Value) (A : Around) (outer : List Env) (s : Shared) (H : Hp) (E : XK), CodeAt K f cdv → (g = true → (A.deeper (envOfC qual scope s.heap.objs.size f cdv)).guards = some []) → Room k (A.deeper (envOfC qual scope s.heap.objs.size f cdv)) →
      MPs (cxOf CX P w K mg base N qual scope f cdv A outer s H E) Cl E body n) : FnP g P w K mg base CX (k + 1) f fd ps (spM Cl ps.length (mDefS N.length n)) := by
  refine fnP_ofC F S (fun vs H Q E h => ?_) fun cdv A outer s H vs Q E hcd hg hr h => ?_
  · obtain ⟨_, _, _, _, _, _, h, _⟩ := h
    exact h
  · obtain ⟨t, h1, h2⟩ := (hb cdv A outer s H E hcd hg hr).ex
    obtain ⟨w0, ms, rfl, hL, sr, r, _, hp⟩ := h
    refine ⟨t, h1, h2 _ _ _ w0 sr (start_env r) ?_⟩
    unfold mDefS at hp
    have eμ : w0.μ = ⟨w0.μ.B, []⟩ := by
      rw [← hL]
    rw [← eμ] at hp
    cases e : n (ms.map some ++ List.replicate (N.length - ms.length) none) w0.μ with
    | nx env μ =>
      rw [e] at hp
      intro σ' w' e1 s' x _
      cases es : shut (.d .non) μ with
      | none =>
        simp only [es] at hp
      | some μ2 =>
        simp only [es] at hp
        rw [← e1] at es
        obtain ⟨w2, a1, a2, a3, a4⟩ := shut_ok s' es
        rw [← a1]
        exact hp .non w2 a2 a3 (x.trans a4) .non
    | rt m μ =>
      rw [e] at hp
      intro v w' e1 s' x rv
      cases es : shut m μ with
      | none =>
        simp only [es] at hp
      | some μ2 =>
        simp only [es] at hp
        rw [← e1] at es
        obtain ⟨w2, a1, a2, a3, a4⟩ := shut_ok s' es
        rw [← a1]
        exact hp v w2 a2 a3 (x.trans a4) (rv.ext a4 s')
    | exc c fs μ =>
      rw [e] at hp
      cases es : shut (.d .non) μ with
      | none =>
        simp only [es] at hp
      | some μ2 =>
        simp only [es] at hp
        intro w' d x s' e1 ex
        rw [← e1] at es
        obtain ⟨w2, a1, a2, a3, a4⟩ := shut_ok s' es
        rw [← a1]
        obtain ⟨vs, h1, _⟩ := id ex
        exact hp w2 d (x.trans a4) a3 a2 (ExcAt.ext a4 s' (s'.noxd h1) ex)
    | bk env μ =>
      rw [e] at hp
      exact hp.elim
    | ct env μ =>
      rw [e] at hp
      exact hp.elim
    | bad =>
      rw [e] at hp
      exact hp.elim
end
end Q
end

set_option Elab.async false
set_option linter.all false
set_option maxRecDepth 100000
set_option maxHeartbeats 4000000
/-! What printed texts lean on: lambdas and raises by facts, the pen, the law's start and end. -/
noncomputable section
open Classical
namespace G
open PySem PySem.Spec PyProof.Rows L2
theorem noGd {X : Cx} : false = true → X.A.guards = some [] := fun z => Bool.noConfusion z
end G
namespace Q
variable [Tables]
open PySem PySem.Spec PyProof.Rows L2 G
/-- the classes' addresses -/
abbrev Cl (K : PySem.W.Frag) : Str → Addr := fun c => He.ga K c
section
variable {X : Cx} {E : XK}
theorem passX (hs : X.stack = X.env :: X.outer := by rfl) (hf : X.env.frame = some X.env.locals := by rfl) (hex : X.ex = [] := by rfl) {E₁ : Value → Shared → Prop}
    (hx : X.xe = fun e s' => wpAny (model X.prog X.w) X.A (leaving X.env e) (fun _ s'' => L2.CX X.prog X.w X.outer X.H_0 X.s_0 E e s'') E₁ s' := by rfl) : Passes (L2.CX X.prog X.w) X E := passes_call (takes_of hs hf hex hx) fun _ _ _ _ h => h
theorem passZ : Passes (L2.CX X.prog X.w) X Q.E0 := L2.passL
end
section
variable {X : Cx} {Cl : Str → Addr} {E : XK} {e : Expr} {m : En → MS → Res MV}
theorem mp_raiseK {CX : CXT} {c f x : Str} {fI : Addr} {k : Nat} {fd : FuncData} {ps : List Str} {p pos pos' : Pos} (hc : X.calm = true) (tk : Takes X fun cls d _ H => E cls d H) (R : RaiseC X.K (Cl c) f fI)
    (F1 : FnOk X.prog X.w X.K X.mg X.base CX k fI fd ps (spInit X.K (Cl c) f)) (hr : Room (k + 1) X.A) (hb : Binds X.K fd ps []) (hx : Passes CX X fun _ _ _ => False)
    (hg : Gl X x) (hm : X.mg x = some (.ref (Cl c))) (he : ME X Cl E e m) (hdb : (x == ("__debug__" : Str)) = false := by decide) (hst : starEach [e] X.env = (false, eval e X.env) :: starEach [] X.env := by rfl) (hpl : (backTo pos (starEach [] X.env)).any (·.1) = false := by rfl) :
    MP X Cl E (.Raise (some (.Call (.Name x p) [e] [] pos)) none pos') (sRaise c f m) := mp_raise hc tk R.T R.hno R.iC R.tI F1 hr hb hx hg hm he hdb hst hpl
theorem codeAd_eq {K : PySem.W.Frag} {f : Addr} {cdv : Value} (h : CodeAt K f cdv) : cdv = .ref (codeAd K f) := by
  obtain ⟨⟨oc, od, fd, osl, lk, rfl⟩, hr⟩ := h
  obtain ⟨c, e⟩ := hr
  unfold codeAd
  rw [lk]
  show fd.code = .ref (match fd.code with | .ref c => c | _ => 0)
  rw [e]
/-- x(lambda: body), x a def of the text -/
theorem me_lamD {TG : Res MV → Res MV} {mb : En → MS → Res MV} {x a : Str} {g c P : Addr} {k : Nat} {pg : Arguments} {bg : List Stmt} {sg : Scope} {fdg : FuncData} {Ng : List Str}
    {params : Arguments} {body : Expr} {scope : Scope} {p lpos pos : Pos} {q : Str} (eq : q = X.env.qual ++ "<lambda>") (hg : Gl X x) (hm : X.mg x = some (.ref g)) (Fg : FunD X.K x x pg bg sg [] [] g fdg) (hb : L2.Binds X.K fdg [a] []) (Sg : FnScope Ng [a] sg) (hNg : Ng[0]? = some a) (hva : Vis sg a)
    (hG : ∀ cdv, LamX.GivesTo X Ng x sg g cdv bg a q (TTm Cl TG)) (TB : LamX.TabB X.base X.mg c P) (hcode : X.env.code = .ref c) (hmT : (P, q) ∈ Tables.T) (hu : ∀ p ∈ Tables.T, p.1 = P → p.2 = q) (hr : Room (k + 2) X.A) (L : LamX.LamS X.env.scope scope) (hdef : defaultsOf params X.env = ([], []))
    (hbind : ∀ (q : Str) (cl : List (Str × Addr)) (pm cv ctv : Value), bindArgs (PySem.W.kla_fn "<lambda>" q params body scope cl pm cv ctv) ⟨[], []⟩ = pure [])
    (hbody : ∀ (A : Around) (outer : List Env) (s : Shared) (H : Hp) (E : XK) (f c' : Addr), Room k (A.deeper (LamX.lamEnv X scope s.heap.objs.size f c')) → ME (LamX.lamCx X A outer s H E scope f c') Cl E body mb)
    (hdb : (x == ("__debug__" : Str)) = false := by decide) (hd : (a == ("__debug__" : Str)) = false := by decide) (hcd : (a == ("__classdict__" : Str)) = false := by decide) :
    ME X Cl E (.Call (.Name x p) [.Lambda params body scope lpos] [] pos) (mLam TG mb) := by
  obtain ⟨oc, od, dV, kV, doc, pm, an, cdv, ct, osl, rfl, lk, hcg, _, _⟩ := Fg.ex
  exact me_lam eq hg hm Fg.kp lk hcg hb Sg hNg hva (hG cdv) TB hcode hmT hu hr L hdef hbind hbody hdb hd hcd
end
/-! ### the pen -/
def penV (c : Addr) (u l : Int) : List (Key × V) := [(.inr "cells", .ref c), (.inr "used", .int u), (.inr "left", .int l)]
/-- a pen's content -/
def penO (cs : List Int) (u l : Int) : MO := .dct [(.inr "cells", .d (.lst (cs.map D.int))), (.inr "used", .d (.int u)), (.inr "left", .d (.int l))]
theorem penO_nF {cs : List Int} {u l : Int} : ¬ (penO cs u l).isF := id
theorem sql_subQ {K : PySem.W.Frag} {H H' : Hp} {a : Addr} {xs : List V} (s : SubQ H H') (h : SqL K H a xs) : SqL K H' a xs := by
  rcases h with (h | ⟨o, h⟩) | h
  · exact .inl (.inl (s.get h))
  · exact .inl (.inr ⟨o, s.get h⟩)
  · exact .inr h
theorem cut_to {xs : List V} {n : Nat} : cutV xs none (some n) = xs.take n := by
  unfold cutV
  rw [HT.sIx_none, HT.sIx_nat, List.drop_zero, Nat.sub_zero, List.take_eq_take_min (i := n)]
/-- _law_pen(script) -/
def spPen (K : PySem.W.Frag) : Sp := fun vs H Q _ => ∃ (a : Addr) (ns : List Int), vs = [.ref a] ∧ SqL K H a (ns.map V.int) ∧ ∀ d c H', H d = none → d ≠ c → SubQ H H' → H' d = some (.dK (penV c 0 0)) → H' c = some (.lst ((ns.take 63).map V.int)) → Q (.ref d) H'
section
variable {K : PySem.W.Frag} {Cl : Str → Addr}
theorem pen_sr {H H' : Hp} {d c : Addr} {cs : List Int} (hT : ∀ p ∈ Tables.T, H p.1 = some (.tbl #[])) (hO : ∀ a ps, H a = some (.tbl ps) → ∃ q, (a, q) ∈ Tables.T) (sub : SubQ H H') (hd : H' d = some (.dK (penV c 0 0))) (hc : H' c = some (.lst (cs.map V.int))) (ne : d ≠ c) :
    SR Cl ⟨fun a => a = c, fun _ => d, H', ⟨[], [penO cs 0 0]⟩⟩ := by
  have dl : Den Cl (fun a => a = c) H' (.ref c) (.lst (cs.map D.int)) := .lst rfl hc (by simp) (paired_get (DenL.map (fun i => Den.int i) cs))
  have one : ∀ p o, (MS.mk [] [penO cs 0 0]).get p = some o → p = .l 0 ∧ o = penO cs 0 0 := by
    intro p o e
    cases p with
    | b k => cases (show ([] : List MO)[k]? = some o from e)
    | l k =>
      cases k with
      | zero => exact ⟨rfl, (Option.some.inj e).symm⟩
      | succ k => cases (show ([] : List MO)[k]? = some o from e)
  refine ⟨fun p hp => (LamX.TabS.nil (hT p hp)).ext fun b o h => sub.get h, fun p o e => ?_, fun p q hp hq _ => ?_, fun p hp f => ne f, fun a ha => ?_, fun a ps e => hO a ps (sub.t a ps e)⟩
  · obtain ⟨rfl, rfl⟩ := one p o e
    exact .inr ⟨_, hd, rfl, .cons dl (.cons (Den.int _) (.cons (Den.int _) .nil))⟩
  · obtain ⟨o, e, _⟩ := hp
    obtain ⟨o2, e2, _⟩ := hq
    rw [(one p o e).1, (one q o2 e2).1]
  · obtain rfl : a = c := ha
    show H' a ≠ none
    rw [hc]
    nofun
end
section
variable {P : Program} {w : World} {K : PySem.W.Frag} {mg : Str → Option Value} {base : Heap} {CX : CXT}
/-- the law's start: pen = _law_pen(script), then the rest -/
theorem fnG_law {Cl : Str → Addr} {x qual : Str} {params : Arguments} {st0 : Stmt} {rest : List Stmt} {scope : Scope} {kws : List (Str × V)} {f : Addr} {fd : FuncData} {N : List Str} {p0 : Str} {k i : Nat} {n : Mir} {cs : List (Addr × Addr)}
    (F : FunD K x qual params (st0 :: rest) scope [] kws f fd) (S : FnScope N [p0] scope) (hi : i < N.length) (h0 : i ≠ 0)
    (h1 : ∀ (cdv : Value) (A : Around) (outer : List Env) (s : Shared) (H : Hp) (E : XK), Room k (A.deeper (envOfC qual scope s.heap.objs.size f cdv)) → ∃ t0, PS (cxOf CX P w K mg base N qual scope f cdv A outer s H E) st0 t0 ∧
      ∀ D' σ H, t0 D' σ H ↔ tAsg (tCall (spPen K) [] Q.E0 (tCons (tVar 0) tNil)) (gName i) D' σ H)
    (hb : ∀ (cdv : Value) (A : Around) (outer : List Env) (s : Shared) (H : Hp) (E : XK), CodeAt K f cdv → (true = true → (A.deeper (envOfC qual scope s.heap.objs.size f cdv)).guards = some []) → Room k (A.deeper (envOfC qual scope s.heap.objs.size f cdv)) →
      MPs (cxOf CX P w K mg base N qual scope f cdv A outer s H E) Cl Q.E0 rest n)
    (hT : ∀ p ∈ Tables.T, p.1 ∈ cs.map (·.2)) (hO : ∀ p ∈ cs, ∃ q, (p.2, q) ∈ Tables.T)
    (plain : ∀ zs : List Int, zs.length ≤ 63 → ∃ μ, n ((List.replicate N.length none).set i (some (.r (.l 0)))) ⟨[], [penO zs 0 0]⟩ = .rt (.d (.bl true)) μ) :
    FnG P w K mg base CX (k + 1) f fd [p0] fun vs H Q _ => ∃ (a : Addr) (ns : List Int), vs = [.ref a] ∧ SqL K H a (ns.map V.int) ∧ (∀ p ∈ cs, H p.2 = some (.tbl #[])) ∧ OnlyT cs H ∧ ∀ H', Q (.bl true) H' := by
  refine FnP.toG (g := true) (fnP_ofC F S (fun vs H Q E h => ?_) fun cdv A outer s H vs Q E hcd hg hr h => ?_)
  · obtain ⟨a, ns, rfl, _⟩ := h
    rfl
  · obtain ⟨a, ns, rfl, ha, hTab, hOn, hq⟩ := h
    obtain ⟨t0, k1, k2⟩ := h1 cdv A outer s H E hr
    obtain ⟨t, k3, k4⟩ := (hb cdv A outer s H E hcd hg hr).ex
    refine ⟨_, pss_cons k1 k3, (k2 _ _ _).mpr ?_⟩
    obtain ⟨N0, eN⟩ : ∃ N0, N = p0 :: N0 := by
      have := S.pre
      cases N with
      | nil => simp at this
      | cons b N0 => simp at this; exact ⟨N0, by rw [this]⟩
    have st0' : (L2.start N [V.ref a])[0]? = some (some (V.ref a)) := by
      rw [eN]
      rfl
    refine ⟨.ref a, st0', a, ns, rfl, ha, fun d c H' hdn ne sub hd hc => ?_⟩
    have hTT : ∀ p ∈ Tables.T, H p.1 = some (.tbl #[]) := by
      intro p hp
      obtain ⟨q, hq, e⟩ := List.mem_map.mp (hT p hp)
      rw [← e]
      exact hTab q hq
    have hOO : ∀ a ps, H a = some (.tbl ps) → ∃ q, (a, q) ∈ Tables.T := by
      intro b ps e
      rcases hOn b with z | z | ⟨o, xs, z⟩
      · rw [z] at e
        cases e
      · obtain ⟨p, hp, rfl⟩ := List.mem_map.mp z
        exact hO p hp
      · rw [z] at e
        cases e
    have s0 := pen_sr (Cl := Cl) hTT hOO sub hd hc ne
    obtain ⟨μ, hμ⟩ := plain (ns.take 63) (by rw [List.length_take]; omega)
    refine k4 _ _ ((List.replicate N.length none).set i (some (.r (.l 0)))) ⟨fun a => a = c, fun _ => d, H', ⟨[], [penO (ns.take 63) 0 0]⟩⟩ s0 ⟨?_, fun j m e => ?_⟩ ?_
    · have := S.pre
      rw [List.length_set, List.length_replicate, List.length_set, eN]
      unfold L2.start
      simp
    · by_cases c : i = j
      · subst c
        rw [List.getElem?_set_self (by rw [List.length_replicate]; exact hi)] at e
        cases e
        refine ⟨.ref d, List.getElem?_set_self ?_, rfl, _, rfl⟩
        unfold L2.start
        rw [eN] at hi ⊢
        simpa using hi
      · rw [List.getElem?_set_ne c, List.getElem?_replicate] at e
        split at e <;> cases e
    · rw [hμ]
      intro v w' _ _ _ rv
      cases rv
      exact hq w'.H
end
end Q
end

set_option Elab.async false
set_option linter.all false
set_option maxRecDepth 100000
set_option maxHeartbeats 4000000
/-! Working out what mirrors give. -/
noncomputable section
open Classical
namespace Q
open PySem PySem.Spec PyProof.Rows L2 G
def ch (c : Nat) : D := .str ⟨#[c]⟩
def txs (l : List Nat) : Str := ⟨l.toArray⟩
theorem txs_list (l : List Nat) : (txs l).cps.toList = l := by simp [txs]
theorem txs_len (l : List Nat) : (txs l).length = l.length := by simp [txs, Str.length]
theorem allD_map (xs : List D) : allD (xs.map MV.d) = some xs := by
  induction xs with
  | nil => rfl
  | cons x xs ih => rw [List.map_cons, allD, ih]; rfl
theorem fz_map (μ : MS) (xs : List D) : (xs.map MV.d).map (fzm μ) = xs.map MV.d := by
  rw [List.map_map]
  rfl
theorem nz_lst (μ : MS) (xs : List D) : nz μ (.lst (xs.map MV.d)) = .lst (xs.map MV.d) := by rw [nz, fz_map]
theorem nz_dmv (μ : MS) (kvs : List (Key × D)) : nz μ (.dct (dmv kvs)) = .dct (dmv kvs) := by
  rw [nz]
  unfold dmv
  rw [List.map_map]
  rfl
theorem flat_lst (xs : List D) : flat (.lst (xs.map MV.d)) = some (.lst xs) := by rw [flat, allD_map]; rfl
theorem zip_self {α β : Type} (l : List (α × β)) : (l.map (·.1)).zip (l.map (·.2)) = l := by
  induction l with
  | nil => rfl
  | cons a l ih => rw [List.map_cons, List.map_cons, List.zip_cons_cons, ih]
theorem flat_dmv (kvs : List (Key × D)) : flat (.dct (dmv kvs)) = some (.dct kvs) := by
  have e1 : (dmv kvs).map (·.2) = (kvs.map (·.2)).map MV.d := by unfold dmv; rw [List.map_map, List.map_map]; rfl
  have e2 : (dmv kvs).map (·.1) = kvs.map (·.1) := by unfold dmv; rw [List.map_map]; rfl
  rw [flat, e1, e2, allD_map]
  show some (D.dct ((kvs.map (·.1)).zip (kvs.map (·.2)))) = _
  rw [zip_self]
theorem refs_map (xs : List D) : moRefs (.lst (xs.map MV.d)) = [] := by
  rw [moRefs, List.filterMap_map]
  exact List.filterMap_eq_nil_iff.mpr fun a _ => rfl
theorem refs_dmv (kvs : List (Key × D)) : moRefs (.dct (dmv kvs)) = [] := by
  rw [moRefs]
  unfold dmv
  rw [List.filterMap_map]
  exact List.filterMap_eq_nil_iff.mpr fun a _ => rfl
theorem frzD_of {μ : MS} {p : R} {o : MO} {d : D} (h : μ.get p = some o) (hr : moRefs o = []) (hf : flat (nz μ o) = some d) (n : Nat) : frzD n p μ = some (d, μ.set (.frz d) p) := by
  cases n with
  | zero => rw [frzD, frz1, h]; simp [hf]
  | succ n => rw [frzD, h]; simp [hr, frzs, frz1, h, hf]
theorem frzD_lst {μ : MS} {p : R} {xs : List D} (h : μ.get p = some (.lst (xs.map MV.d))) (n : Nat) : frzD n p μ = some (.lst xs, μ.set (.frz (.lst xs)) p) := frzD_of h (refs_map xs) (by rw [nz_lst, flat_lst]) n
theorem frzD_dct {μ : MS} {p : R} {xs : List (Key × D)} (h : μ.get p = some (.dct (dmv xs))) (n : Nat) : frzD n p μ = some (.dct xs, μ.set (.frz (.dct xs)) p) := frzD_of h (refs_dmv xs) (by rw [nz_dmv, flat_dmv]) n
theorem frzD_frz {μ : MS} {p : R} {d : D} (h : μ.get p = some (.frz d)) (n : Nat) : frzD n p μ = some (d, μ.set (.frz d) p) := frzD_of h rfl rfl n
theorem vw_lst {μ : MS} {p : R} {xs : List D} (h : μ.get p = some (.lst (xs.map MV.d))) : vw μ (.r p) = some (.lst xs) := by rw [vw, h, Option.bind_some, nz_lst, flat_lst]
theorem vw_dct {μ : MS} {p : R} {xs : List (Key × D)} (h : μ.get p = some (.dct (dmv xs))) : vw μ (.r p) = some (.dct xs) := by rw [vw, h, Option.bind_some, nz_dmv, flat_dmv]
theorem mFrz_d {n : En → MS → Res MV} {env : En} {μ μ1 : MS} {d : D} (h : n env μ = .ok (.d d) μ1) : mFrz n env μ = .ok (.d d) μ1 := by simp [mFrz, h, Res.bind]
theorem mFrz_r {n : En → MS → Res MV} {env : En} {μ μ1 μ2 : MS} {p : R} {d : D} (h : n env μ = .ok (.r p) μ1) (h2 : frzD 4 p μ1 = some (d, μ2)) : mFrz n env μ = .ok (.d d) μ2 := by simp [mFrz, h, Res.bind, h2]
/-! ### calls -/
theorem refs_d (xs : List D) : refsOf (xs.map MV.d) = [] := by
  induction xs with
  | nil => rfl
  | cons x xs ih => exact ih
theorem renum_d (n : Nat) (xs : List D) : renum n (xs.map MV.d) = xs.map MV.d := by
  induction xs with
  | nil => rfl
  | cons x xs ih => rw [List.map_cons, renum, ih]
theorem call_d {f : MF} {xs : List D} {μ : MS} {y : D} {L : List MO} (h : f (xs.map MV.d) [] = .ret (.d y) ⟨[], L⟩) : callR f (xs.map MV.d) μ = .ok (.d y) μ := by
  unfold callR callR0
  rw [fz_map, refs_d, renum_d, if_pos List.nodup_nil]
  simp [conts, h, setAll]
theorem call_n {f : MF} {xs : List D} {μ : MS} {k : Nat} {o : MO} {L : List MO} (h : f (xs.map MV.d) [] = .ret (.r (.l k)) ⟨[], L⟩) (ho : L[k]? = some o) (hc : closed o = true) : callR f (xs.map MV.d) μ = .ok (.r (.l μ.L.length)) (μ.new o) := by
  unfold callR callR0
  rw [fz_map, refs_d, renum_d, if_pos List.nodup_nil]
  simp [conts, h, setAll, ho, hc]
theorem call_x {f : MF} {xs : List D} {μ μ' : MS} {c : Str} {fs : List (Str × D)} (h : f (xs.map MV.d) [] = .exc c fs ⟨[], μ'.L⟩) : callR f (xs.map MV.d) μ = .exc c fs μ := by
  unfold callR callR0
  rw [fz_map, refs_d, renum_d, if_pos List.nodup_nil]
  simp [conts, h, setAll]
/-- an object that passes whole -/
structure Op (μ : MS) (p : R) (o : MO) : Prop where
  get : μ.get p = some o
  cl : closed o = true
  nz : nz μ o = o
theorem Op.fz {μ : MS} {p : R} {o : MO} (h : Op μ p o) : fzm μ (.r p) = .r p := by
  rw [fzm, h.get]
  have := h.cl
  cases o with
  | frz d => cases this
  | _ => rfl
theorem call1_d {f : MF} {xs : List D} {μ : MS} {p : R} {o o' : MO} {y : D} {L : List MO} (hp : Op μ p o) (h : f (.r (.b 0) :: xs.map MV.d) [o] = .ret (.d y) ⟨[o'], L⟩) (hc : closedD o' = true) : callR f (.r p :: xs.map MV.d) μ = .ok (.d y) (μ.set o' p) := by
  unfold callR callR0
  rw [List.map_cons, hp.fz, fz_map]
  simp [refsOf, refs_d, renum, renum_d, conts, hp.get, hp.nz, hp.cl, h, hc, setAll]
theorem call1_n {f : MF} {xs : List D} {μ : MS} {p : R} {o o' o2 : MO} {k : Nat} {L : List MO} (hp : Op μ p o) (h : f (.r (.b 0) :: xs.map MV.d) [o] = .ret (.r (.l k)) ⟨[o'], L⟩) (hc : closedD o' = true) (ho : L[k]? = some o2) (hc2 : closed o2 = true) : callR f (.r p :: xs.map MV.d) μ = .ok (.r (.l μ.L.length)) ((μ.set o' p).new o2) := by
  unfold callR callR0
  rw [List.map_cons, hp.fz, fz_map]
  simp [refsOf, refs_d, renum, renum_d, conts, hp.get, hp.nz, hp.cl, h, hc, setAll, ho, hc2]
theorem call2_d {f : MF} {xs : List D} {μ : MS} {p q : R} {o o' u u' : MO} {y : D} {L : List MO} (hp : Op μ p o) (hq : Op μ q u) (ne : p ≠ q) (h : f (.r (.b 0) :: .r (.b 1) :: xs.map MV.d) [o, u] = .ret (.d y) ⟨[o', u'], L⟩) (hc : closedD o' = true) (hc2 : closedD u' = true) :
    callR f (.r p :: .r q :: xs.map MV.d) μ = .ok (.d y) ((μ.set o' p).set u' q) := by
  unfold callR callR0
  rw [List.map_cons, List.map_cons, hp.fz, hq.fz, fz_map]
  simp [refsOf, refs_d, renum, renum_d, conts, hp.get, hp.nz, hp.cl, hq.get, hq.nz, hq.cl, h, hc, hc2, setAll, ne]
theorem mCall_of {n : Nat} {f : MF} {ns : En → MS → Res (List MV)} {env : En} {μ μ1 : MS} {ms : List MV} {r : Res MV} (h : ns env μ = .ok ms μ1) (hl : ms.length = n) (hc : callR f ms μ1 = r) : mCall n f ns env μ = r := by
  unfold mCall
  rw [h]
  show (if ms.length = n then callR f ms μ1 else .bad) = r
  rw [if_pos hl]
  exact hc
theorem mMeth_of {c m : Str} {n : Nat} {f : MF} {mo : En → MS → Res MV} {ns : En → MS → Res (List MV)} {env : En} {μ μ1 μ2 : MS} {x : MV} {fs : List (Str × MV)} {ms : List MV} {r : Res MV} (ho : mo env μ = .ok x μ1) (hi : insM μ1 c x = some fs) (hm : fs.lookup m = none) (h : ns env μ1 = .ok ms μ2) (hl : ms.length + 1 = n) (hc : callR f (x :: ms) μ2 = r) : mMeth c m n f mo ns env μ = r := by
  unfold mMeth
  rw [ho]
  simp only [Res.bind, hi, hm, h, hl, if_true]
  exact hc
theorem mMake_of {c : Str} {n : Nat} {f : MF} {ns : En → MS → Res (List MV)} {env : En} {μ μ1 μ2 : MS} {ms : List MV} (h : ns env μ = .ok ms μ1) (hl : ms.length + 1 = n) (hc : callR f (.r (.l μ1.L.length) :: ms) (μ1.new (.ins c [])) = .ok (.d .non) μ2) : mMake c n f ns env μ = .ok (.r (.l μ1.L.length)) μ2 := by
  unfold mMake
  rw [h]
  simp only [Res.bind, hl, if_true, hc]
theorem mLM_of {f : LM} {mo : En → MS → Res MV} {ns : En → MS → Res (List MV)} {env : En} {μ μ1 μ2 : MS} {p : R} {xs0 xs xs' as : List MV} {y : MV} (ho : mo env μ = .ok (.r p) μ1) (g1 : μ1.get p = some (.lst xs0)) (ha : ns env μ1 = .ok as μ2) (g2 : μ2.get p = some (.lst xs)) (hf : f μ2 xs as = some (y, xs')) : mLM f mo ns env μ = .ok y (μ2.set (.lst xs') p) := by
  unfold mLM
  rw [ho]
  simp only [Res.bind, g1, ha, g2, hf]
theorem mLM0_of {f : LM} {mo : En → MS → Res MV} {env : En} {μ μ1 : MS} {p : R} {xs xs' : List MV} {y : MV} (ho : mo env μ = .ok (.r p) μ1) (g1 : μ1.get p = some (.lst xs)) (hf : f μ1 xs [] = some (y, xs')) : mLM0 f mo env μ = .ok y (μ1.set (.lst xs') p) := by
  unfold mLM0
  rw [ho]
  simp only [Res.bind, g1, hf]
theorem mCons_of {n : En → MS → Res MV} {ns : En → MS → Res (List MV)} {env : En} {μ μ1 μ2 : MS} {x : MV} {xs : List MV} (h : n env μ = .ok x μ1) (hs : ns env μ1 = .ok xs μ2) : mCons n ns env μ = .ok (x :: xs) μ2 := by
  unfold mCons
  rw [h]
  simp only [Res.bind, hs]
theorem sDrop_of {m : En → MS → Res MV} {env : En} {μ μ1 : MS} {x : MV} (h : m env μ = .ok x μ1) : sDrop m env μ = .nx env μ1 := by
  unfold sDrop
  rw [h]
  rfl
theorem sSet_of {i : Nat} {m : En → MS → Res MV} {env : En} {μ μ1 : MS} {x : MV} (h : m env μ = .ok x μ1) : sSet i m env μ = .nx (env.set i (some x)) μ1 := by
  unfold sSet
  rw [h]
  rfl
theorem sRet_of {m : En → MS → Res MV} {env : En} {μ μ1 : MS} {x : MV} (h : m env μ = .ok x μ1) : sRet m env μ = .rt x μ1 := by
  unfold sRet
  rw [h]
  rfl
theorem sPar_of {i j : Nat} {ns : En → MS → Res (List MV)} {env : En} {μ μ1 : MS} {a b : MV} (h : ns env μ = .ok [a, b] μ1) : sPar i j ns env μ = .nx ((env.set i (some a)).set j (some b)) μ1 := by
  unfold sPar
  rw [h]
  rfl
theorem sIf_t {c : En → MS → Res Bool} {a b : Mir} {env : En} {μ μ1 : MS} (h : c env μ = .ok true μ1) : sIf c a b env μ = a env μ1 := by
  unfold sIf
  rw [h]
  rfl
theorem sIf_f {c : En → MS → Res Bool} {a b : Mir} {env : En} {μ μ1 : MS} (h : c env μ = .ok false μ1) : sIf c a b env μ = b env μ1 := by
  unfold sIf
  rw [h]
  rfl
theorem mVar_of {i : Nat} {env : En} {μ : MS} {m : MV} (h : env[i]? = some (some m)) : mVar i env μ = .ok m μ := by
  unfold mVar
  rw [h]
theorem mNot_of {c : En → MS → Res Bool} {env : En} {μ μ1 : MS} {b : Bool} (h : c env μ = .ok b μ1) : mNot c env μ = .ok (!b) μ1 := by
  unfold mNot
  rw [h]
  rfl
theorem asB_of {m : En → MS → Res MV} {env : En} {μ μ1 : MS} {b : Bool} (h : m env μ = .ok (.d (.bl b)) μ1) : asB m env μ = .ok b μ1 := by
  unfold asB
  rw [h]
  rfl
theorem mOp_of {f : D → D → Option Out} {a b : En → MS → Res MV} {env : En} {μ μ1 μ2 : MS} {x y : MV} {d d' e : D} (ha : a env μ = .ok x μ1) (hb : b env μ1 = .ok y μ2) (hx : vw μ2 x = some d) (hy : vw μ2 y = some d') (hf : f d d' = some (.v e)) : mOp f a b env μ = .ok (.d e) μ2 := by
  unfold mOp
  rw [ha]
  simp only [Res.bind, hb, hx, hy, Option.bind_some, hf, mOut]
theorem mOp_n {f : D → D → Option Out} {a b : En → MS → Res MV} {env : En} {μ μ1 μ2 : MS} {x y : MV} {d d' : D} {o : MO} (ha : a env μ = .ok x μ1) (hb : b env μ1 = .ok y μ2) (hx : vw μ2 x = some d) (hy : vw μ2 y = some d') (hf : f d d' = some (.n o)) : mOp f a b env μ = .ok (.r (.l μ2.L.length)) (μ2.new o) := by
  unfold mOp
  rw [ha]
  simp only [Res.bind, hb, hx, hy, Option.bind_some, hf, mOut]
theorem mCB_of {f : List D → Option Out} {ns : En → MS → Res (List MV)} {env : En} {μ μ1 : MS} {xs : List MV} {ds : List D} {e : D} (hs : ns env μ = .ok xs μ1) (hv : vws μ1 xs = some ds) (hf : f ds = some (.v e)) : mCB f ns env μ = .ok (.d e) μ1 := by
  unfold mCB
  rw [hs]
  simp only [Res.bind, hv, Option.bind_some, hf, mOut]
theorem mCB_n {f : List D → Option Out} {ns : En → MS → Res (List MV)} {env : En} {μ μ1 : MS} {xs : List MV} {ds : List D} {o : MO} (hs : ns env μ = .ok xs μ1) (hv : vws μ1 xs = some ds) (hf : f ds = some (.n o)) : mCB f ns env μ = .ok (.r (.l μ1.L.length)) (μ1.new o) := by
  unfold mCB
  rw [hs]
  simp only [Res.bind, hv, Option.bind_some, hf, mOut]
theorem mSM_of {f : D → List D → Option Out} {mo m : En → MS → Res MV} {env : En} {μ μ1 μ2 : MS} {a : Str} {y : MV} {d e : D} (ho : mo env μ = .ok (.d (.str a)) μ1) (hm : m env μ1 = .ok y μ2) (hv : vw μ2 y = some d) (hf : f (.str a) [d] = some (.v e)) : mSM f mo m env μ = .ok (.d e) μ2 := by
  unfold mSM
  rw [ho]
  simp only [Res.bind, hm, hv, Option.bind_some, hf, mOut]
theorem mFld_of {c f : Str} {m : En → MS → Res MV} {env : En} {μ μ1 : MS} {x y : MV} {fs : List (Str × MV)} (hm : m env μ = .ok x μ1) (hi : insM μ1 c x = some fs) (hf : fs.lookup f = some y) : mFld c f m env μ = .ok y μ1 := by
  unfold mFld
  rw [hm]
  simp only [Res.bind, hi, Option.bind_some, hf]
/-! ### loops -/
theorem compF_eq {f : Tgt} {c : En → MS → Res Bool} {m : En → MS → Res MV} {env : En} {μ : MS} (b : D → Bool) (y : D → D) : ∀ (ds acc : List D), (∀ d ∈ ds, ∃ env1, f d env = some env1 ∧ c env1 μ = .ok (b d) μ ∧ (b d = true → mFrz m env1 μ = .ok (.d (y d)) μ)) →
    compF f c m env ds acc μ = .ok (acc ++ (ds.filter b).map y) μ
  | [], acc, _ => by simp [compF]
  | d :: ds, acc, h => by
    obtain ⟨env1, h1, h2, h3⟩ := h d List.mem_cons_self
    rw [compF, h1]
    simp only [h2, Res.bind]
    cases e : b d with
    | true =>
      simp only [h3 e, if_pos]
      rw [compF_eq b y ds _ fun d hd => h d (List.mem_cons_of_mem _ hd)]
      simp [e]
    | false =>
      rw [if_neg Bool.false_ne_true, compF_eq b y ds _ fun d hd => h d (List.mem_cons_of_mem _ hd)]
      simp [e]
/-- a comprehension whose turns leave the state -/
theorem mComp_eq {ni : En → MS → Res (List D)} {f : Tgt} {c : En → MS → Res Bool} {m : En → MS → Res MV} {vs : List Nat} {env : En} {μ μ1 : MS} (b : D → Bool) (y : D → D) {ds : List D} (hi : ni env μ = .ok ds μ1) (hl : ds.length ≤ 16777216)
    (h : ∀ d ∈ ds, ∃ env1, f d (wipeE env vs) = some env1 ∧ c env1 μ1 = .ok (b d) μ1 ∧ (b d = true → mFrz m env1 μ1 = .ok (.d (y d)) μ1)) : mComp ni f c m vs env μ = .ok (.r (.l μ1.L.length)) (μ1.new (.lst (((ds.filter b).map y).map MV.d))) := by
  simp only [mComp, hi, Res.bind, if_pos hl]
  rw [compF_eq b y ds [] h]
  simp
/-- a comprehension whose turns change the state -/
theorem compF_inv {f : Tgt} {c : En → MS → Res Bool} {m : En → MS → Res MV} {env : En} (I : Nat → List D → MS → Prop) (ds0 : List D)
    (st : ∀ i d acc μ, ds0[i]? = some d → I i acc μ → ∃ env1, f d env = some env1 ∧ ∃ μ1, c env1 μ = .ok true μ1 ∧ ∃ y μ2, mFrz m env1 μ1 = .ok (.d y) μ2 ∧ I (i + 1) (acc ++ [y]) μ2) :
    ∀ (ds pre acc : List D) (μ : MS), ds0 = pre ++ ds → I pre.length acc μ → ∃ ys μ', compF f c m env ds acc μ = .ok ys μ' ∧ I ds0.length ys μ'
  | [], pre, acc, μ, hd, h0 => ⟨acc, μ, rfl, by rw [hd, List.append_nil]; exact h0⟩
  | d :: ds, pre, acc, μ, hd, h0 => by
    obtain ⟨env1, h1, μ1, h2, y, μ2, h3, h4⟩ := st pre.length d acc μ (by rw [hd]; simp) h0
    obtain ⟨ys, μ', h5, h6⟩ := compF_inv I ds0 st ds (pre ++ [d]) (acc ++ [y]) μ2 (by rw [hd]; simp) (by rw [List.length_append]; exact h4)
    refine ⟨ys, μ', ?_, h6⟩
    rw [compF, h1]
    simp only [h2, Res.bind, if_pos, h3]
    exact h5
theorem forF_inv {f : Tgt} {b : Mir} (I : Nat → En → MS → Prop) (ds0 : List D) (st : ∀ i d env μ, ds0[i]? = some d → I i env μ → ∃ env1, f d env = some env1 ∧ ∃ env' μ', (b env1 μ = .nx env' μ' ∨ b env1 μ = .ct env' μ') ∧ I (i + 1) env' μ') :
    ∀ (ds pre : List D) (env : En) (μ : MS), ds0 = pre ++ ds → I pre.length env μ → ∃ env' μ', forF f b ds env μ = .nx env' μ' ∧ I ds0.length env' μ'
  | [], pre, env, μ, hd, h0 => ⟨env, μ, rfl, by rw [hd, List.append_nil]; exact h0⟩
  | d :: ds, pre, env, μ, hd, h0 => by
    obtain ⟨env1, h1, env', μ', h2, h3⟩ := st pre.length d env μ (by rw [hd]; simp) h0
    obtain ⟨e2, μ2, h4, h5⟩ := forF_inv I ds0 st ds (pre ++ [d]) env' μ' (by rw [hd]; simp) (by rw [List.length_append]; exact h3)
    refine ⟨e2, μ2, ?_, h5⟩
    rw [forF, h1]
    rcases h2 with h2 | h2 <;> simp only [h2] <;> exact h4
theorem sFor_inv {ni : En → MS → Res (List D)} {f : Tgt} {b : Mir} {env : En} {μ μ1 : MS} {ds : List D} (I : Nat → En → MS → Prop) (hi : ni env μ = .ok ds μ1) (h0 : I 0 env μ1)
    (st : ∀ i d env μ, ds[i]? = some d → I i env μ → ∃ env1, f d env = some env1 ∧ ∃ env' μ', (b env1 μ = .nx env' μ' ∨ b env1 μ = .ct env' μ') ∧ I (i + 1) env' μ') : ∃ env' μ', sFor ni f b env μ = .nx env' μ' ∧ I ds.length env' μ' := by
  simp only [sFor, hi, wth]
  exact forF_inv I ds st ds [] env μ1 rfl h0
theorem itW_inv {c : En → MS → Res Bool} {b : Mir} (I : Nat → En → MS → Prop) (J : En → MS → Prop) (st : ∀ n env μ, I n env μ → (∃ μ1, c env μ = .ok false μ1 ∧ J env μ1) ∨ ∃ μ1 env' μ2 m, c env μ = .ok true μ1 ∧ (b env μ1 = .nx env' μ2 ∨ b env μ1 = .ct env' μ2) ∧ m < n ∧ I m env' μ2) :
    ∀ (n : Nat) (env : En) (μ : MS), I n env μ → ∃ k env' μ', itW c b k env μ = some (.nx env' μ') ∧ J env' μ' := by
  intro n
  induction n using Nat.strongRecOn with
  | ind n ih =>
    intro env μ h
    rcases st n env μ h with ⟨μ1, h1, h2⟩ | ⟨μ1, env', μ2, m, h1, h2, h3, h4⟩
    · exact ⟨1, env, μ1, by simp [itW, h1], h2⟩
    · obtain ⟨k, e2, μ3, h5, h6⟩ := ih m h3 env' μ2 h4
      refine ⟨k + 1, e2, μ3, ?_, h6⟩
      rw [itW, h1]
      rcases h2 with h2 | h2 <;> simp only [h2] <;> exact h5
theorem sWhile_inv {c : En → MS → Res Bool} {b : Mir} (I : Nat → En → MS → Prop) (J : En → MS → Prop) (st : ∀ n env μ, I n env μ → (∃ μ1, c env μ = .ok false μ1 ∧ J env μ1) ∨ ∃ μ1 env' μ2 m, c env μ = .ok true μ1 ∧ (b env μ1 = .nx env' μ2 ∨ b env μ1 = .ct env' μ2) ∧ m < n ∧ I m env' μ2)
    {n : Nat} {env : En} {μ : MS} (h : I n env μ) : ∃ env' μ', sWhile c b env μ = .nx env' μ' ∧ J env' μ' := by
  obtain ⟨k, e, μ', h1, h2⟩ := itW_inv I J st n env μ h
  haveI : Tables := ⟨[]⟩
  exact ⟨e, μ', sWhile_it h1, h2⟩
theorem seq_nx {a b : Mir} {env env' : En} {μ μ' : MS} (h : a env μ = .nx env' μ') : sSeq a b env μ = b env' μ' := by simp [sSeq, h]
/-! ### a def's end -/
theorem fz_noR {μ : MS} : ∀ {ms : List MV}, (ms.filterMap fun m => match m with | .r p => some p | .d _ => none) = [] → ms.map (fzm μ) = ms
  | [], _ => rfl
  | .d x :: ms, h => by rw [List.map_cons, fz_noR (ms := ms) h]; rfl
  | .r p :: ms, h => by cases h
theorem fz_noK {α : Type} {μ : MS} : ∀ {ms : List (α × MV)}, (ms.filterMap fun m => match m.2 with | .r p => some p | .d _ => none) = [] → (ms.map fun kv => (kv.1, fzm μ kv.2)) = ms
  | [], _ => rfl
  | (a, .d x) :: ms, h => by rw [List.map_cons, fz_noK (ms := ms) h]; rfl
  | (a, .r p) :: ms, h => by cases h
theorem nz_noR {μ : MS} {o : MO} (h : moRefs o = []) : nz μ o = o := by
  cases o with
  | lst ms => rw [nz, fz_noR h]
  | dct ms => rw [nz, fz_noK h]
  | ins c ms => rw [nz, fz_noK h]
  | frz d => rfl
theorem nzB {μ : MS} : ∀ {B : List MO}, B.flatMap moRefs = [] → B.map (nz μ) = B
  | [], _ => rfl
  | o :: B, h => by
    rw [List.flatMap_cons, List.append_eq_nil_iff] at h
    rw [List.map_cons, nz_noR h.1, nzB h.2]
theorem defS_d {N : Nat} {b : Mir} {ms : List MV} {B B' L : List MO} {y : D} (h : b (ms.map some ++ List.replicate (N - ms.length) none) ⟨B, []⟩ = .rt (.d y) ⟨B', L⟩) (hB : B'.flatMap moRefs = []) : mDefS N b ms B = .ret (.d y) ⟨B', L.map (nz ⟨B', L⟩)⟩ := by
  simp [mDefS, h, shut, inner, hB, lRefs, frzs, nzA, nzB hB]
theorem defS_n {N : Nat} {b : Mir} {ms : List MV} {B B' L : List MO} {env' : En} (h : b (ms.map some ++ List.replicate (N - ms.length) none) ⟨B, []⟩ = .nx env' ⟨B', L⟩) (hB : B'.flatMap moRefs = []) : mDefS N b ms B = .ret (.d .non) ⟨B', L.map (nz ⟨B', L⟩)⟩ := by
  simp [mDefS, h, shut, inner, hB, lRefs, frzs, nzA, nzB hB]
theorem defS_r {N : Nat} {b : Mir} {ms : List MV} {B B' L : List MO} {k : Nat} {o : MO} (h : b (ms.map some ++ List.replicate (N - ms.length) none) ⟨B, []⟩ = .rt (.r (.l k)) ⟨B', L⟩) (hB : B'.flatMap moRefs = []) (ho : L[k]? = some o) (hr : moRefs o = []) : ∃ L', mDefS N b ms B = .ret (.r (.l k)) ⟨B', L'⟩ ∧ L'[k]? = some o := by
  refine ⟨L.map (nz ⟨B', L⟩), ?_, by rw [List.getElem?_map, ho, Option.map_some, nz_noR hr]⟩
  simp [mDefS, h, shut, inner, hB, lRefs, frzs, ho, hr, nzA, nzB hB]
theorem defS_x {N : Nat} {b : Mir} {ms : List MV} {B B' L : List MO} {c : Str} {fs : List (Str × D)} (h : b (ms.map some ++ List.replicate (N - ms.length) none) ⟨B, []⟩ = .exc c fs ⟨B', L⟩) (hB : B'.flatMap moRefs = []) : mDefS N b ms B = .exc c fs ⟨B', L.map (nz ⟨B', L⟩)⟩ := by
  simp [mDefS, h, shut, inner, hB, lRefs, frzs, nzA, nzB hB]
/-! ### the pen -/
theorem pen_left {x y z : MV} : valM [((Sum.inr "cells" : Key), x), (.inr "used", y), (.inr "left", z)] (.inr ("left" : Str)) = some z := rfl
theorem pen_used {x y z : MV} : valM [((Sum.inr "cells" : Key), x), (.inr "used", y), (.inr "left", z)] (.inr ("used" : Str)) = some y := rfl
theorem pen_cells {x y z : MV} : valM [((Sum.inr "cells" : Key), x), (.inr "used", y), (.inr "left", z)] (.inr ("cells" : Str)) = some x := rfl
theorem pen_put_left {x y z v : MV} : putM [((Sum.inr "cells" : Key), x), (.inr "used", y), (.inr "left", z)] (.inr ("left" : Str)) v = [((Sum.inr "cells" : Key), x), (.inr "used", y), (.inr "left", v)] := rfl
theorem pen_put_used {x y z v : MV} : putM [((Sum.inr "cells" : Key), x), (.inr "used", y), (.inr "left", z)] (.inr ("used" : Str)) v = [((Sum.inr "cells" : Key), x), (.inr "used", v), (.inr "left", z)] := rfl
theorem pen_cl {cs : List Int} {u l : Int} : closed (penO cs u l) = true := rfl
theorem pen_clD {cs : List Int} {u l : Int} : closedD (penO cs u l) = true := rfl
theorem pen_nz {μ : MS} {cs : List Int} {u l : Int} : nz μ (penO cs u l) = penO cs u l := rfl
theorem pen_refs {cs : List Int} {u l : Int} : moRefs (penO cs u l) = [] := rfl
/-- a pen that drew at most n cells -/
def PenN (n : Nat) (o : MO) : Prop := ∃ (cs : List Int) (u l : Int), o = penO cs u l ∧ cs.length ≤ 63 ∧ 0 ≤ u ∧ u ≤ n ∧ 0 ≤ l
theorem PenN.cl {n : Nat} {o : MO} (h : PenN n o) : closed o = true := by obtain ⟨cs, u, l, rfl, _⟩ := h; rfl
theorem PenN.clD {n : Nat} {o : MO} (h : PenN n o) : closedD o = true := by obtain ⟨cs, u, l, rfl, _⟩ := h; rfl
theorem PenN.nz {n : Nat} {o : MO} {μ : MS} (h : PenN n o) : nz μ o = o := by obtain ⟨cs, u, l, rfl, _⟩ := h; rfl
theorem PenN.refs {n : Nat} {o : MO} (h : PenN n o) : moRefs o = [] := by obtain ⟨cs, u, l, rfl, _⟩ := h; rfl
theorem PenN.op {n : Nat} {o : MO} {μ : MS} {p : R} (h : PenN n o) (g : μ.get p = some o) : Op μ p o := ⟨g, h.cl, h.nz⟩
theorem PenN.mono {n m : Nat} {o : MO} (h : PenN n o) (e : n ≤ m) : PenN m o := by obtain ⟨cs, u, l, h0, h1, h2, h3, h4⟩ := h; exact ⟨cs, u, l, h0, h1, h2, by omega, h4⟩
theorem op_lst {μ : MS} {p : R} {xs : List D} (h : μ.get p = some (.lst (xs.map MV.d))) : Op μ p (.lst (xs.map MV.d)) := ⟨h, by show (flat (.lst (xs.map MV.d))).isSome = true; rw [flat_lst]; rfl, nz_lst μ xs⟩
end Q
end

set_option Elab.async false
set_option linter.all false
/-! One sign counted, found in a text. -/
namespace G
open PySem PySem.StrLaws PySem.Builtin PySem.Builtin.Str

/-- the places of a sign -/
def places (l : List Nat) (c : Nat) (lo n : Nat) : List Nat := (List.range' lo n).filter fun i => l[i]? == some c
theorem occ_one_gen (x : Str) (c limit : Nat) : ∀ (n lo : Nat) (acc : Array Nat) (free : Nat), free ≤ lo →
    (forIn (List.range' lo n) (acc, free) (occBody x ⟨#[c]⟩ x.length limit)).run.fst.toList = acc.toList ++ (places x.cps.toList c lo n).take (limit - acc.size)
  | 0, lo, acc, free, _ => by simp [places]
  | n + 1, lo, acc, free, hf => by
    rw [List.range'_succ, List.forIn_cons]
    unfold occBody
    have hp : places x.cps.toList c lo (n + 1) = (if x.cps.toList[lo]? = some c then [lo] else []) ++ places x.cps.toList c (lo + 1) n := by
      unfold places
      rw [List.range'_succ, List.filter_cons]
      generalize x.cps.toList = l
      by_cases h : l[lo]? = some c
      · simp [h]
      · simp [h]
    by_cases hc : x.cps.toList[lo]? = some c
    · have h2 := (subAt_one x c lo).mpr hc
      rw [hp, if_pos hc]
      by_cases hl : acc.size < limit
      · rw [if_pos ⟨⟨⟨hl, hf⟩, h2.1⟩, h2.2⟩]
        have ih := occ_one_gen x c limit n (lo + 1) (acc.push lo) (lo + 1) (Nat.le_refl _)
        refine Eq.trans ih ?_
        rw [Array.toList_push, Array.size_push]
        obtain ⟨k, hk⟩ : ∃ k, limit - acc.size = k + 1 := ⟨limit - acc.size - 1, by omega⟩
        rw [hk, show limit - (acc.size + 1) = k by omega]
        simp
      · rw [if_neg (fun h => hl h.1.1.1)]
        have ih := occ_one_gen x c limit n (lo + 1) acc free (by omega)
        refine Eq.trans ih ?_
        rw [show limit - acc.size = 0 by omega]
        simp
    · rw [hp, if_neg hc, if_neg (fun h => hc ((subAt_one x c lo).mp ⟨h.1.2, h.2⟩)), List.nil_append]
      exact occ_one_gen x c limit n (lo + 1) acc free (by omega)
theorem occ_one (x : Str) (c limit : Nat) : occurrences x ⟨#[c]⟩ 0 x.length limit = (places x.cps.toList c 0 (x.length + 1)).take limit := by
  rw [occ_eq]
  have := occ_one_gen x c limit (x.length + 1 - 0) 0 #[] 0 (Nat.le_refl _)
  simpa using this
theorem places_shift (l : List Nat) (a c : Nat) : ∀ n lo, places (a :: l) c (lo + 1) n = (places l c lo n).map (· + 1)
  | 0, lo => rfl
  | n + 1, lo => by
    have ih := places_shift l a c n (lo + 1)
    unfold places at ih ⊢
    rw [List.range'_succ, List.range'_succ, List.filter_cons, List.filter_cons, ih]
    rw [List.getElem?_cons_succ]
    split <;> simp
theorem places_nil (c : Nat) (n lo : Nat) : places [] c lo n = [] := by
  unfold places
  rw [List.filter_eq_nil_iff]
  simp
theorem places_cons (l : List Nat) (a c n : Nat) : places (a :: l) c 0 (n + 1) = (if a = c then [0] else []) ++ (places l c 0 n).map (· + 1) := by
  rw [← places_shift l a c n 0]
  unfold places
  rw [List.range'_succ, List.filter_cons]
  by_cases h : a = c
  · simp [h]
  · simp [h]
theorem places_len (c : Nat) : ∀ (l : List Nat) (n : Nat), l.length ≤ n → (places l c 0 n).length = l.count c
  | [], n, _ => by rw [places_nil]; simp
  | a :: l, 0, h => by simp at h
  | a :: l, n + 1, h => by
    rw [places_cons, List.length_append, List.length_map, places_len c l n (by simpa using h), List.count_cons]
    by_cases e : a = c
    · simp [e]; omega
    · have : (a == c) = false := by simpa using e
      simp [e]
theorem places_head (c : Nat) : ∀ (l : List Nat) (n : Nat), l.length ≤ n → c ∈ l → (places l c 0 n).head? = some (l.idxOf c)
  | [], n, _, h => by cases h
  | a :: l, 0, h, _ => by simp at h
  | a :: l, n + 1, h, hm => by
    rw [places_cons]
    by_cases e : a = c
    · subst e
      simp [List.idxOf_cons]
    · have hm2 : c ∈ l := by
        rcases List.mem_cons.mp hm with q | q
        · exact absurd q.symm e
        · exact q
      have ih := places_head c l n (by simpa using h) hm2
      have e2 : (a == c) = false := by simpa using e
      rw [if_neg e, List.nil_append, List.head?_map, ih, List.idxOf_cons, e2]
      rfl
theorem count_one (x : Str) (c : Nat) : Txt.count x ⟨#[c]⟩ = (x.cps.toList.count c : Nat) := by
  unfold Txt.count
  rw [occ_one, List.take_of_length_le, places_len]
  · simp [Str.length]
  · rw [places_len]
    · have := List.count_le_length (a := c) (l := x.cps.toList)
      simp [Str.length] at this ⊢
      omega
    · simp [Str.length]
theorem index_one (x : Str) (c : Nat) (h : c ∈ x.cps.toList) : occurrences x ⟨#[c]⟩ 0 x.length 1 = x.cps.toList.idxOf c :: [] := by
  rw [occ_one]
  have := places_head c x.cps.toList (x.length + 1) (by simp [Str.length]) h
  cases e : places x.cps.toList c 0 (x.length + 1) with
  | nil => rw [e] at this; cases this
  | cons a r =>
    rw [e] at this
    simp at this
    simp [this]
theorem joinL_nil : ∀ ls : List (List Nat), TL.joinL [] ls = ls.flatten
  | [] => rfl
  | [p] => by simp [TL.joinL]
  | p :: q :: r => by
    show p ++ ([] ++ TL.joinL [] (q :: r)) = _
    rw [joinL_nil (q :: r)]
    simp
theorem join_empty (ls : List (List Nat)) : Txt.join (Str.ofString "") (ls.map fun l => (⟨l.toArray⟩ : Str)) = ⟨ls.flatten.toArray⟩ := by
  have e1 : Str.ofString "" = (⟨([] : List Nat).toArray⟩ : Str) := by decide +kernel
  rw [e1]
  refine Eq.trans (SX.join_S [] ls) ?_
  rw [joinL_nil]
end G

set_option Elab.async false
set_option linter.all false
set_option maxRecDepth 100000
set_option maxHeartbeats 4000000
noncomputable section
open Classical
namespace K03
open PySem PySem.Spec PyProof.Rows L2 G Q
def n__law_draw (rf : MF) : Mir := (sSeq (sIf (asB (mOp fGt (mIx (mVar 0) (mC (.str "left"))) (mC (.int 0)))) (sSeq (sSet 2 (mOp fMod (mCB fInt (mCons (mIx (mVar 0) (mC (.str "left"))) mNil)) (mVar 1)))
  (sSeq (sPut putD (mOp fFdiv (mIx (mVar 0) (mC (.str "left"))) (mVar 1)) (mVar 0) (mC (.str "left")))
  (sRet (mVar 2)))) sNext)
  (sSeq (sSet 3 (mIx (mVar 0) (mC (.str "used"))))
  (sSeq (sPut putD (mOp fAdd (mVar 3) (mC (.int 1))) (mVar 0) (mC (.str "used")))
  (sSeq (sSet 4 (mOp fAdd (mOp fMulQ (mC (.int 43)) (mVar 3)) (mC (.int 7))))
  (sSeq (sIf (asB (mOp (eqD true) (mIx (mVar 0) (mC (.str "cells"))) (mLst mNil))) (sSet 4 (mIx (mIx (mVar 0) (mC (.str "cells"))) (mOp fMod (mCB fInt (mCons (mVar 3) mNil)) (mCB fLen (mCons (mIx (mVar 0) (mC (.str "cells"))) mNil))))) sNext)
  (sSeq (sIf (mAnd (asB (mOp fLt (mVar 3) (mCB fLen (mCons (mIx (mVar 0) (mC (.str "cells"))) mNil)))) (asB (mOp fGe (mCB fAbs (mCons (mVar 4) mNil)) (mOp fPow (mC (.int 10)) (mC (.int 18)))))) (sSeq (sPut putD (mOp fFdiv (mOp fSub (mCB fAbs (mCons (mVar 4) mNil)) (mOp fPow (mC (.int 10)) (mC (.int 18)))) (mVar 1)) (mVar 0) (mC (.str "left")))
  (sRet (mOp fMod (mOp fSub (mCB fAbs (mCons (mVar 4) mNil)) (mOp fPow (mC (.int 10)) (mC (.int 18)))) (mVar 1)))) sNext)
  (sSeq (sSet 5 (mOp fAdd (mOp fMulQ (mOp fMod (mCB fInt (mCons (mVar 4) mNil)) (mC (.int 4294967231))) (mC (.int 1103515))) (mOp fMulQ (mOp fMulQ (mC (.int 30011)) (mVar 3)) (mVar 3))))
  (sSeq (sSet 5 (mOp fMod (mCB fInt (mCons (mOp fAdd (mOp fAdd (mVar 5) (mOp fMulQ (mC (.int 178481)) (mVar 3))) (mC (.int 23))) mNil)) (mC (.int 4294967197))))
  (sSeq (sSet 5 (mOp fMod (mCB fInt (mCons (mOp fAdd (mOp fAdd (mOp fAdd (mOp fMulQ (mVar 5) (mVar 5)) (mOp fMulQ (mC (.int 16769023)) (mVar 5))) (mOp fMulQ (mC (.int 5)) (mVar 3))) (mC (.int 7))) mNil)) (mC (.int 4294967189))))
  (sSeq (sSet 5 (mOp fFdiv (mOp fMod (mCB fInt (mCons (mOp fMulQ (mVar 5) (mOp fAdd (mVar 5) (mC (.int 28629151)))) mNil)) (mC (.int 4294967291))) (mC (.int 64))))
  (sSeq (sIf (asB (mOp fGt (mVar 1) (mC (.int 60000000)))) (sSet 5 (mOp fAdd (mVar 5) (mOp fMulQ (mC (.int 60000000)) (mCall 2 rf (mCons (mVar 0) (mCons (mOp fAdd (mOp fFdiv (mVar 1) (mC (.int 60000000))) (mC (.int 1))) mNil)))))) sNext)
  (sRet (mOp fMod (mCB fInt (mCons (mVar 5) mNil)) (mVar 1))))))))))))))
def f__law_draw : Nat → MF
  | 0 => fun _ _ => .bad
  | n + 1 => mDefS 6 (n__law_draw (f__law_draw n))
abbrev fm__law_draw : MF := f__law_draw 6
def n__law_pick : Mir := (sRet (mIx (mVar 1) (mCall 2 fm__law_draw (mCons (mVar 0) (mCons (mCB fLen (mCons (mVar 1) mNil)) mNil)))))
def f__law_pick : MF := mDefS 2 n__law_pick
def n__law_shuffled : Mir := (sSeq (sPar 2 3 (mCons (mCB fList (mCons (mVar 1) mNil)) (mCons (mLst mNil) mNil)))
  (sSeq (sWhile (asB (mOp (eqD true) (mVar 2) (mLst mNil))) (sDrop (mLM lAppend (mVar 3) (mCons (mLM lPopAt (mVar 2) (mCons (mCall 2 fm__law_draw (mCons (mVar 0) (mCons (mCB fLen (mCons (mVar 2) mNil)) mNil))) mNil)) mNil))))
  (sRet (mVar 3))))
def f__law_shuffled : MF := mDefS 4 n__law_shuffled
def n__law_font : Mir := (sSeq (sSet 2 (mOp fAdd (mC (.int 2)) (mCall 2 fm__law_draw (mCons (mVar 0) (mCons (mOp fSub (mVar 1) (mC (.int 1))) mNil)))))
  (sSeq (sSet 3 (mCall 2 f__law_pick (mCons (mVar 0) (mCons (mLst (mCons (mC (.str "0123456789")) (mCons (mC (.str "abcdefghij")) (mCons (mC (.str "zyxwvutsrqponmlkjihgfedcba")) (mCons (mC (.str "9a8b7c6d5e4f")) mNil))))) mNil))))
  (sSeq (sSet 4 (mSM fJoin (mC (.str "")) (mSl (mCall 2 f__law_shuffled (mCons (mVar 0) (mCons (mSl (mVar 3) mNoPart (mPart (mC (.int 10)))) mNil))) mNoPart (mPart (mVar 2)))))
  (sSeq (sPar 5 6 (mCons (mCall 2 f__law_shuffled (mCons (mVar 0) (mCons (mVar 4) mNil))) (mCons (mLst mNil) mNil)))
  (sSeq (sWhile (asB (mOp (eqD true) (mVar 5) (mLst mNil))) (sSeq (sPar 7 8 (mCons (mLM0 lPop (mVar 5)) (mCons (mCall 2 fm__law_draw (mCons (mVar 0) (mCons (mC (.int 3)) mNil))) mNil)))
  (sSeq (sIf (asB (mOp (eqD false) (mVar 8) (mC (.int 1)))) (sDrop (mLM lAppend (mVar 6) (mCons (mTup (mCons (mFrz (mVar 7)) (mCons (mFrz (mVar 7)) mNil))) mNil))) sNext)
  (sIf (mAnd (asB (mOp (eqD false) (mVar 8) (mC (.int 2)))) (asB (mOp (eqD true) (mVar 5) (mLst mNil)))) (sDrop (mLM lAppend (mVar 6) (mCons (mTup (mCons (mFrz (mVar 7)) (mCons (mFrz (mLM0 lPop (mVar 5))) mNil))) mNil))) sNext))))
  (sRet (mTup (mCons (mFrz (mVar 4)) (mCons (mFrz (mVar 6)) mNil)))))))))
def f__law_font : MF := mDefS 9 n__law_font
def n__law_kinds : Mir := (sSeq (sSet 1 (mLst mNil))
  (sSeq (sFor (rngI (mCons (mCB fLen (mCons (mVar 0) mNil)) mNil) g1) (gN 2) (sDrop (mLM lExt (mVar 1) (mCons (mComp (items (mOp fAdd (mSl (mVar 0) (mPart (mVar 2)) mNoPart) (mC (.str "-"))) strI) (gN 3) mYes (mOp fAdd (mIx (mVar 0) (mVar 2)) (mVar 3)) [3]) mNil))))
  (sRet (mVar 1))))
def f__law_kinds : MF := mDefS 4 n__law_kinds
def n_is_font_text : Mir := (sSeq (sIf (mOr (mNot (asB (mIsi (fun t => isT t "str") (mVar 0)))) (mNot (asB (mChain leB leB (mC (.int (2))) (mCB fLen (mCons (mVar 0) mNil)) (mVar 1))))) (sRet (mC (.bl false))) sNext)
  (sRet (mAndV (mCB fAll (mCons (mComp (items (mVar 0) strI) (gN 2) mYes (mOp (inD false) (mVar 2) (mC (.str "0123456789abcdefghijklmnopqrstuvwxyz"))) [2]) mNil)) (mOp (eqD false) (mLenSet (mVar 0)) (mCB fLen (mCons (mVar 0) mNil))))))
def f_is_font_text : MF := mDefS 3 n_is_font_text
def n_is_list : Mir := (sRet (mIsi (fun t => ["list", "tuple"].any (isT t)) (mVar 0)))
def f_is_list : MF := mDefS 1 n_is_list
def n_is_tuple_of : Mir := (sRet (mAndV (mIsi (fun t => isT t "tuple") (mVar 0)) (mOp (eqD false) (mCB fLen (mCons (mVar 0) mNil)) (mVar 1))))
def f_is_tuple_of : MF := mDefS 2 n_is_tuple_of
def n_are_turns : Mir := (sSeq (sIf (mNot (asB (mCall 1 f_is_list (mCons (mVar 0) mNil)))) (sRet (mC (.bl false))) sNext)
  (sSeq (sSet 2 (mLst mNil))
  (sSeq (sFor (items (mVar 0) seqI) (gN 3) (sSeq (sIf (mOr (mNot (asB (mCall 2 f_is_tuple_of (mCons (mVar 3) (mCons (mC (.int 2)) mNil))))) (mNot (asB (mCB fAll (mCons (mComp (items (mVar 3) tupI) (gN 4) mYes (mAndV (mIsi (fun t => isT t "str") (mVar 4)) (mOp (inD false) (mVar 4) (mVar 1))) [4]) mNil))))) (sRet (mC (.bl false))) sNext)
  (sDrop (mLM lExt (mVar 2) (mCons (mComp (items (mVar 1) keyI) (gN 4) (asB (mOp (inD false) (mVar 4) (mVar 3))) (mVar 4) [4]) mNil)))))
  (sRet (mOp (eqD false) (mLenSet (mVar 2)) (mCB fLen (mCons (mVar 2) mNil)))))))
def f_are_turns : MF := mDefS 5 n_are_turns
def n_Font_ddinitdd : Mir := (sSeq (sIf (mNot (asB (mCall 2 f_is_font_text (mCons (mVar 1) (mCons (mCon "Font" "MAX_SIGNS" (.int 10) (mVar 0)) mNil))))) (sRaise "InvalidFont" "value" (mVar 1)) sNext)
  (sSeq (sFld "Font" "word" (mVar 1) (mVar 0))
  (sSeq (sFld "Font" "ranks" (mDComp (enumI strI (mCons (mVar 1) mNil)) (gT (gsC (gN 5) (gsC (gN 6) gsN))) mYes (mVar 6) (mVar 5) [5, 6]) (mVar 0))
  (sSeq (sIf (mNot (asB (mCall 2 f_are_turns (mCons (mVar 2) (mCons (mFld "Font" "ranks" (mVar 0)) mNil))))) (sRaise "InvalidTurns" "value" (mVar 2)) sNext)
  (sSeq (sFld "Font" "heads" mDNew (mVar 0))
  (sFor (items (mVar 2) seqI) (gT (gsC (gN 3) (gsC (gN 4) gsN))) (sSeq (sPut putD (mVar 4) (mFld "Font" "heads" (mVar 0)) (mVar 3))
  (sPut putD (mVar 3) (mFld "Font" "heads" (mVar 0)) (mVar 4)))))))))
def f_Font_ddinitdd : MF := mDefS 7 n_Font_ddinitdd
def n__law_flipped : Mir := (sRet (mCall 2 f__law_pick (mCons (mVar 0) (mCons (mLst (mCons (mVar 1) (mCons (mRevU (mVar 1)) mNil))) mNil))))
def f__law_flipped : MF := mDefS 2 n__law_flipped
def n__law_font_made : Mir := (sRet (mFrz (mMake "Font" 3 f_Font_ddinitdd (mCons (mIx (mVar 1) (mC (.int 0))) (mCons (mFrz (mComp (items (mCall 2 f__law_shuffled (mCons (mVar 0) (mCons (mIx (mVar 1) (mC (.int 1))) mNil))) lstI) (gN 2) mYes (mCall 2 f__law_flipped (mCons (mVar 0) (mCons (mVar 2) mNil))) [2])) mNil)))))
def f__law_font_made : MF := mDefS 3 n__law_font_made
def n__law_is_kind : Mir := (sSeq (sIf (mOr (mNot (asB (mIsi (fun t => isT t "str") (mVar 1)))) (mOr (asB (mOp (eqD true) (mCB fLen (mCons (mVar 1) mNil)) (mC (.int 2)))) (asB (mOp (eqD false) (mVar 1) (mC (.str "--")))))) (sRet (mC (.bl false))) sNext)
  (sRet (mOp (eqD false) (mComp (items (mVar 1) strI) (gN 2) (mAnd (asB (mOp (eqD true) (mVar 2) (mC (.str "-")))) (asB (mOp (inD true) (mVar 2) (mVar 0)))) (mVar 2) [2]) (mLst mNil))))
def f__law_is_kind : MF := mDefS 3 n__law_is_kind
def n__law_odd : Mir := (sSeq (sSet 1 (mLst (mCons (mC .non) (mCons (mC (.bl true)) (mCons (mC (.bl false)) (mCons (mC (.int 0)) (mCons (mC (.int 1)) (mCons (mNeg (mC (.int 1))) (mCons (mC (.int 2)) (mCons (mC (.int 10)) (mCons (mOp fPow (mC (.int 10)) (mC (.int 30))) (mCons (mOp fAdd (mOp fPow (mC (.int 10)) (mC (.int 30))) (mC (.int 1))) (mCons (mOp fMulQ (mOp fPow (mC (.int 10)) (mC (.int 49))) (mOp fPow (mC (.int 10)) (mC (.int 50)))) (mCons (mC (.str "")) (mCons (mC (.str "a")) (mCons (mC (.str "0")) (mCons (mC (.str "zz")) (mCons (mC (.str "A")) (mCons (mC (.str "-")) mNil)))))))))))))))))))
  (sSeq (sSet 1 (mOp fAdd (mVar 1) (mLst (mCons (mC (.str "--")) (mCons (mC (.str "a b")) (mCons (mC (.str "a\n")) (mCons (mTup mNil) (mCons (mFrz (mLst mNil)) (mCons (mFrz mDNew) (mCons (mTup (mCons (mC (.str "a")) mNil)) (mCons (mFrz (mLst (mCons (mC (.str "a")) mNil))) (mCons (mFrz (mDOne (.inr "a") (.int 1))) (mCons (mTup (mCons (mC (.str "a")) (mCons (mC (.str "a")) mNil))) (mCons (mTup (mCons (mC (.str "0")) (mCons (mC (.int 1)) mNil))) (mCons (mFrz (mLst (mCons (mTup (mCons (mC (.str "0")) (mCons (mC (.int 1)) mNil))) mNil))) (mCons (mC (.str "0123456789a")) mNil))))))))))))))))
  (sRet (mCall 2 f__law_pick (mCons (mVar 0) (mCons (mVar 1) mNil))))))
def f__law_odd : MF := mDefS 2 n__law_odd
def n_Font_normal : Mir := (sSeq (sTo (gTS 2 (gsC (gN 2) (gsC (gN 3) gsN))) (mVar 1))
  (sSeq (sIf (mOr (asB (mOp (eqD false) (mVar 2) (mC (.str "-")))) (mAnd (asB (mOp (eqD true) (mVar 3) (mC (.str "-")))) (asB (mOp fLt (mIx (mFld "Font" "ranks" (mVar 0)) (mVar 3)) (mIx (mFld "Font" "ranks" (mVar 0)) (mVar 2)))))) (sRet (mOp fAdd (mVar 3) (mVar 2))) sNext)
  (sRet (mVar 1))))
def f_Font_normal : MF := mDefS 4 n_Font_normal
def n_is_kind : Mir := (sSeq (sIf (mOr (mNot (asB (mIsi (fun t => isT t "str") (mVar 1)))) (mOr (asB (mOp (eqD true) (mCB fLen (mCons (mVar 1) mNil)) (mC (.int 2)))) (asB (mOp (eqD false) (mVar 1) (mOp fMulQ (mC (.str "-")) (mC (.int 2))))))) (sRet (mC (.bl false))) sNext)
  (sRet (mCB fAll (mCons (mComp (items (mVar 1) strI) (gN 2) mYes (mOrV (mOp (eqD false) (mVar 2) (mC (.str "-"))) (mOp (inD false) (mVar 2) (mFld "Font" "ranks" (mVar 0)))) [2]) mNil))))
def f_is_kind : MF := mDefS 3 n_is_kind
def n_need_kind : Mir := (sSeq (sIf (mNot (asB (mCall 2 f_is_kind (mCons (mVar 0) (mCons (mVar 1) mNil))))) (sRaise "InvalidKind" "value" (mVar 1)) sNext)
  (sRet (mMeth "Font" "normal" 2 f_Font_normal (mVar 0) (mCons (mVar 1) mNil))))
def f_need_kind : MF := mDefS 2 n_need_kind
def n_Font_kept : Mir := (sRet (mCall 2 f_need_kind (mCons (mVar 0) (mCons (mVar 1) mNil))))
def f_Font_kept : MF := mDefS 2 n_Font_kept
def n_Font_ascending : Mir := (sRet (mSM fJoin (mC (.str "")) (mComp (items (mFld "Font" "word" (mVar 0)) strI) (gN 2) (asB (mOp (inD false) (mVar 2) (mVar 1))) (mVar 2) [2])))
def f_Font_ascending : MF := mDefS 3 n_Font_ascending
def n_Font_seen : Mir := (sSeq (sSet 2 (mComp (items (mVar 1) strI) (gN 3) (asB (mOp (eqD true) (mVar 3) (mC (.str "-")))) (mVar 3) [3]))
  (sRet (mMeth "Font" "ascending" 2 f_Font_ascending (mVar 0) (mCons (mOp fAdd (mVar 2) (mComp (items (mVar 2) lstI) (gN 3) (asB (mOp (inD false) (mVar 3) (mFld "Font" "heads" (mVar 0)))) (mIx (mFld "Font" "heads" (mVar 0)) (mVar 3)) [3])) mNil))))
def f_Font_seen : MF := mDefS 4 n_Font_seen
def n_Font_shown : Mir := (sRet (mMeth "Font" "seen" 2 f_Font_seen (mVar 0) (mCons (mCall 2 f_need_kind (mCons (mVar 0) (mCons (mVar 1) mNil))) mNil)))
def f_Font_shown : MF := mDefS 2 n_Font_shown
def n__law_heads : Mir := (sSeq (sSet 1 mDNew)
  (sSeq (sFor (items (mVar 0) lstI) (gT (gsC (gN 2) (gsC (gN 3) gsN))) (sSeq (sPut putD (mVar 3) (mVar 1) (mVar 2))
  (sPut putD (mVar 2) (mVar 1) (mVar 3))))
  (sRet (mVar 1))))
def f__law_heads : MF := mDefS 4 n__law_heads
def n__law_seen : Mir := (sSeq (sTo (gT (gsC (gN 2) (gsC (gN 3) gsN))) (mVar 0))
  (sSeq (sSet 4 (mCall 1 f__law_heads (mCons (mVar 3) mNil)))
  (sSeq (sSet 5 (mComp (items (mVar 1) strI) (gN 6) (asB (mOp (inD false) (mVar 6) (mVar 2))) (mVar 6) [6]))
  (sSeq (sSet 5 (mOp fAdd (mVar 5) (mComp (items (mVar 5) lstI) (gN 6) (asB (mOp (inD false) (mVar 6) (mVar 4))) (mIx (mVar 4) (mVar 6)) [6])))
  (sRet (mSM fJoin (mC (.str "")) (mComp (items (mVar 2) strI) (gN 7) (asB (mOp (inD false) (mVar 7) (mVar 5))) (mVar 7) [7])))))))
def f__law_seen : MF := mDefS 8 n__law_seen
def tl__law_told : List (Str × HF) := [("InvalidKind", (fun fs => ((hCons (if true = true then (fun _ => some (D.str "kind")) else (fun _ => some (D.str "odd"))) (hCons (fun fs : List (Str × D) => fs.lookup ("value" : Str)) hNil)) fs).bind fun ds => if ds.length ≤ sizeLine then some (D.tup ds) else none)),
  ("InvalidNumber", fun _ => none),
  ("TooFew", fun _ => none),
  ("TooMany", fun _ => none),
  ("OtherFont", fun _ => none),
  ("InvalidSigns", fun _ => none)]
def tg__law_told : Res MV → Res MV := tgR "ok" tl__law_told ["InvalidKind"]
def n_law : Mir := (sSeq (sFor (rngI (mCons (mC (.int 6)) mNil) g1) (gN 2) (sSeq (sSet 3 (mCall 2 f__law_font (mCons (mVar 1) (mCons (mCall 2 f__law_pick (mCons (mVar 1) (mCons (mLst (mCons (mC (.int 3)) (mCons (mC (.int 5)) (mCons (mC (.int 10)) mNil)))) mNil))) mNil))))
  (sSeq (sTo (gT (gsC (gN 4) (gsC (gN 5) gsN))) (mTup (mCons (mFrz (mCall 2 f__law_font_made (mCons (mVar 1) (mCons (mVar 3) mNil)))) (mCons (mFrz (mIx (mVar 3) (mC (.int 0)))) mNil))))
  (sSeq (sFor (items (mCall 1 f__law_kinds (mCons (mVar 5) mNil)) lstI) (gN 6) (sFor (items (mTup (mCons (mFrz (mVar 6)) (mCons (mFrz (mRevU (mVar 6))) mNil))) tupI) (gN 7) (sIf (mOr (asB (mOp (eqD true) (mMeth "Font" "kept" 2 f_Font_kept (mVar 4) (mCons (mVar 7) mNil)) (mVar 6))) (asB (mOp (eqD true) (mMeth "Font" "shown" 2 f_Font_shown (mVar 4) (mCons (mVar 7) mNil)) (mCall 2 f__law_seen (mCons (mVar 3) (mCons (mVar 6) mNil)))))) (sRet (mC (.bl false))) sNext)))
  (sSeq (sSet 8 (mLst (mCons (mC (.str "--")) (mCons (mC (.str "-")) (mCons (mC (.str "")) (mCons (mIx (mVar 5) (mC (.int 0))) (mCons (mOp fMulQ (mIx (mVar 5) (mC (.int 0))) (mC (.int 3))) (mCons (mOp fAdd (mIx (mVar 5) (mC (.int 0))) (mC (.str "?"))) (mCons (mOp fAdd (mC (.str "?")) (mIx (mVar 5) (mC (.int 0)))) (mCons (mOp fAdd (mIx (mVar 5) (mC (.int 0))) (mC (.str " "))) (mCons (mC (.str "-?")) (mCons (mOp fAdd (mSM0 fUpper (mIx (mVar 5) (mC (.int 0)))) (mC (.str "A"))) mNil))))))))))))
  (sFor (items (mOp fAdd (mVar 8) (mLst (mCons (mC .non) (mCons (mC (.int 0)) (mCons (mFrz (mLst mNil)) (mCons (mTup (mCons (mFrz (mIx (mVar 5) (mC (.int 0)))) (mCons (mFrz (mIx (mVar 5) (mC (.int 1)))) mNil))) (mCons (mFrz (mLst (mCons (mSl (mVar 5) mNoPart (mPart (mC (.int 2)))) mNil))) (mCons (mFrz (mCall 1 f__law_odd (mCons (mVar 1) mNil))) (mCons (mFrz (mCall 1 f__law_odd (mCons (mVar 1) mNil))) mNil))))))))) lstI) (gN 9) (sSeq (sIf (asB (mCall 2 f__law_is_kind (mCons (mVar 5) (mCons (mVar 9) mNil)))) sCont sNext)
  (sSeq (sIf (asB (mOp (eqD true) (mCB fRepr (mCons (mLam tg__law_told (mMeth "Font" "kept" 2 f_Font_kept (mVar 4) (mCons (mVar 9) mNil))) mNil)) (mCB fRepr (mCons (mTup (mCons (mC (.str "kind")) (mCons (mFrz (mVar 9)) mNil))) mNil)))) (sRet (mC (.bl false))) sNext)
  (sIf (asB (mOp (eqD true) (mCB fRepr (mCons (mLam tg__law_told (mMeth "Font" "shown" 2 f_Font_shown (mVar 4) (mCons (mVar 9) mNil))) mNil)) (mCB fRepr (mCons (mTup (mCons (mC (.str "kind")) (mCons (mFrz (mVar 9)) mNil))) mNil)))) (sRet (mC (.bl false))) sNext)))))))))
  (sRet (mC (.bl true))))
end K03
end

set_option Elab.async false
set_option linter.all false
set_option maxRecDepth 100000
set_option maxHeartbeats 4000000
noncomputable section
open Classical
namespace K03
open PySem PySem.Spec PyProof.Rows L2 G Q
section
variable [Tables] {P : Program} {w : World} {K : PySem.W.Frag} {mg : Str → Option Value} {base : Heap}
theorem he_none {X : Cx} {Cl : Str → Addr} {i : Nat} {c : Str} {e : Expr} : HEr X Cl i c e fun _ => none := fun a oe dd pn fs σ w y Q hd hy k => by cases hy
theorem ok_InvalidFont_ddinitdd (T : Txt K mg) : FnOk P w K mg base CX0 1 (He.ma K (He.ga K "InvalidFont") "__init__") T.fd_InvalidFont_ddinitdd ["self", "value"] (spInit K (He.ga K "InvalidFont") "value") := init_ok T.F_InvalidFont_ddinitdd sc_InvalidFont_ddinitdd rfl rfl T.f_ValueError T.vV (fun _ => ⟨_, rfl⟩)
theorem ok_InvalidTurns_ddinitdd (T : Txt K mg) : FnOk P w K mg base CX0 1 (He.ma K (He.ga K "InvalidTurns") "__init__") T.fd_InvalidTurns_ddinitdd ["self", "value"] (spInit K (He.ga K "InvalidTurns") "value") := init_ok T.F_InvalidTurns_ddinitdd sc_InvalidTurns_ddinitdd rfl rfl T.f_ValueError T.vV (fun _ => ⟨_, rfl⟩)
theorem ok_InvalidKind_ddinitdd (T : Txt K mg) : FnOk P w K mg base CX0 1 (He.ma K (He.ga K "InvalidKind") "__init__") T.fd_InvalidKind_ddinitdd ["self", "value"] (spInit K (He.ga K "InvalidKind") "value") := init_ok T.F_InvalidKind_ddinitdd sc_InvalidKind_ddinitdd rfl rfl T.f_ValueError T.vV (fun _ => ⟨_, rfl⟩)
theorem gives__law_told {X : Cx} {q : Str} (T : Txt X.K X.mg) : ∀ cdv, LamX.GivesTo X ["_law_call", "e"] "_law_told" (defScope s__law_told) (He.ga X.K "_law_told") cdv (defBody s__law_told) "_law_call" q (TTm (Cl X.K) tg__law_told) := fun cdv =>
  told_R (i := 1) (n := "e") (by decide) (by decide) rfl (fun _ _ => rfl) (fun _ _ => by exact .cons ⟨rfl, by decide, .inl T.g_InvalidKind⟩ (he_tup (ha_cons (he_if (r := true) (he_isi (B := "ValueError") (c' := .ty "ValueError") (cv := .type "ValueError") ⟨T.ek_InvalidKind.1, T.ek_InvalidKind.2⟩ (fun _ _ => pe_var (i := 1) rfl (by first | exact Or.inl rfl | exact Or.inr rfl)) (fun _ _ => pe_bltn (v := .ty "ValueError") rfl T.f_ValueError (by decide +kernel) rfl) (fun _ h => h) T.kit_InvalidKind_ValueError rfl T.f_isinstance boot_isinstance) (he_c (v := .str "kind") (fun S => pe_str) fun _ _ => .str _) (he_c (v := .str "odd") (fun S => pe_str) fun _ _ => .str _)) (ha_cons (he_fld (f := "value") ⟨T.ek_InvalidKind.1, T.ek_InvalidKind.2⟩ T.rc_InvalidKind.hno (fun _ _ => pe_var (i := 1) rfl (by first | exact Or.inl rfl | exact Or.inr rfl))) ha_nil)) (by decide)) (.cons ⟨rfl, by decide, .inl T.g_InvalidNumber⟩ he_none (.cons ⟨rfl, by decide, .inl T.g_TooFew⟩ he_none (.cons ⟨rfl, by decide, .inl T.g_TooMany⟩ he_none (.cons ⟨rfl, by decide, .inl T.g_OtherFont⟩ he_none (.cons ⟨rfl, by decide, .inl T.g_InvalidSigns⟩ he_none (.nil))))))) (fun c hc p hp => T.exm__law_told c hc p.1 (List.mem_map.mpr ⟨p, hp, rfl⟩))
theorem okr__law_draw (T : Txt K mg) : ∀ n, FnP false P w K mg base CX0 (n + 2) (He.ga K "_law_draw") T.fd__law_draw ["_law_pen_here", "_law_many"] (spM (Cl K) 2 (f__law_draw n))
  | 0 => ⟨fun vs H Q E h => by obtain ⟨_, _, _, _, _, _, h, _⟩ := h; exact h, fun A o s H a us vs Q E _ _ _ _ _ h => by obtain ⟨_, _, _, _, _, _, _, h⟩ := h; exact h.elim⟩
  | n + 1 => by
    have ih := okr__law_draw T n
    exact fnM T.F__law_draw sc__law_draw fun cdv A outer s H E hcd hg hr => (mps_cons (mp_if (mc_gt (me_ix (ix_U (hu_of hr)) (me_var (pv 0)) (me_c pe_str fun _ _ => .str _) (fun _ _ => rfl)) (me_c pe_int fun _ _ => .int _)) (mps_cons (mp_set (me_mod (me_cty call_int1U pl_int (fun _ => mono_int) rfl T.f_int boot_int (ma_cons (me_ix (ix_U (hu_of hr)) (me_var (pv 0)) (me_c pe_str fun _ _ => .str _) (fun _ _ => rfl)) ma_nil)) (me_var (pv 1))) sc__law_draw.nd rfl (by first | exact Or.inl rfl | exact Or.inr rfl))
  (mps_cons (mp_putD (hu_of hr) (me_var (pv 0)) (me_c pe_str fun _ _ => .str _) (me_fdiv (me_ix (ix_U (hu_of hr)) (me_var (pv 0)) (me_c pe_str fun _ _ => .str _) (fun _ _ => rfl)) (me_var (pv 1))))
  (mps_one (mp_ret (me_var (pv 2)))))) mps_nil)
  (mps_cons (mp_set (me_ix (ix_U (hu_of hr)) (me_var (pv 0)) (me_c pe_str fun _ _ => .str _) (fun _ _ => rfl)) sc__law_draw.nd rfl (by first | exact Or.inl rfl | exact Or.inr rfl))
  (mps_cons (mp_putD (hu_of hr) (me_var (pv 0)) (me_c pe_str fun _ _ => .str _) (me_add (me_var (pv 3)) (me_c pe_int fun _ _ => .int _)))
  (mps_cons (mp_set (me_add (me_mul (me_c pe_int fun _ _ => .int _) (me_var (pv 3))) (me_c pe_int fun _ _ => .int _)) sc__law_draw.nd rfl (by first | exact Or.inl rfl | exact Or.inr rfl))
  (mps_cons (mp_if (mc_ne (hu0 hr) (me_ix (ix_U (hu_of hr)) (me_var (pv 0)) (me_c pe_str fun _ _ => .str _) (fun _ _ => rfl)) (me_lst ma_nil)) (mps_one (mp_set (me_ix (ix_U (hu_of hr)) (me_ix (ix_U (hu_of hr)) (me_var (pv 0)) (me_c pe_str fun _ _ => .str _) (fun _ _ => rfl)) (me_mod (me_cty call_int1U pl_int (fun _ => mono_int) rfl T.f_int boot_int (ma_cons (me_var (pv 3)) ma_nil)) (me_cb call_lenQ pl_len (fun _ => mono_len) rfl T.f_len boot_len (ma_cons (me_ix (ix_U (hu_of hr)) (me_var (pv 0)) (me_c pe_str fun _ _ => .str _) (fun _ _ => rfl)) ma_nil))) (fun _ _ => rfl)) sc__law_draw.nd rfl (by first | exact Or.inl rfl | exact Or.inr rfl))) mps_nil)
  (mps_cons (mp_if (MW.c (mw_and (mc_lt (me_var (pv 3)) (me_cb call_lenQ pl_len (fun _ => mono_len) rfl T.f_len boot_len (ma_cons (me_ix (ix_U (hu_of hr)) (me_var (pv 0)) (me_c pe_str fun _ _ => .str _) (fun _ _ => rfl)) ma_nil))) (mw_and1 (mc_ge (me_cb call_absU pl_abs (fun _ => mono_abs) rfl T.f_abs boot_abs (ma_cons (me_var (pv 4)) ma_nil)) (me_pow (me_c pe_int fun _ _ => .int _) (me_c pe_int fun _ _ => .int _)))))) (mps_cons (mp_putD (hu_of hr) (me_var (pv 0)) (me_c pe_str fun _ _ => .str _) (me_fdiv (me_sub (me_cb call_absU pl_abs (fun _ => mono_abs) rfl T.f_abs boot_abs (ma_cons (me_var (pv 4)) ma_nil)) (me_pow (me_c pe_int fun _ _ => .int _) (me_c pe_int fun _ _ => .int _))) (me_var (pv 1))))
  (mps_one (mp_ret (me_mod (me_sub (me_cb call_absU pl_abs (fun _ => mono_abs) rfl T.f_abs boot_abs (ma_cons (me_var (pv 4)) ma_nil)) (me_pow (me_c pe_int fun _ _ => .int _) (me_c pe_int fun _ _ => .int _))) (me_var (pv 1)))))) mps_nil)
  (mps_cons (mp_set (me_add (me_mul (me_mod (me_cty call_int1U pl_int (fun _ => mono_int) rfl T.f_int boot_int (ma_cons (me_var (pv 4)) ma_nil)) (me_c pe_int fun _ _ => .int _)) (me_c pe_int fun _ _ => .int _)) (me_mul (me_mul (me_c pe_int fun _ _ => .int _) (me_var (pv 3))) (me_var (pv 3)))) sc__law_draw.nd rfl (by first | exact Or.inl rfl | exact Or.inr rfl))
  (mps_cons (mp_set (me_mod (me_cty call_int1U pl_int (fun _ => mono_int) rfl T.f_int boot_int (ma_cons (me_add (me_add (me_var (pv 5)) (me_mul (me_c pe_int fun _ _ => .int _) (me_var (pv 3)))) (me_c pe_int fun _ _ => .int _)) ma_nil)) (me_c pe_int fun _ _ => .int _)) sc__law_draw.nd rfl (by first | exact Or.inl rfl | exact Or.inr rfl))
  (mps_cons (mp_set (me_mod (me_cty call_int1U pl_int (fun _ => mono_int) rfl T.f_int boot_int (ma_cons (me_add (me_add (me_add (me_mul (me_var (pv 5)) (me_var (pv 5))) (me_mul (me_c pe_int fun _ _ => .int _) (me_var (pv 5)))) (me_mul (me_c pe_int fun _ _ => .int _) (me_var (pv 3)))) (me_c pe_int fun _ _ => .int _)) ma_nil)) (me_c pe_int fun _ _ => .int _)) sc__law_draw.nd rfl (by first | exact Or.inl rfl | exact Or.inr rfl))
  (mps_cons (mp_set (me_fdiv (me_mod (me_cty call_int1U pl_int (fun _ => mono_int) rfl T.f_int boot_int (ma_cons (me_mul (me_var (pv 5)) (me_add (me_var (pv 5)) (me_c pe_int fun _ _ => .int _))) ma_nil)) (me_c pe_int fun _ _ => .int _)) (me_c pe_int fun _ _ => .int _)) sc__law_draw.nd rfl (by first | exact Or.inl rfl | exact Or.inr rfl))
  (mps_cons (mp_if (mc_gt (me_var (pv 1)) (me_c pe_int fun _ _ => .int _)) (mps_one (mp_set (me_add (me_var (pv 5)) (me_mul (me_c pe_int fun _ _ => .int _) (me_call ih noGd (hr.mono (by omega)) rfl T.g__law_draw T.F__law_draw.kp (b__law_draw T) pass0 (ma_cons (me_var (pv 0)) (ma_cons (me_add (me_fdiv (me_var (pv 1)) (me_c pe_int fun _ _ => .int _)) (me_c pe_int fun _ _ => .int _)) ma_nil))))) sc__law_draw.nd rfl (by first | exact Or.inl rfl | exact Or.inr rfl))) mps_nil)
  (mps_one (mp_ret (me_mod (me_cty call_int1U pl_int (fun _ => mono_int) rfl T.f_int boot_int (ma_cons (me_var (pv 5)) ma_nil)) (me_var (pv 1))))))))))))))))
abbrev ok__law_draw (T : Txt K mg) := okr__law_draw (P := P) (w := w) (base := base) T 6
theorem ok__law_pick (T : Txt K mg) : FnP false P w K mg base CX0 9 (He.ga K "_law_pick") T.fd__law_pick ["_law_pen_here", "_law_options"] (spM (Cl K) 2 f__law_pick) :=
  fnM T.F__law_pick sc__law_pick fun cdv A outer s H E hcd hg hr => (mps_one (mp_ret (me_ix (ix_U (hu_of hr)) (me_var (pv 1)) (me_call (ok__law_draw T) noGd (hr.mono (by omega)) rfl T.g__law_draw T.F__law_draw.kp (b__law_draw T) pass0 (ma_cons (me_var (pv 0)) (ma_cons (me_cb call_lenQ pl_len (fun _ => mono_len) rfl T.f_len boot_len (ma_cons (me_var (pv 1)) ma_nil)) ma_nil))) (fun _ _ => rfl))))
theorem ok__law_shuffled (T : Txt K mg) : FnP false P w K mg base CX0 9 (He.ga K "_law_shuffled") T.fd__law_shuffled ["_law_pen_here", "_law_items"] (spM (Cl K) 2 f__law_shuffled) :=
  fnM T.F__law_shuffled sc__law_shuffled fun cdv A outer s H E hcd hg hr => (mps_cons (mp_par (i := 2) (j := 3) rfl sc__law_shuffled.nd rfl rfl (by decide) rfl rfl (ma_cons (me_cty (call_listU rfl) pl_list (fun _ => mono_list) rfl T.f_list boot_list (ma_cons (me_var (pv 1)) ma_nil)) (ma_cons (me_lst ma_nil) ma_nil)) rfl)
  (mps_cons (mp_while (L2.passes_of rfl) (mc_ne (hu0 hr) (me_var (pv 2)) (me_lst ma_nil)) (mps_one (mp_expr (me_lm PySem.F.slot_list_append PySem.F.type_list_append mt_append lm_append (me_var (pv 3)) (ma_cons (me_lm PySem.F.slot_list_pop PySem.F.type_list_pop mt_popAt lm_popAt (me_var (pv 2)) (ma_cons (me_call (ok__law_draw T) noGd (hr.mono (by omega)) rfl T.g__law_draw T.F__law_draw.kp (b__law_draw T) pass0 (ma_cons (me_var (pv 0)) (ma_cons (me_cb call_lenQ pl_len (fun _ => mono_len) rfl T.f_len boot_len (ma_cons (me_var (pv 2)) ma_nil)) ma_nil))) ma_nil)) ma_nil)))))
  (mps_one (mp_ret (me_var (pv 3))))))
theorem ok__law_font (T : Txt K mg) : FnP false P w K mg base CX0 10 (He.ga K "_law_font") T.fd__law_font ["_law_pen_here", "_law_most"] (spM (Cl K) 2 f__law_font) :=
  fnM T.F__law_font sc__law_font fun cdv A outer s H E hcd hg hr => (mps_cons (mp_set (me_add (me_c pe_int fun _ _ => .int _) (me_call (ok__law_draw T) noGd (hr.mono (by omega)) rfl T.g__law_draw T.F__law_draw.kp (b__law_draw T) pass0 (ma_cons (me_var (pv 0)) (ma_cons (me_sub (me_var (pv 1)) (me_c pe_int fun _ _ => .int _)) ma_nil)))) sc__law_font.nd rfl (by first | exact Or.inl rfl | exact Or.inr rfl))
  (mps_cons (mp_set (me_call (ok__law_pick T) noGd (hr.mono (by omega)) rfl T.g__law_pick T.F__law_pick.kp (b__law_pick T) pass0 (ma_cons (me_var (pv 0)) (ma_cons (me_lst (ma_cons (me_c pe_str fun _ _ => .str _) (ma_cons (me_c pe_str fun _ _ => .str _) (ma_cons (me_c pe_str fun _ _ => .str _) (ma_cons (me_c pe_str fun _ _ => .str _) ma_nil))))) ma_nil))) sc__law_font.nd rfl (by first | exact Or.inl rfl | exact Or.inr rfl))
  (mps_cons (mp_set (ME.of (pe_m1 PySem.F.slot_str_join PySem.F.type_str_join mt_joinU pe_sem pe_sem) (mt_sm pm_join (me_c pe_str fun _ _ => .str _) (me_slice (me_call (ok__law_shuffled T) noGd (hr.mono (by omega)) rfl T.g__law_shuffled T.F__law_shuffled.kp (b__law_shuffled T) pass0 (ma_cons (me_var (pv 0)) (ma_cons (me_slice (me_var (pv 3)) mpt_none (mpt_some (me_c pe_int fun _ _ => .int _))) ma_nil))) mpt_none (mpt_some (me_var (pv 2)))))) sc__law_font.nd rfl (by first | exact Or.inl rfl | exact Or.inr rfl))
  (mps_cons (mp_par (i := 5) (j := 6) rfl sc__law_font.nd rfl rfl (by decide) rfl rfl (ma_cons (me_call (ok__law_shuffled T) noGd (hr.mono (by omega)) rfl T.g__law_shuffled T.F__law_shuffled.kp (b__law_shuffled T) pass0 (ma_cons (me_var (pv 0)) (ma_cons (me_var (pv 4)) ma_nil))) (ma_cons (me_lst ma_nil) ma_nil)) rfl)
  (mps_cons (mp_while (L2.passes_of rfl) (mc_ne (hu0 hr) (me_var (pv 5)) (me_lst ma_nil)) (mps_cons (mp_par (i := 7) (j := 8) rfl sc__law_font.nd rfl rfl (by decide) rfl rfl (ma_cons (me_lm0 PySem.F.slot_list_pop PySem.F.type_list_pop mt_pop lm_pop (me_var (pv 5))) (ma_cons (me_call (ok__law_draw T) noGd (hr.mono (by omega)) rfl T.g__law_draw T.F__law_draw.kp (b__law_draw T) pass0 (ma_cons (me_var (pv 0)) (ma_cons (me_c pe_int fun _ _ => .int _) ma_nil))) ma_nil)) rfl)
  (mps_cons (mp_if (mc_eq (hu0 hr) (me_var (pv 8)) (me_c pe_int fun _ _ => .int _)) (mps_one (mp_expr (me_lm PySem.F.slot_list_append PySem.F.type_list_append mt_append lm_append (me_var (pv 6)) (ma_cons (me_tup (ma_cons (me_frz (me_var (pv 7))) (ma_cons (me_frz (me_var (pv 7))) ma_nil))) ma_nil)))) mps_nil)
  (mps_one (mp_if (MW.c (mw_and (mc_eq (hu0 hr) (me_var (pv 8)) (me_c pe_int fun _ _ => .int _)) (mw_and1 (mc_ne (hu0 hr) (me_var (pv 5)) (me_lst ma_nil))))) (mps_one (mp_expr (me_lm PySem.F.slot_list_append PySem.F.type_list_append mt_append lm_append (me_var (pv 6)) (ma_cons (me_tup (ma_cons (me_frz (me_var (pv 7))) (ma_cons (me_frz (me_lm0 PySem.F.slot_list_pop PySem.F.type_list_pop mt_pop lm_pop (me_var (pv 5)))) ma_nil))) ma_nil)))) mps_nil)))))
  (mps_one (mp_ret (me_tup (ma_cons (me_frz (me_var (pv 4))) (ma_cons (me_frz (me_var (pv 6))) ma_nil))))))))))
theorem ok__law_kinds (T : Txt K mg) : FnP false P w K mg base CX0 1 (He.ga K "_law_kinds") T.fd__law_kinds ["_law_signs"] (spM (Cl K) 1 f__law_kinds) :=
  fnM T.F__law_kinds sc__law_kinds fun cdv A outer s H E hcd hg hr => (mps_cons (mp_set (me_lst ma_nil) sc__law_kinds.nd rfl (by first | exact Or.inl rfl | exact Or.inr rfl))
  (mps_cons (mp_for (L2.passes_of rfl) rfl (mi_rng1 (by exact rfl) T.f_range (ma_cons (me_cb call_lenQ pl_len (fun _ => mono_len) rfl T.f_len boot_len (ma_cons (me_var (pv 0)) ma_nil)) ma_nil)) (mg_name (i := 2) sc__law_kinds.nd rfl (by first | exact Or.inl rfl | exact Or.inr rfl)) (mps_one (mp_expr (me_lm PySem.F.slot_list_extend PySem.F.type_list_extend mt_extend lm_ext (me_var (pv 1)) (ma_cons (me_comp (own := [("_law_side", 3)]) rfl sc__law_kinds.nd (mi_str (me_add (me_slice (me_var (pv 0)) (mpt_some (me_var (pv 2))) mpt_none) (me_c pe_str fun _ _ => .str _))) (show BlkOk ["_law_signs", "_law_found", "_law_k", "_law_side"] (defScope s__law_kinds) _ [("_law_side", 3)] from ⟨rfl, by decide +kernel, by decide +kernel, by decide +kernel, by decide +kernel⟩) (mgb_name (fun _ _ _ _ _ => pg_name (i := 3) sc__law_kinds.nd rfl (by first | exact Or.inl rfl | exact Or.inr rfl)) (by decide)) mt_bT0 (fun _ _ _ _ _ => (me_add (me_ix (ix_U (hu_of hr)) (me_var (pv 0)) (me_var (pv 2)) (fun _ _ => rfl)) (me_var (pv 3))))) ma_nil)))))
  (mps_one (mp_ret (me_var (pv 1))))))
theorem ok_is_font_text (T : Txt K mg) : FnP false P w K mg base CX0 1 (He.ga K "is_font_text") T.fd_is_font_text ["value", "most"] (spM (Cl K) 2 f_is_font_text) :=
  fnM T.F_is_font_text sc_is_font_text fun cdv A outer s H E hcd hg hr => (mps_cons (mp_if (MW.c (mw_or (mc_not (mc_v (me_isi (n := "str") (pe_bltn (v := .ty "str") rfl T.f_str boot_str rfl) (by decide) rfl T.f_isinstance boot_isinstance (me_var (pv 0))))) (mw_or1 (mc_not (mc_chLL (me_c (pe_glob (v := .int (2)) rfl T.c_LEAST_SIGNS.choose_spec ⟨_, rfl⟩) fun _ _ => .int _) (me_cb call_lenQ pl_len (fun _ => mono_len) rfl T.f_len boot_len (ma_cons (me_var (pv 0)) ma_nil)) (me_var (pv 1))))))) (mps_one (mp_ret (me_c pe_bl fun _ _ => .bl _))) mps_nil)
  (mps_one (mp_ret (me_andV (me_cb (call_allU rfl) pl_all (fun _ => mono_all) rfl T.f_all boot_all (ma_cons (me_comp (own := [("sign", 2)]) rfl sc_is_font_text.nd (mi_str (me_var (pv 0))) (show BlkOk ["value", "most", "sign"] (defScope s_is_font_text) _ [("sign", 2)] from ⟨rfl, by decide +kernel, by decide +kernel, by decide +kernel, by decide +kernel⟩) (mgb_name (fun _ _ _ _ _ => pg_name (i := 2) sc_is_font_text.nd rfl (by first | exact Or.inl rfl | exact Or.inr rfl)) (by decide)) mt_bT0 (fun _ _ _ _ _ => (me_in (hu_of hr) (me_var (pv 2)) (me_c (pe_glob (v := .str "0123456789abcdefghijklmnopqrstuvwxyz") rfl T.c_SIGNS.choose_spec ⟨_, rfl⟩) fun _ _ => .str _)))) ma_nil)) (me_one (me_eq (hu0 hr) (me_lensetS (i := 2) rfl sc_is_font_text.nd (me_var (pv 0)) (show BlkOk ["value", "most", "sign"] (defScope s_is_font_text) _ [("sign", 2)] from ⟨rfl, by decide +kernel, by decide +kernel, by decide +kernel, by decide +kernel⟩) (fun _ _ _ _ _ => pg_name (i := 2) sc_is_font_text.nd rfl (by first | exact Or.inl rfl | exact Or.inr rfl)) (fun _ _ _ _ _ => pv 2) (show (2 : Nat) < 3 by decide) rfl T.f_len) (me_cb call_lenQ pl_len (fun _ => mono_len) rfl T.f_len boot_len (ma_cons (me_var (pv 0)) ma_nil))))))))
theorem ok_is_list (T : Txt K mg) : FnP false P w K mg base CX0 1 (He.ga K "is_list") T.fd_is_list ["value"] (spM (Cl K) 1 f_is_list) :=
  fnM T.F_is_list sc_is_list fun cdv A outer s H E hcd hg hr => (mps_one (mp_ret (me_isiT (ns := ["list", "tuple"]) (cs := [.ty "list", .ty "tuple"]) (pa_cons (pe_bltn (v := .ty "list") rfl T.f_list boot_list rfl) (pa_cons (pe_bltn (v := .ty "tuple") rfl T.f_tuple boot_tuple rfl) pa_nil)) (fun _ _ _ q => q) rfl (by decide) (by decide) rfl T.f_isinstance boot_isinstance (me_var (pv 0)))))
theorem ok_is_tuple_of (T : Txt K mg) : FnP false P w K mg base CX0 1 (He.ga K "is_tuple_of") T.fd_is_tuple_of ["value", "size"] (spM (Cl K) 2 f_is_tuple_of) :=
  fnM T.F_is_tuple_of sc_is_tuple_of fun cdv A outer s H E hcd hg hr => (mps_one (mp_ret (me_andV (me_isi (n := "tuple") (pe_bltn (v := .ty "tuple") rfl T.f_tuple boot_tuple rfl) (by decide) rfl T.f_isinstance boot_isinstance (me_var (pv 0))) (me_one (me_eq (hu0 hr) (me_cb call_lenQ pl_len (fun _ => mono_len) rfl T.f_len boot_len (ma_cons (me_var (pv 0)) ma_nil)) (me_var (pv 1)))))))
theorem ok_are_turns (T : Txt K mg) : FnP false P w K mg base CX0 2 (He.ga K "are_turns") T.fd_are_turns ["value", "ranks"] (spM (Cl K) 2 f_are_turns) :=
  fnM T.F_are_turns sc_are_turns fun cdv A outer s H E hcd hg hr => (mps_cons (mp_if (mc_not (mc_v (me_call (ok_is_list T) noGd (hr.mono (by omega)) rfl T.g_is_list T.F_is_list.kp (b_is_list T) pass0 (ma_cons (me_var (pv 0)) ma_nil)))) (mps_one (mp_ret (me_c pe_bl fun _ _ => .bl _))) mps_nil)
  (mps_cons (mp_set (me_lst ma_nil) sc_are_turns.nd rfl (by first | exact Or.inl rfl | exact Or.inr rfl))
  (mps_cons (mp_for (L2.passes_of rfl) rfl (mi_seq (me_var (pv 0))) (mg_name (i := 3) sc_are_turns.nd rfl (by first | exact Or.inl rfl | exact Or.inr rfl)) (mps_cons (mp_if (MW.c (mw_or (mc_not (mc_v (me_call (ok_is_tuple_of T) noGd (hr.mono (by omega)) rfl T.g_is_tuple_of T.F_is_tuple_of.kp (b_is_tuple_of T) pass0 (ma_cons (me_var (pv 3)) (ma_cons (me_c pe_int fun _ _ => .int _) ma_nil))))) (mw_or1 (mc_not (mc_v (me_cb (call_allU rfl) pl_all (fun _ => mono_all) rfl T.f_all boot_all (ma_cons (me_comp (own := [("sign", 4)]) rfl sc_are_turns.nd (mi_tup (me_var (pv 3))) (show BlkOk ["value", "ranks", "seen", "pair", "sign"] (defScope s_are_turns) _ [("sign", 4)] from ⟨rfl, by decide +kernel, by decide +kernel, by decide +kernel, by decide +kernel⟩) (mgb_name (fun _ _ _ _ _ => pg_name (i := 4) sc_are_turns.nd rfl (by first | exact Or.inl rfl | exact Or.inr rfl)) (by decide)) mt_bT0 (fun _ _ _ _ _ => (me_andV (me_isi (n := "str") (pe_bltn (v := .ty "str") rfl T.f_str boot_str rfl) (by decide) rfl T.f_isinstance boot_isinstance (me_var (pv 4))) (me_one (me_in (hu_of hr) (me_var (pv 4)) (me_var (pv 1))))))) ma_nil))))))) (mps_one (mp_ret (me_c pe_bl fun _ _ => .bl _))) mps_nil)
  (mps_one (mp_expr (me_lm PySem.F.slot_list_extend PySem.F.type_list_extend mt_extend lm_ext (me_var (pv 2)) (ma_cons (me_comp (own := [("sign", 4)]) rfl sc_are_turns.nd (mi_keys (me_var (pv 1))) (show BlkOk ["value", "ranks", "seen", "pair", "sign"] (defScope s_are_turns) _ [("sign", 4)] from ⟨rfl, by decide +kernel, by decide +kernel, by decide +kernel, by decide +kernel⟩) (mgb_name (fun _ _ _ _ _ => pg_name (i := 4) sc_are_turns.nd rfl (by first | exact Or.inl rfl | exact Or.inr rfl)) (by decide)) (mt_bT1 (fun _ _ _ _ _ => (mc_in (hu_of hr) (me_var (pv 4)) (me_var (pv 3))))) (fun _ _ _ _ _ => (me_var (pv 4)))) ma_nil))))))
  (mps_one (mp_ret (me_eq (hu0 hr) (me_lensetS (i := 4) rfl sc_are_turns.nd (me_var (pv 2)) (show BlkOk ["value", "ranks", "seen", "pair", "sign"] (defScope s_are_turns) _ [("sign", 4)] from ⟨rfl, by decide +kernel, by decide +kernel, by decide +kernel, by decide +kernel⟩) (fun _ _ _ _ _ => pg_name (i := 4) sc_are_turns.nd rfl (by first | exact Or.inl rfl | exact Or.inr rfl)) (fun _ _ _ _ _ => pv 4) (show (4 : Nat) < 5 by decide) rfl T.f_len) (me_cb call_lenQ pl_len (fun _ => mono_len) rfl T.f_len boot_len (ma_cons (me_var (pv 2)) ma_nil))))))))
theorem ok_Font_ddinitdd (T : Txt K mg) : FnP false P w K mg base (L2.CX P w) 3 (He.ma K (He.ga K "Font") "__init__") T.fd_Font_ddinitdd ["self", "signs", "turns"] (spM (Cl K) 3 f_Font_ddinitdd) :=
  fnM T.F_Font_ddinitdd sc_Font_ddinitdd fun cdv A outer s H E hcd hg hr => (mps_cons (mp_if (mc_not (mc_v (me_call (ok_is_font_text T) noGd (hr.mono (by omega)) rfl T.g_is_font_text T.F_is_font_text.kp (b_is_font_text T) pass0 (ma_cons (me_var (pv 1)) (ma_cons (me_con (c := "Font") (d := .int 10) T.cls_Font T.co_Font_MAX_SIGNS rfl (me_var (pv 0))) ma_nil))))) (mps_one (mp_raiseK (c := "InvalidFont") rfl (takes_of rfl rfl rfl rfl) T.rc_InvalidFont (ok_InvalidFont_ddinitdd T) (hr.mono (by omega)) (b_InvalidFont_ddinitdd T) pass0 rfl T.g_InvalidFont (me_var (pv 1)))) mps_nil)
  (mps_cons (mp_fld (c := "Font") T.cls_Font T.na_Font_word (me_var (pv 0)) (me_var (pv 1)))
  (mps_cons (mp_fld (c := "Font") T.cls_Font T.na_Font_ranks (me_var (pv 0)) (me_dcomp (own := [("rank", 5), ("sign", 6)]) rfl sc_Font_ddinitdd.nd (mi_enumS (by exact rfl) T.f_enumerate (ma_cons (me_var (pv 1)) ma_nil)) (show BlkOk ["self", "signs", "turns", "one", "other", "rank", "sign"] (defScope s_Font_ddinitdd) _ [("rank", 5), ("sign", 6)] from ⟨rfl, by decide +kernel, by decide +kernel, by decide +kernel, by decide +kernel⟩) (mgb_tup (n := 2) (mgsb_cons (mgb_name (fun _ _ _ _ _ => pg_name (i := 5) sc_Font_ddinitdd.nd rfl (by first | exact Or.inl rfl | exact Or.inr rfl)) (by decide)) (mgsb_cons (mgb_name (fun _ _ _ _ _ => pg_name (i := 6) sc_Font_ddinitdd.nd rfl (by first | exact Or.inl rfl | exact Or.inr rfl)) (by decide)) mgsb_nil)) (len_cons (len_cons len_nil)) (fun _ _ _ _ _ => rfl)) mt_bT0 (fun _ _ _ _ _ => (me_var (pv 6))) (fun _ _ _ _ _ => (me_var (pv 5)))))
  (mps_cons (mp_if (mc_not (mc_v (me_call (ok_are_turns T) noGd (hr.mono (by omega)) rfl T.g_are_turns T.F_are_turns.kp (b_are_turns T) pass0 (ma_cons (me_var (pv 2)) (ma_cons (me_fld (c := "Font") T.cls_Font T.na_Font_ranks (me_var (pv 0))) ma_nil))))) (mps_one (mp_raiseK (c := "InvalidTurns") rfl (takes_of rfl rfl rfl rfl) T.rc_InvalidTurns (ok_InvalidTurns_ddinitdd T) (hr.mono (by omega)) (b_InvalidTurns_ddinitdd T) pass0 rfl T.g_InvalidTurns (me_var (pv 2)))) mps_nil)
  (mps_cons (mp_fld (c := "Font") T.cls_Font T.na_Font_heads (me_var (pv 0)) me_dnew)
  (mps_one (mp_for (L2.passes_of rfl) rfl (mi_seq (me_var (pv 2))) (mg_tup (n := 2) rfl (mgs_cons (mg_name (i := 3) sc_Font_ddinitdd.nd rfl (by first | exact Or.inl rfl | exact Or.inr rfl)) (mgs_cons (mg_name (i := 4) sc_Font_ddinitdd.nd rfl (by first | exact Or.inl rfl | exact Or.inr rfl)) mgs_nil)) (len_cons (len_cons len_nil))) (mps_cons (mp_putD (hu_of hr) (me_fld (c := "Font") T.cls_Font T.na_Font_heads (me_var (pv 0))) (me_var (pv 3)) (me_var (pv 4)))
  (mps_one (mp_putD (hu_of hr) (me_fld (c := "Font") T.cls_Font T.na_Font_heads (me_var (pv 0))) (me_var (pv 4)) (me_var (pv 3))))))))))))
theorem ok__law_flipped (T : Txt K mg) : FnP false P w K mg base CX0 10 (He.ga K "_law_flipped") T.fd__law_flipped ["_law_pen_here", "_law_pair"] (spM (Cl K) 2 f__law_flipped) :=
  fnM T.F__law_flipped sc__law_flipped fun cdv A outer s H E hcd hg hr => (mps_one (mp_ret (me_call (ok__law_pick T) noGd (hr.mono (by omega)) rfl T.g__law_pick T.F__law_pick.kp (b__law_pick T) pass0 (ma_cons (me_var (pv 0)) (ma_cons (me_lst (ma_cons (me_var (pv 1)) (ma_cons (me_revU (me_var (pv 1))) ma_nil))) ma_nil)))))
theorem ok__law_font_made (T : Txt K mg) : FnP false P w K mg base (L2.CX P w) 11 (He.ga K "_law_font_made") T.fd__law_font_made ["_law_pen_here", "_law_font_here"] (spM (Cl K) 2 f__law_font_made) :=
  fnM T.F__law_font_made sc__law_font_made fun cdv A outer s H E hcd hg hr => (mps_one (mp_ret (me_frz (me_make (c := "Font") T.mk_Font (ok_Font_ddinitdd T) noGd (hr.mono (by omega)) rfl T.g_Font (b_Font_ddinitdd T) passX (ma_cons (me_ix (ix_U (hu_of hr)) (me_var (pv 1)) (me_c pe_int fun _ _ => .int _) (fun _ _ => rfl)) (ma_cons (me_frz (me_comp (own := [("_law_pair", 2)]) rfl sc__law_font_made.nd (mi_list (me_call (ok__law_shuffled T) noGd (hr.mono (by omega)) rfl T.g__law_shuffled T.F__law_shuffled.kp (b__law_shuffled T) pass0 (ma_cons (me_var (pv 0)) (ma_cons (me_ix (ix_U (hu_of hr)) (me_var (pv 1)) (me_c pe_int fun _ _ => .int _) (fun _ _ => rfl)) ma_nil)))) (show BlkOk ["_law_pen_here", "_law_font_here", "_law_pair"] (defScope s__law_font_made) _ [("_law_pair", 2)] from ⟨rfl, by decide +kernel, by decide +kernel, by decide +kernel, by decide +kernel⟩) (mgb_name (fun _ _ _ _ _ => pg_name (i := 2) sc__law_font_made.nd rfl (by first | exact Or.inl rfl | exact Or.inr rfl)) (by decide)) mt_bT0 (fun _ _ _ _ _ => (me_call (ok__law_flipped T) noGd (hr.mono (by omega)) rfl T.g__law_flipped T.F__law_flipped.kp (b__law_flipped T) pass0 (ma_cons (me_var (pv 0)) (ma_cons (me_var (pv 2)) ma_nil)))))) ma_nil))))))
theorem ok__law_is_kind (T : Txt K mg) : FnP false P w K mg base CX0 1 (He.ga K "_law_is_kind") T.fd__law_is_kind ["_law_signs", "_law_value"] (spM (Cl K) 2 f__law_is_kind) :=
  fnM T.F__law_is_kind sc__law_is_kind fun cdv A outer s H E hcd hg hr => (mps_cons (mp_if (MW.c (mw_or (mc_not (mc_v (me_isi (n := "str") (pe_bltn (v := .ty "str") rfl T.f_str boot_str rfl) (by decide) rfl T.f_isinstance boot_isinstance (me_var (pv 1))))) (mw_or (mc_ne (hu0 hr) (me_cb call_lenQ pl_len (fun _ => mono_len) rfl T.f_len boot_len (ma_cons (me_var (pv 1)) ma_nil)) (me_c pe_int fun _ _ => .int _)) (mw_or1 (mc_eq (hu0 hr) (me_var (pv 1)) (me_c pe_str fun _ _ => .str _)))))) (mps_one (mp_ret (me_c pe_bl fun _ _ => .bl _))) mps_nil)
  (mps_one (mp_ret (me_eq (hu0 hr) (me_comp (own := [("_law_side", 2)]) rfl sc__law_is_kind.nd (mi_str (me_var (pv 1))) (show BlkOk ["_law_signs", "_law_value", "_law_side"] (defScope s__law_is_kind) _ [("_law_side", 2)] from ⟨rfl, by decide +kernel, by decide +kernel, by decide +kernel, by decide +kernel⟩) (mgb_name (fun _ _ _ _ _ => pg_name (i := 2) sc__law_is_kind.nd rfl (by first | exact Or.inl rfl | exact Or.inr rfl)) (by decide)) (mt_bT1 (fun _ _ _ _ _ => (MW.c (mw_and (mc_ne (hu0 hr) (me_var (pv 2)) (me_c pe_str fun _ _ => .str _)) (mw_and1 (mc_nin (hu_of hr) (me_var (pv 2)) (me_var (pv 0)))))))) (fun _ _ _ _ _ => (me_var (pv 2)))) (me_lst ma_nil)))))
theorem ok__law_odd (T : Txt K mg) : FnP false P w K mg base CX0 10 (He.ga K "_law_odd") T.fd__law_odd ["_law_pen_here"] (spM (Cl K) 1 f__law_odd) :=
  fnM T.F__law_odd sc__law_odd fun cdv A outer s H E hcd hg hr => (mps_cons (mp_set (me_lst (ma_cons (me_c pe_non fun _ _ => .non) (ma_cons (me_c pe_bl fun _ _ => .bl _) (ma_cons (me_c pe_bl fun _ _ => .bl _) (ma_cons (me_c pe_int fun _ _ => .int _) (ma_cons (me_c pe_int fun _ _ => .int _) (ma_cons (me_neg (me_c pe_int fun _ _ => .int _)) (ma_cons (me_c pe_int fun _ _ => .int _) (ma_cons (me_c pe_int fun _ _ => .int _) (ma_cons (me_pow (me_c pe_int fun _ _ => .int _) (me_c pe_int fun _ _ => .int _)) (ma_cons (me_add (me_pow (me_c pe_int fun _ _ => .int _) (me_c pe_int fun _ _ => .int _)) (me_c pe_int fun _ _ => .int _)) (ma_cons (me_mul (me_pow (me_c pe_int fun _ _ => .int _) (me_c pe_int fun _ _ => .int _)) (me_pow (me_c pe_int fun _ _ => .int _) (me_c pe_int fun _ _ => .int _))) (ma_cons (me_c pe_str fun _ _ => .str _) (ma_cons (me_c pe_str fun _ _ => .str _) (ma_cons (me_c pe_str fun _ _ => .str _) (ma_cons (me_c pe_str fun _ _ => .str _) (ma_cons (me_c pe_str fun _ _ => .str _) (ma_cons (me_c pe_str fun _ _ => .str _) ma_nil)))))))))))))))))) sc__law_odd.nd rfl (by first | exact Or.inl rfl | exact Or.inr rfl))
  (mps_cons (mp_set (me_add (me_var (pv 1)) (me_lst (ma_cons (me_c pe_str fun _ _ => .str _) (ma_cons (me_c pe_str fun _ _ => .str _) (ma_cons (me_c pe_str fun _ _ => .str _) (ma_cons (me_tup ma_nil) (ma_cons (me_frz (me_lst ma_nil)) (ma_cons (me_frz me_dnew) (ma_cons (me_tup (ma_cons (me_c pe_str fun _ _ => .str _) ma_nil)) (ma_cons (me_frz (me_lst (ma_cons (me_c pe_str fun _ _ => .str _) ma_nil))) (ma_cons (me_frz (me_dOne (k := (.inr "a")) (d := (.int 1)) pe_str pe_int rfl)) (ma_cons (me_tup (ma_cons (me_c pe_str fun _ _ => .str _) (ma_cons (me_c pe_str fun _ _ => .str _) ma_nil))) (ma_cons (me_tup (ma_cons (me_c pe_str fun _ _ => .str _) (ma_cons (me_c pe_int fun _ _ => .int _) ma_nil))) (ma_cons (me_frz (me_lst (ma_cons (me_tup (ma_cons (me_c pe_str fun _ _ => .str _) (ma_cons (me_c pe_int fun _ _ => .int _) ma_nil))) ma_nil))) (ma_cons (me_c pe_str fun _ _ => .str _) ma_nil))))))))))))))) sc__law_odd.nd rfl (by first | exact Or.inl rfl | exact Or.inr rfl))
  (mps_one (mp_ret (me_call (ok__law_pick T) noGd (hr.mono (by omega)) rfl T.g__law_pick T.F__law_pick.kp (b__law_pick T) pass0 (ma_cons (me_var (pv 0)) (ma_cons (me_var (pv 1)) ma_nil)))))))
theorem ok_Font_normal (T : Txt K mg) : FnP false P w K mg base CX0 1 (He.ma K (He.ga K "Font") "normal") T.fd_Font_normal ["self", "kind"] (spM (Cl K) 2 f_Font_normal) :=
  fnM T.F_Font_normal sc_Font_normal fun cdv A outer s H E hcd hg hr => (mps_cons (mp_to (me_var (pv 1)) (mg_tupS rfl (mgs_cons (mg_name (i := 2) sc_Font_normal.nd rfl (by first | exact Or.inl rfl | exact Or.inr rfl)) (mgs_cons (mg_name (i := 3) sc_Font_normal.nd rfl (by first | exact Or.inl rfl | exact Or.inr rfl)) mgs_nil))))
  (mps_cons (mp_if (MW.c (mw_or (mc_eq (hu0 hr) (me_var (pv 2)) (me_c (pe_glob (v := .str "-") rfl T.c_BLANK.choose_spec ⟨_, rfl⟩) fun _ _ => .str _)) (mw_or1 (MW.c (mw_and (mc_ne (hu0 hr) (me_var (pv 3)) (me_c (pe_glob (v := .str "-") rfl T.c_BLANK.choose_spec ⟨_, rfl⟩) fun _ _ => .str _)) (mw_and1 (mc_lt (me_ix (ix_U (hu_of hr)) (me_fld (c := "Font") T.cls_Font T.na_Font_ranks (me_var (pv 0))) (me_var (pv 3)) (fun _ _ => rfl)) (me_ix (ix_U (hu_of hr)) (me_fld (c := "Font") T.cls_Font T.na_Font_ranks (me_var (pv 0))) (me_var (pv 2)) (fun _ _ => rfl))))))))) (mps_one (mp_ret (me_add (me_var (pv 3)) (me_var (pv 2))))) mps_nil)
  (mps_one (mp_ret (me_var (pv 1))))))
theorem ok_is_kind (T : Txt K mg) : FnP false P w K mg base CX0 1 (He.ga K "is_kind") T.fd_is_kind ["font", "value"] (spM (Cl K) 2 f_is_kind) :=
  fnM T.F_is_kind sc_is_kind fun cdv A outer s H E hcd hg hr => (mps_cons (mp_if (MW.c (mw_or (mc_not (mc_v (me_isi (n := "str") (pe_bltn (v := .ty "str") rfl T.f_str boot_str rfl) (by decide) rfl T.f_isinstance boot_isinstance (me_var (pv 1))))) (mw_or (mc_ne (hu0 hr) (me_cb call_lenQ pl_len (fun _ => mono_len) rfl T.f_len boot_len (ma_cons (me_var (pv 1)) ma_nil)) (me_c pe_int fun _ _ => .int _)) (mw_or1 (mc_eq (hu0 hr) (me_var (pv 1)) (me_mul (me_c (pe_glob (v := .str "-") rfl T.c_BLANK.choose_spec ⟨_, rfl⟩) fun _ _ => .str _) (me_c pe_int fun _ _ => .int _))))))) (mps_one (mp_ret (me_c pe_bl fun _ _ => .bl _))) mps_nil)
  (mps_one (mp_ret (me_cb (call_allU rfl) pl_all (fun _ => mono_all) rfl T.f_all boot_all (ma_cons (me_comp (own := [("side", 2)]) rfl sc_is_kind.nd (mi_str (me_var (pv 1))) (show BlkOk ["font", "value", "side"] (defScope s_is_kind) _ [("side", 2)] from ⟨rfl, by decide +kernel, by decide +kernel, by decide +kernel, by decide +kernel⟩) (mgb_name (fun _ _ _ _ _ => pg_name (i := 2) sc_is_kind.nd rfl (by first | exact Or.inl rfl | exact Or.inr rfl)) (by decide)) mt_bT0 (fun _ _ _ _ _ => (me_orV (me_eq (hu0 hr) (me_var (pv 2)) (me_c (pe_glob (v := .str "-") rfl T.c_BLANK.choose_spec ⟨_, rfl⟩) fun _ _ => .str _)) (me_one (me_in (hu_of hr) (me_var (pv 2)) (me_fld (c := "Font") T.cls_Font T.na_Font_ranks (me_var (pv 0)))))))) ma_nil)))))
theorem ok_need_kind (T : Txt K mg) : FnP false P w K mg base (L2.CX P w) 3 (He.ga K "need_kind") T.fd_need_kind ["font", "value"] (spM (Cl K) 2 f_need_kind) :=
  fnM T.F_need_kind sc_need_kind fun cdv A outer s H E hcd hg hr => (mps_cons (mp_if (mc_not (mc_v (me_call (ok_is_kind T) noGd (hr.mono (by omega)) rfl T.g_is_kind T.F_is_kind.kp (b_is_kind T) pass0 (ma_cons (me_var (pv 0)) (ma_cons (me_var (pv 1)) ma_nil))))) (mps_one (mp_raiseK (c := "InvalidKind") rfl (takes_of rfl rfl rfl rfl) T.rc_InvalidKind (ok_InvalidKind_ddinitdd T) (hr.mono (by omega)) (b_InvalidKind_ddinitdd T) pass0 rfl T.g_InvalidKind (me_var (pv 1)))) mps_nil)
  (mps_one (mp_ret (me_meth (c := "Font") (me_var (pv 0)) T.cls_Font T.me_Font_normal (ok_Font_normal T) noGd (hr.mono (by omega)) (b_Font_normal T) pass0 (ma_cons (me_var (pv 1)) ma_nil)))))
theorem ok_Font_kept (T : Txt K mg) : FnP false P w K mg base (L2.CX P w) 4 (He.ma K (He.ga K "Font") "kept") T.fd_Font_kept ["self", "kind"] (spM (Cl K) 2 f_Font_kept) :=
  fnM T.F_Font_kept sc_Font_kept fun cdv A outer s H E hcd hg hr => (mps_one (mp_ret (me_call (ok_need_kind T) noGd (hr.mono (by omega)) rfl T.g_need_kind T.F_need_kind.kp (b_need_kind T) passX (ma_cons (me_var (pv 0)) (ma_cons (me_var (pv 1)) ma_nil)))))
theorem ok_Font_ascending (T : Txt K mg) : FnP false P w K mg base CX0 1 (He.ma K (He.ga K "Font") "ascending") T.fd_Font_ascending ["self", "signs"] (spM (Cl K) 2 f_Font_ascending) :=
  fnM T.F_Font_ascending sc_Font_ascending fun cdv A outer s H E hcd hg hr => (mps_one (mp_ret (ME.of (pe_m1 PySem.F.slot_str_join PySem.F.type_str_join mt_joinU pe_sem pe_sem) (mt_sm pm_join (me_c pe_str fun _ _ => .str _) (me_comp (own := [("sign", 2)]) rfl sc_Font_ascending.nd (mi_str (me_fld (c := "Font") T.cls_Font T.na_Font_word (me_var (pv 0)))) (show BlkOk ["self", "signs", "sign"] (defScope s_Font_ascending) _ [("sign", 2)] from ⟨rfl, by decide +kernel, by decide +kernel, by decide +kernel, by decide +kernel⟩) (mgb_name (fun _ _ _ _ _ => pg_name (i := 2) sc_Font_ascending.nd rfl (by first | exact Or.inl rfl | exact Or.inr rfl)) (by decide)) (mt_bT1 (fun _ _ _ _ _ => (mc_in (hu_of hr) (me_var (pv 2)) (me_var (pv 1))))) (fun _ _ _ _ _ => (me_var (pv 2))))))))
theorem ok_Font_seen (T : Txt K mg) : FnP false P w K mg base CX0 2 (He.ma K (He.ga K "Font") "seen") T.fd_Font_seen ["self", "kind"] (spM (Cl K) 2 f_Font_seen) :=
  fnM T.F_Font_seen sc_Font_seen fun cdv A outer s H E hcd hg hr => (mps_cons (mp_setC (own := [("side", 3)]) (i := 2) rfl sc_Font_seen.nd rfl rfl rfl (mi_str (me_var (pv 1))) (show BlkOk ["self", "kind", "sides", "side"] (defScope s_Font_seen) _ [("side", 3)] from ⟨rfl, by decide +kernel, by decide +kernel, by decide +kernel, by decide +kernel⟩) (mgb_name (fun _ _ _ _ _ => pg_name (i := 3) sc_Font_seen.nd rfl (by first | exact Or.inl rfl | exact Or.inr rfl)) (by decide)) (mt_bT1 (fun _ _ _ _ _ => (mc_ne (hu0 hr) (me_var (pv 3)) (me_c (pe_glob (v := .str "-") rfl T.c_BLANK.choose_spec ⟨_, rfl⟩) fun _ _ => .str _)))) (fun _ _ _ _ _ => (me_var (pv 3))))
  (mps_one (mp_ret (me_meth (c := "Font") (me_var (pv 0)) T.cls_Font T.me_Font_ascending (ok_Font_ascending T) noGd (hr.mono (by omega)) (b_Font_ascending T) pass0 (ma_cons (me_add (me_var (pv 2)) (me_comp (own := [("side", 3)]) rfl sc_Font_seen.nd (mi_list (me_var (pv 2))) (show BlkOk ["self", "kind", "sides", "side"] (defScope s_Font_seen) _ [("side", 3)] from ⟨rfl, by decide +kernel, by decide +kernel, by decide +kernel, by decide +kernel⟩) (mgb_name (fun _ _ _ _ _ => pg_name (i := 3) sc_Font_seen.nd rfl (by first | exact Or.inl rfl | exact Or.inr rfl)) (by decide)) (mt_bT1 (fun _ _ _ _ _ => (mc_in (hu_of hr) (me_var (pv 3)) (me_fld (c := "Font") T.cls_Font T.na_Font_heads (me_var (pv 0)))))) (fun _ _ _ _ _ => (me_ix (ix_U (hu_of hr)) (me_fld (c := "Font") T.cls_Font T.na_Font_heads (me_var (pv 0))) (me_var (pv 3)) (fun _ _ => rfl))))) ma_nil)))))
theorem ok_Font_shown (T : Txt K mg) : FnP false P w K mg base (L2.CX P w) 4 (He.ma K (He.ga K "Font") "shown") T.fd_Font_shown ["self", "kind"] (spM (Cl K) 2 f_Font_shown) :=
  fnM T.F_Font_shown sc_Font_shown fun cdv A outer s H E hcd hg hr => (mps_one (mp_ret (me_meth (c := "Font") (me_var (pv 0)) T.cls_Font T.me_Font_seen (ok_Font_seen T) noGd (hr.mono (by omega)) (b_Font_seen T) pass0 (ma_cons (me_call (ok_need_kind T) noGd (hr.mono (by omega)) rfl T.g_need_kind T.F_need_kind.kp (b_need_kind T) passX (ma_cons (me_var (pv 0)) (ma_cons (me_var (pv 1)) ma_nil))) ma_nil))))
theorem ok__law_heads (T : Txt K mg) : FnP false P w K mg base CX0 1 (He.ga K "_law_heads") T.fd__law_heads ["_law_turns"] (spM (Cl K) 1 f__law_heads) :=
  fnM T.F__law_heads sc__law_heads fun cdv A outer s H E hcd hg hr => (mps_cons (mp_set me_dnew sc__law_heads.nd rfl (by first | exact Or.inl rfl | exact Or.inr rfl))
  (mps_cons (mp_for (L2.passes_of rfl) rfl (mi_list (me_var (pv 0))) (mg_tup (n := 2) rfl (mgs_cons (mg_name (i := 2) sc__law_heads.nd rfl (by first | exact Or.inl rfl | exact Or.inr rfl)) (mgs_cons (mg_name (i := 3) sc__law_heads.nd rfl (by first | exact Or.inl rfl | exact Or.inr rfl)) mgs_nil)) (len_cons (len_cons len_nil))) (mps_cons (mp_putD (hu_of hr) (me_var (pv 1)) (me_var (pv 2)) (me_var (pv 3)))
  (mps_one (mp_putD (hu_of hr) (me_var (pv 1)) (me_var (pv 3)) (me_var (pv 2))))))
  (mps_one (mp_ret (me_var (pv 1))))))
theorem ok__law_seen (T : Txt K mg) : FnP false P w K mg base CX0 2 (He.ga K "_law_seen") T.fd__law_seen ["_law_font_here", "_law_kind"] (spM (Cl K) 2 f__law_seen) :=
  fnM T.F__law_seen sc__law_seen fun cdv A outer s H E hcd hg hr => (mps_cons (mp_to (me_var (pv 0)) (mg_tup (n := 2) rfl (mgs_cons (mg_name (i := 2) sc__law_seen.nd rfl (by first | exact Or.inl rfl | exact Or.inr rfl)) (mgs_cons (mg_name (i := 3) sc__law_seen.nd rfl (by first | exact Or.inl rfl | exact Or.inr rfl)) mgs_nil)) (len_cons (len_cons len_nil))))
  (mps_cons (mp_set (me_call (ok__law_heads T) noGd (hr.mono (by omega)) rfl T.g__law_heads T.F__law_heads.kp (b__law_heads T) pass0 (ma_cons (me_var (pv 3)) ma_nil)) sc__law_seen.nd rfl (by first | exact Or.inl rfl | exact Or.inr rfl))
  (mps_cons (mp_set (me_comp (own := [("_law_side", 6)]) rfl sc__law_seen.nd (mi_str (me_var (pv 1))) (show BlkOk ["_law_font_here", "_law_kind", "_law_signs", "_law_turns", "_law_heads_here", "_law_some", "_law_side", "_law_sign"] (defScope s__law_seen) _ [("_law_side", 6)] from ⟨rfl, by decide +kernel, by decide +kernel, by decide +kernel, by decide +kernel⟩) (mgb_name (fun _ _ _ _ _ => pg_name (i := 6) sc__law_seen.nd rfl (by first | exact Or.inl rfl | exact Or.inr rfl)) (by decide)) (mt_bT1 (fun _ _ _ _ _ => (mc_in (hu_of hr) (me_var (pv 6)) (me_var (pv 2))))) (fun _ _ _ _ _ => (me_var (pv 6)))) sc__law_seen.nd rfl (by first | exact Or.inl rfl | exact Or.inr rfl))
  (mps_cons (mp_set (me_add (me_var (pv 5)) (me_comp (own := [("_law_side", 6)]) rfl sc__law_seen.nd (mi_list (me_var (pv 5))) (show BlkOk ["_law_font_here", "_law_kind", "_law_signs", "_law_turns", "_law_heads_here", "_law_some", "_law_side", "_law_sign"] (defScope s__law_seen) _ [("_law_side", 6)] from ⟨rfl, by decide +kernel, by decide +kernel, by decide +kernel, by decide +kernel⟩) (mgb_name (fun _ _ _ _ _ => pg_name (i := 6) sc__law_seen.nd rfl (by first | exact Or.inl rfl | exact Or.inr rfl)) (by decide)) (mt_bT1 (fun _ _ _ _ _ => (mc_in (hu_of hr) (me_var (pv 6)) (me_var (pv 4))))) (fun _ _ _ _ _ => (me_ix (ix_U (hu_of hr)) (me_var (pv 4)) (me_var (pv 6)) (fun _ _ => rfl))))) sc__law_seen.nd rfl (by first | exact Or.inl rfl | exact Or.inr rfl))
  (mps_one (mp_ret (ME.of (pe_m1 PySem.F.slot_str_join PySem.F.type_str_join mt_joinU pe_sem pe_sem) (mt_sm pm_join (me_c pe_str fun _ _ => .str _) (me_comp (own := [("_law_sign", 7)]) rfl sc__law_seen.nd (mi_str (me_var (pv 2))) (show BlkOk ["_law_font_here", "_law_kind", "_law_signs", "_law_turns", "_law_heads_here", "_law_some", "_law_side", "_law_sign"] (defScope s__law_seen) _ [("_law_sign", 7)] from ⟨rfl, by decide +kernel, by decide +kernel, by decide +kernel, by decide +kernel⟩) (mgb_name (fun _ _ _ _ _ => pg_name (i := 7) sc__law_seen.nd rfl (by first | exact Or.inl rfl | exact Or.inr rfl)) (by decide)) (mt_bT1 (fun _ _ _ _ _ => (mc_in (hu_of hr) (me_var (pv 7)) (me_var (pv 5))))) (fun _ _ _ _ _ => (me_var (pv 7))))))))))))
theorem subQ_upd {H H' : Hp} (s : SubQ H H') {p : Addr} {u : HO} (h : H p = none) (nt : ∀ ps, u ≠ .tbl ps) : SubQ H (upd H' p u) := ⟨G.sub_upd s.s h, fun a ps e => by
  by_cases z : a = p
  · rw [z, upd_same] at e
    exact absurd (Option.some.inj e) (nt ps)
  · rw [upd_ne z] at e
    exact s.t a ps e⟩
theorem ok__law_pen (T : Txt K mg) : FnOk P w K mg base CX0 1 (He.ga K "_law_pen") T.fd__law_pen ["_law_script"] (spPen K) := by
  refine FunD.ok T.F__law_pen sc__law_pen (fun vs H Q E h => ?_) fun cdv A outer s H vs Q E hr h => ⟨_, PSs.nox (pss_one (ps_ret (pe_disp (pps_cons pe_str (pe_callTy (call_listU rfl) rfl T.f_list boot_list (pa_cons (pe_slice sl_list (pv 0) po_none (po_some pe_int)) pa_nil)) (pps_cons pe_str pe_int (pps_cons pe_str pe_int pps_nil))) rfl rfl (by decide) (by decide)))), ?_⟩
  · obtain ⟨a, ns, rfl, _⟩ := h
    rfl
  · obtain ⟨a, ns, rfl, ha, q⟩ := h
    simp [tRet, tRetN, tDrop, tAsg, gName, tSeq, tNext, tIfS, tAndV, tOrV, tNotV, tAnd, tOr, tNot, tB, tTest, tVar, tC, tOp, tUn, tCons, tNil, tTup, tLst, tCB, tBM, tBM0, tM1, tM0, tCall, tMeth, tMake, tFldU, sFldU, tChain, tIf, tPar, tPar3, tAug, tDisp, tPairs, tDGet2, sDPut, rIsiU, rIsiTU, rLenU, rIxU, rInU, rNilU, rEqU, rNeU, rEq, rNe, rMax2U, rMin2U, rInt1U, rAbsU, scal, rAddU, rMulU, rI0, rI, rU, rListU, rTupU, rSumU, rAllU, rAnyU, rDictU, rSlU, tSl, tPart, tNoPart, rAppend, rExtend, rPop, rPopAt, rJoinU, rRepr, tSumVals, tyN_non, tyN_bl, tyN_int, tyN_str, tyN_ref, tyO_lst, tyO_tup, tyO_dK, tyO_flst, tyO_ftup, tyO_fdK, and_assoc, tyList, isT, tyAsk, lk_none, lk_frz, lk_lst, lk_tup, lk_dK, lk_ins, kV_str, kV_int, kV_kV, L2.start, L2.E0, tForZ, zList, zTup, zStr, zRng1, zRng2, zEnumS, zEnumL, zKeys, zVals, zItems, tAugS, rGetL, rSetL, ipI, tyN_new, upd_same, tLcV, tDcZ, tYes, wipe, tLcZ, tScZ, cxOf, RVal, RTup, gTupU, gCons, gNil, tProp, tDGetU, sDPutU, rLenO, rDEqU, tBML, tBML0, tConU, tDNewK, rIsiO]
    intro p hp
    refine ⟨a, _, rfl, sql_subQ (SubQ.new hp) ha, fun p1 hp1 => Or.inr (Or.inl ⟨p1, rfl, _, by rw [upd_same]; rfl, fun p2 hp2 => ?_⟩)⟩
    have n1 : p1 ≠ p := fun e => by rw [e, upd_same] at hp1; cases hp1
    have n2 : p2 ≠ p1 := fun e => by rw [e, upd_same] at hp2; cases hp2
    have n3 : p2 ≠ p := fun e => by rw [e, upd_ne n1.symm, upd_same] at hp2; cases hp2
    have f1 : H p1 = none := by rw [upd_ne n1] at hp1; exact hp1
    have f2 : H p2 = none := by rw [upd_ne n2, upd_ne n3] at hp2; exact hp2
    refine ⟨by rw [upd_ne n3.symm, upd_ne n1.symm, upd_same], [(.inr "cells", .ref p2), (.inr "used", .int 0), (.inr "left", .int 0)], rfl, by simp, ?_⟩
    refine q p p2 _ hp n3.symm ?_ (by rw [upd_same]; rfl) (by rw [upd_ne n3, upd_same, show ((63 : Int)) = ((63 : Nat) : Int) from rfl, cut_to, List.map_take])
    exact subQ_upd (subQ_upd (subQ_upd (SubQ.new hp (by intro ps h; cases h)) f1 (by intro ps h; cases h)) f2 (by intro ps h; cases h)) hp (by intro ps h; cases h)
@[reducible] def tabs (K : PySem.W.Frag) : Tables := ⟨[((cTd (fun K => He.ga K "law") K).2, "law.<locals>.<lambda>")]⟩
end
section
variable {P : Program} {w : World} {K : PySem.W.Frag} {mg : Str → Option Value} {base : Heap}
theorem ok_law (T : Txt K mg) (TB : ∀ p ∈ cs K, LamX.TabB base mg p.1 p.2)
    (plain : ∀ zs : List Int, zs.length ≤ 63 → ∃ μ, n_law ((List.replicate 10 none).set 1 (some (.r (.l 0)))) ⟨[], [penO zs 0 0]⟩ = .rt (.d (.bl true)) μ) :
    FnG P w K mg base CX0 14 (He.ga K "law") T.fd_law ["_law_script"] fun vs H Q _ => ∃ (a : Addr) (ns : List Int), vs = [.ref a] ∧ SqL K H a (ns.map V.int) ∧ (∀ p ∈ cs K, H p.2 = some (.tbl #[])) ∧ OnlyT (cs K) H ∧ ∀ H', Q (.bl true) H' := by
  letI : Tables := tabs K
  have mem : ((cTd (fun K => He.ga K "law") K).2, ("law.<locals>.<lambda>" : Str)) ∈ Tables.T := List.mem_cons_self
  have uni : ∀ p ∈ Tables.T, p.1 = (cTd (fun K => He.ga K "law") K).2 → p.2 = ("law.<locals>.<lambda>" : Str) := fun p hp _ => by
    rcases List.mem_cons.mp hp with e | e
    · rw [e]
    · cases e
  have TBl : LamX.TabB base mg (codeAd K (He.ga K "law")) (cTd (fun K => He.ga K "law") K).2 := TB _ List.mem_cons_self
  refine fnG_law (N := ["_law_script", "_law_pen_here", "_law_turn", "_law_font_here", "_law_made", "_law_signs", "_law_kind", "_law_one", "_law_some", "_law_value"]) (i := 1) (Cl := Cl K) (n := n_law) T.F_law sc_law (by decide) (by decide) (fun cdv A outer s H E hr => ?_) (fun cdv A outer s H E hcd hg hr => ?_) ?_ ?_ plain
  · exact ⟨_, ps_set (i := 1) sc_law.nd rfl (by first | exact Or.inl rfl | exact Or.inr rfl) (pe_call (ok__law_pen T) (hr.mono (by omega)) rfl T.g__law_pen T.F__law_pen.kp (b__law_pen T) .nil pass0 (pa_cons (pv 0) pa_nil)), fun _ _ _ => Iff.rfl⟩
  · exact (mps_cons (mp_for (L2.passes_of rfl) rfl (mi_rng1 (by exact rfl) T.f_range (ma_cons (me_c pe_int fun _ _ => .int _) ma_nil)) (mg_name (i := 2) sc_law.nd rfl (by first | exact Or.inl rfl | exact Or.inr rfl)) (mps_cons (mp_set (me_call (ok__law_font T) noGd (hr.mono (by omega)) rfl T.g__law_font T.F__law_font.kp (b__law_font T) pass0 (ma_cons (me_var (pv 1)) (ma_cons (me_call (ok__law_pick T) noGd (hr.mono (by omega)) rfl T.g__law_pick T.F__law_pick.kp (b__law_pick T) pass0 (ma_cons (me_var (pv 1)) (ma_cons (me_lst (ma_cons (me_c pe_int fun _ _ => .int _) (ma_cons (me_c pe_int fun _ _ => .int _) (ma_cons (me_c pe_int fun _ _ => .int _) ma_nil)))) ma_nil))) ma_nil))) sc_law.nd rfl (by first | exact Or.inl rfl | exact Or.inr rfl))
  (mps_cons (mp_to (me_tup (ma_cons (me_frz (me_call (ok__law_font_made T) noGd (hr.mono (by omega)) rfl T.g__law_font_made T.F__law_font_made.kp (b__law_font_made T) passZ (ma_cons (me_var (pv 1)) (ma_cons (me_var (pv 3)) ma_nil)))) (ma_cons (me_frz (me_ix (ix_U (hu_of hr)) (me_var (pv 3)) (me_c pe_int fun _ _ => .int _) (fun _ _ => rfl))) ma_nil))) (mg_tup (n := 2) rfl (mgs_cons (mg_name (i := 4) sc_law.nd rfl (by first | exact Or.inl rfl | exact Or.inr rfl)) (mgs_cons (mg_name (i := 5) sc_law.nd rfl (by first | exact Or.inl rfl | exact Or.inr rfl)) mgs_nil)) (len_cons (len_cons len_nil))))
  (mps_cons (mp_for (L2.passes_of rfl) rfl (mi_list (me_call (ok__law_kinds T) noGd (hr.mono (by omega)) rfl T.g__law_kinds T.F__law_kinds.kp (b__law_kinds T) pass0 (ma_cons (me_var (pv 5)) ma_nil))) (mg_name (i := 6) sc_law.nd rfl (by first | exact Or.inl rfl | exact Or.inr rfl)) (mps_one (mp_for (L2.passes_of rfl) rfl (mi_tup (me_tup (ma_cons (me_frz (me_var (pv 6))) (ma_cons (me_frz (me_revU (me_var (pv 6)))) ma_nil)))) (mg_name (i := 7) sc_law.nd rfl (by first | exact Or.inl rfl | exact Or.inr rfl)) (mps_one (mp_if (MW.c (mw_or (mc_ne (hu0 hr) (me_meth (c := "Font") (me_var (pv 4)) T.cls_Font T.me_Font_kept (ok_Font_kept T) noGd (hr.mono (by omega)) (b_Font_kept T) passZ (ma_cons (me_var (pv 7)) ma_nil)) (me_var (pv 6))) (mw_or1 (mc_ne (hu0 hr) (me_meth (c := "Font") (me_var (pv 4)) T.cls_Font T.me_Font_shown (ok_Font_shown T) noGd (hr.mono (by omega)) (b_Font_shown T) passZ (ma_cons (me_var (pv 7)) ma_nil)) (me_call (ok__law_seen T) noGd (hr.mono (by omega)) rfl T.g__law_seen T.F__law_seen.kp (b__law_seen T) pass0 (ma_cons (me_var (pv 3)) (ma_cons (me_var (pv 6)) ma_nil))))))) (mps_one (mp_ret (me_c pe_bl fun _ _ => .bl _))) mps_nil)))))
  (mps_cons (mp_set (me_lst (ma_cons (me_c pe_str fun _ _ => .str _) (ma_cons (me_c pe_str fun _ _ => .str _) (ma_cons (me_c pe_str fun _ _ => .str _) (ma_cons (me_ix (ix_U (hu_of hr)) (me_var (pv 5)) (me_c pe_int fun _ _ => .int _) (fun _ _ => rfl)) (ma_cons (me_mul (me_ix (ix_U (hu_of hr)) (me_var (pv 5)) (me_c pe_int fun _ _ => .int _) (fun _ _ => rfl)) (me_c pe_int fun _ _ => .int _)) (ma_cons (me_add (me_ix (ix_U (hu_of hr)) (me_var (pv 5)) (me_c pe_int fun _ _ => .int _) (fun _ _ => rfl)) (me_c pe_str fun _ _ => .str _)) (ma_cons (me_add (me_c pe_str fun _ _ => .str _) (me_ix (ix_U (hu_of hr)) (me_var (pv 5)) (me_c pe_int fun _ _ => .int _) (fun _ _ => rfl))) (ma_cons (me_add (me_ix (ix_U (hu_of hr)) (me_var (pv 5)) (me_c pe_int fun _ _ => .int _) (fun _ _ => rfl)) (me_c pe_str fun _ _ => .str _)) (ma_cons (me_c pe_str fun _ _ => .str _) (ma_cons (me_add (ME.of (pe_m0 PySem.F.slot_str_upper PySem.F.type_str_upper mt_upper pe_sem) (mt_sm0 pm_upper (me_ix (ix_U (hu_of hr)) (me_var (pv 5)) (me_c pe_int fun _ _ => .int _) (fun _ _ => rfl)))) (me_c pe_str fun _ _ => .str _)) ma_nil))))))))))) sc_law.nd rfl (by first | exact Or.inl rfl | exact Or.inr rfl))
  (mps_one (mp_for (L2.passes_of rfl) rfl (mi_list (me_add (me_var (pv 8)) (me_lst (ma_cons (me_c pe_non fun _ _ => .non) (ma_cons (me_c pe_int fun _ _ => .int _) (ma_cons (me_frz (me_lst ma_nil)) (ma_cons (me_tup (ma_cons (me_frz (me_ix (ix_U (hu_of hr)) (me_var (pv 5)) (me_c pe_int fun _ _ => .int _) (fun _ _ => rfl))) (ma_cons (me_frz (me_ix (ix_U (hu_of hr)) (me_var (pv 5)) (me_c pe_int fun _ _ => .int _) (fun _ _ => rfl))) ma_nil))) (ma_cons (me_frz (me_lst (ma_cons (me_slice (me_var (pv 5)) mpt_none (mpt_some (me_c pe_int fun _ _ => .int _))) ma_nil))) (ma_cons (me_frz (me_call (ok__law_odd T) noGd (hr.mono (by omega)) rfl T.g__law_odd T.F__law_odd.kp (b__law_odd T) pass0 (ma_cons (me_var (pv 1)) ma_nil))) (ma_cons (me_frz (me_call (ok__law_odd T) noGd (hr.mono (by omega)) rfl T.g__law_odd T.F__law_odd.kp (b__law_odd T) pass0 (ma_cons (me_var (pv 1)) ma_nil))) ma_nil)))))))))) (mg_name (i := 9) sc_law.nd rfl (by first | exact Or.inl rfl | exact Or.inr rfl)) (mps_cons (mp_if (mc_v (me_call (ok__law_is_kind T) noGd (hr.mono (by omega)) rfl T.g__law_is_kind T.F__law_is_kind.kp (b__law_is_kind T) pass0 (ma_cons (me_var (pv 5)) (ma_cons (me_var (pv 9)) ma_nil)))) (mps_one mp_cont) mps_nil)
  (mps_cons (mp_if (mc_ne (hu0 hr) (me_cb (call_reprD (hg rfl) (hu64 hr) T.sys) pl_repr (fun _ => mono_repr) rfl T.f_repr boot_repr (ma_cons (me_lamD (k := 4) rfl rfl T.g__law_told T.F__law_told (b__law_told T) sc__law_told rfl (.inl rfl) (gives__law_told T) TBl (codeAd_eq hcd) mem uni (hr.mono (by omega)) (LamX.lamS_by (show LamX.lamSB (defScope s_law) _ = true by decide +kernel)) rfl (fun _ _ _ _ _ => rfl) (fun A outer s H E f c' hr' => (me_meth (c := "Font") (me_var (pv 4)) T.cls_Font T.me_Font_kept (ok_Font_kept T) noGd (hr'.mono (by omega)) (b_Font_kept T) passX (ma_cons (me_var (pv 9)) ma_nil)))) ma_nil)) (me_cb (call_reprD (hg rfl) (hu64 hr) T.sys) pl_repr (fun _ => mono_repr) rfl T.f_repr boot_repr (ma_cons (me_tup (ma_cons (me_c pe_str fun _ _ => .str _) (ma_cons (me_frz (me_var (pv 9))) ma_nil))) ma_nil))) (mps_one (mp_ret (me_c pe_bl fun _ _ => .bl _))) mps_nil)
  (mps_one (mp_if (mc_ne (hu0 hr) (me_cb (call_reprD (hg rfl) (hu64 hr) T.sys) pl_repr (fun _ => mono_repr) rfl T.f_repr boot_repr (ma_cons (me_lamD (k := 4) rfl rfl T.g__law_told T.F__law_told (b__law_told T) sc__law_told rfl (.inl rfl) (gives__law_told T) TBl (codeAd_eq hcd) mem uni (hr.mono (by omega)) (LamX.lamS_by (show LamX.lamSB (defScope s_law) _ = true by decide +kernel)) rfl (fun _ _ _ _ _ => rfl) (fun A outer s H E f c' hr' => (me_meth (c := "Font") (me_var (pv 4)) T.cls_Font T.me_Font_shown (ok_Font_shown T) noGd (hr'.mono (by omega)) (b_Font_shown T) passX (ma_cons (me_var (pv 9)) ma_nil)))) ma_nil)) (me_cb (call_reprD (hg rfl) (hu64 hr) T.sys) pl_repr (fun _ => mono_repr) rfl T.f_repr boot_repr (ma_cons (me_tup (ma_cons (me_c pe_str fun _ _ => .str _) (ma_cons (me_frz (me_var (pv 9))) ma_nil))) ma_nil))) (mps_one (mp_ret (me_c pe_bl fun _ _ => .bl _))) mps_nil)))))))))))
  (mps_one (mp_ret (me_c pe_bl fun _ _ => .bl _))))
  · intro p hp
    rcases List.mem_cons.mp hp with e | e
    · rw [e]
      exact List.mem_cons_self
    · cases e
  · intro p hp
    rcases List.mem_cons.mp hp with e | e
    · rw [e]
      exact ⟨_, List.mem_cons_self⟩
    · cases e
end
end K03
end

set_option Elab.async false
set_option linter.all false
set_option maxRecDepth 100000
set_option maxHeartbeats 4000000
noncomputable section
open Classical
namespace K03
open PySem PySem.Spec PyProof.Rows L2 G Q
theorem sz_big {n : Nat} (h : n ≤ 1000) : n ≤ sizeLine := by rw [sizeLine_eq]; omega
theorem three_sz : 3 < sizeLine := by rw [sizeLine_eq]; omega
theorem draw_step {rf : MF} {cs : List Int} {u l : Int} {N many k : Nat} (hcs : cs.length ≤ 63) (hu : 0 ≤ u) (huN : u ≤ N) (hN : N ≤ 10 ^ 6) (hl : 0 ≤ l) (h1 : 1 ≤ many) (h2 : many ≤ 10 ^ 60)
    (hrf : 60000000 < many → ∀ o, PenN (N + 1) o → ∃ (i : Nat) (o' : MO) (L : List MO), i ≤ 10 ^ 60 ∧ PenN (N + k + 1) o' ∧ rf [.r (.b 0), .d (.int ((many / 60000000 + 1 : Nat) : Int))] [o] = .ret (.d (.int i)) ⟨[o'], L⟩) :
    ∃ (i : Nat) (o' : MO) (L : List MO), i < many ∧ PenN (N + k + 1) o' ∧ n__law_draw rf [some (.r (.b 0)), some (.d (.int many)), none, none, none, none] ⟨[penO cs u l], []⟩ = .rt (.d (.int i)) ⟨[o'], L⟩ := by
  have hm0 : (0 : Int) < many := by omega
  have hmn : 0 < many := by omega
  have hbig : (many : Int).natAbs < 2 ^ 4000 := few40 (by omega) (by omega)
  have md : ∀ x : Int, ∃ i : Nat, i < many ∧ x % (many : Int) = i := fun x => by
    have a1 := Int.emod_nonneg x (show (many : Int) ≠ 0 by omega)
    have a2 := Int.emod_lt_of_pos x hm0
    exact ⟨(x % (many : Int)).toNat, by omega, by omega⟩
  have cd : ∀ x, CDivW x (many : Int) := fun x => cdivw hm0 hbig
  have mul : ∀ x y : Int, -(10 ^ 80) ≤ x → x ≤ 10 ^ 80 → -(10 ^ 80) ≤ y → y ≤ 10 ^ 80 → CMulW x y := fun x y a b c d => cmul (few40 a b) (few40 c d)
  have hp : CPow 10 18 := by unfold CPow; decide
  by_cases h0 : 0 < l
  · obtain ⟨i, hi, ei⟩ := md l
    refine ⟨i, penO cs u (l / many), [], hi, ⟨cs, u, _, rfl, hcs, hu, by omega, Int.ediv_nonneg hl (by omega)⟩, ?_⟩
    simp [n__law_draw, penO, Res.bind, wth, sSeq, sSet, sRet, sRetN, sDrop, sNext, sIf, sPar, sPut, sTo, mVar, mC, mOp, mOut, asB, mNot, mAnd, mOr, mAndV, mOrV, mNotV, mIf, mFrz, mNil, mCons, mLst, mTup, mCB, mIx, ixM, mSl, mPart, mNoPart, mRevU, mSM, mSM0, mLM, mLM0, mCall, mMeth, mFld, mCon, insM, mIsi, tyD, vw, vws, flat, nz, fzm, allD, MS.get, MS.set, MS.new, keyD, fAdd, fSub, fMod, fFdiv, fMulQ, fMul, fPow, fI, fIC, fLt, fLe, fGt, fGe, eqD, isD, inD, ixD, toV, scal, putD, fLen, fInt, fAbs, fList, fAll, fTup, fJoin, fUpper, fSl, fRevU, lAppend, lPop, lPopAt, lExt, gN, gT, gTS, gsC, gsN, mChain, leB, ltB, items, strI, lstI, tupI, seqI, keyI, itemI, valI, sFor, Q.sFld, putFM, sRaise, mNeg, mYes, isT, pen_left, pen_put_left, h0, hm0, hmn, three_sz, ei, cd l]
  · have el : l = 0 := by omega
    subst el
    have hu6 : u ≤ 10 ^ 6 := by omega
    have huu : 30011 * u * u ≤ 30011 * 10 ^ 6 * 10 ^ 6 := Int.mul_le_mul (by omega) hu6 hu (by omega)
    have huu0 : 0 ≤ 30011 * u * u := Int.mul_nonneg (by omega) hu
    have c1 : CMulW 43 u := mul _ _ (by omega) (by omega) (by omega) (by omega)
    have c2 : CMulW 30011 u := mul _ _ (by omega) (by omega) (by omega) (by omega)
    have c3 : CMulW (30011 * u) u := mul _ _ (by omega) (by omega) (by omega) (by omega)
    -- behind the cell
    have tail : ∀ (cell : Int), ∃ m : Int, 0 ≤ m ∧ m ≤ 10 ^ 30 ∧ m = cell % 4294967231 * 1103515 + 30011 * u * u := fun cell => by
      have h3 := Int.emod_nonneg cell (show (4294967231 : Int) ≠ 0 by omega)
      have h4 := Int.emod_lt_of_pos cell (show (0 : Int) < 4294967231 by omega)
      exact ⟨_, by omega, by omega, rfl⟩
    have cellAt : ∃ cell : Int, ∀ rest : Mir, sSeq (sIf (asB (mOp (eqD true) (mIx (mVar 0) (mC (.str "cells"))) (mLst mNil))) (sSet 4 (mIx (mIx (mVar 0) (mC (.str "cells"))) (mOp fMod (mCB fInt (mCons (mVar 3) mNil)) (mCB fLen (mCons (mIx (mVar 0) (mC (.str "cells"))) mNil))))) sNext) rest
        [some (.r (.b 0)), some (.d (.int many)), none, some (.d (.int u)), some (.d (.int (43 * u + 7))), none] ⟨[penO cs (u + 1) 0], []⟩ = rest [some (.r (.b 0)), some (.d (.int many)), none, some (.d (.int u)), some (.d (.int cell)), none] ⟨[penO cs (u + 1) 0], [.lst []]⟩ := by
      by_cases hc : cs = []
      · subst hc
        refine ⟨43 * u + 7, fun rest => seq_nx ?_⟩
        simp [penO, Res.bind, wth, sSeq, sSet, sRet, sRetN, sDrop, sNext, sIf, sPar, sPut, sTo, mVar, mC, mOp, mOut, asB, mNot, mAnd, mOr, mAndV, mOrV, mNotV, mIf, mFrz, mNil, mCons, mLst, mTup, mCB, mIx, ixM, mSl, mPart, mNoPart, mRevU, mSM, mSM0, mLM, mLM0, mCall, mMeth, mFld, mCon, insM, mIsi, tyD, vw, vws, flat, nz, fzm, allD, MS.get, MS.set, MS.new, keyD, fAdd, fSub, fMod, fFdiv, fMulQ, fMul, fPow, fI, fIC, fLt, fLe, fGt, fGe, eqD, isD, inD, ixD, toV, scal, putD, fLen, fInt, fAbs, fList, fAll, fTup, fJoin, fUpper, fSl, fRevU, lAppend, lPop, lPopAt, lExt, gN, gT, gTS, gsC, gsN, mChain, leB, ltB, items, strI, lstI, tupI, seqI, keyI, itemI, valI, sFor, Q.sFld, putFM, sRaise, mNeg, mYes, isT, pen_cells]
      · have hlen : 0 < cs.length := List.length_pos_iff.mpr hc
        obtain ⟨cell, hcell⟩ : ∃ cell, atI (cs.map D.int) (u % (cs.length : Int)) = some (.int cell) := by
          have h1 := Int.emod_nonneg u (show (cs.length : Int) ≠ 0 by omega)
          have h2 := Int.emod_lt_of_pos u (show (0 : Int) < cs.length by omega)
          obtain ⟨j, hj⟩ := Int.eq_ofNat_of_zero_le h1
          rw [hj] at h2 ⊢
          have hj2 : j < cs.length := by omega
          exact ⟨cs[j], atI_at (by simp [hj2])⟩
        refine ⟨cell, fun rest => seq_nx ?_⟩
        simp [penO, Res.bind, wth, sSeq, sSet, sRet, sRetN, sDrop, sNext, sIf, sPar, sPut, sTo, mVar, mC, mOp, mOut, asB, mNot, mAnd, mOr, mAndV, mOrV, mNotV, mIf, mFrz, mNil, mCons, mLst, mTup, mCB, mIx, ixM, mSl, mPart, mNoPart, mRevU, mSM, mSM0, mLM, mLM0, mCall, mMeth, mFld, mCon, insM, mIsi, tyD, vw, vws, flat, nz, fzm, allD, MS.get, MS.set, MS.new, keyD, fAdd, fSub, fMod, fFdiv, fMulQ, fMul, fPow, fI, fIC, fLt, fLe, fGt, fGe, eqD, isD, inD, ixD, toV, scal, putD, fLen, fInt, fAbs, fList, fAll, fTup, fJoin, fUpper, fSl, fRevU, lAppend, lPop, lPopAt, lExt, gN, gT, gTS, gsC, gsN, mChain, leB, ltB, items, strI, lstI, tupI, seqI, keyI, itemI, valI, sFor, Q.sFld, putFM, sRaise, mNeg, mYes, isT, pen_cells, hc, hlen, hcell]
    obtain ⟨cell, hcell⟩ := cellAt
    obtain ⟨m, m1, m2, em⟩ := tail cell
    unfold n__law_draw
    by_cases hb : u < cs.length ∧ 10 ^ 18 ≤ (cell.natAbs : Int)
    · obtain ⟨i, hi, ei⟩ := md ((cell.natAbs : Int) - 10 ^ 18)
      refine ⟨i, penO cs (u + 1) (((cell.natAbs : Int) - 10 ^ 18) / many), [.lst []], hi, ⟨cs, _, _, rfl, hcs, by omega, by omega, Int.ediv_nonneg (by omega) (by omega)⟩, ?_⟩
      refine (seq_nx (env' := [some (.r (.b 0)), some (.d (.int many)), none, none, none, none]) (μ' := ⟨[penO cs u 0], []⟩) (by simp [penO, Res.bind, wth, sSeq, sSet, sRet, sRetN, sDrop, sNext, sIf, sPar, sPut, sTo, mVar, mC, mOp, mOut, asB, mNot, mAnd, mOr, mAndV, mOrV, mNotV, mIf, mFrz, mNil, mCons, mLst, mTup, mCB, mIx, ixM, mSl, mPart, mNoPart, mRevU, mSM, mSM0, mLM, mLM0, mCall, mMeth, mFld, mCon, insM, mIsi, tyD, vw, vws, flat, nz, fzm, allD, MS.get, MS.set, MS.new, keyD, fAdd, fSub, fMod, fFdiv, fMulQ, fMul, fPow, fI, fIC, fLt, fLe, fGt, fGe, eqD, isD, inD, ixD, toV, scal, putD, fLen, fInt, fAbs, fList, fAll, fTup, fJoin, fUpper, fSl, fRevU, lAppend, lPop, lPopAt, lExt, gN, gT, gTS, gsC, gsN, mChain, leB, ltB, items, strI, lstI, tupI, seqI, keyI, itemI, valI, sFor, Q.sFld, putFM, sRaise, mNeg, mYes, isT, pen_left])).trans ?_
      refine (seq_nx (env' := [some (.r (.b 0)), some (.d (.int many)), none, some (.d (.int u)), none, none]) (μ' := ⟨[penO cs u 0], []⟩) (by simp [penO, Res.bind, wth, sSeq, sSet, sRet, sRetN, sDrop, sNext, sIf, sPar, sPut, sTo, mVar, mC, mOp, mOut, asB, mNot, mAnd, mOr, mAndV, mOrV, mNotV, mIf, mFrz, mNil, mCons, mLst, mTup, mCB, mIx, ixM, mSl, mPart, mNoPart, mRevU, mSM, mSM0, mLM, mLM0, mCall, mMeth, mFld, mCon, insM, mIsi, tyD, vw, vws, flat, nz, fzm, allD, MS.get, MS.set, MS.new, keyD, fAdd, fSub, fMod, fFdiv, fMulQ, fMul, fPow, fI, fIC, fLt, fLe, fGt, fGe, eqD, isD, inD, ixD, toV, scal, putD, fLen, fInt, fAbs, fList, fAll, fTup, fJoin, fUpper, fSl, fRevU, lAppend, lPop, lPopAt, lExt, gN, gT, gTS, gsC, gsN, mChain, leB, ltB, items, strI, lstI, tupI, seqI, keyI, itemI, valI, sFor, Q.sFld, putFM, sRaise, mNeg, mYes, isT, pen_used])).trans ?_
      refine (seq_nx (env' := [some (.r (.b 0)), some (.d (.int many)), none, some (.d (.int u)), none, none]) (μ' := ⟨[penO cs (u + 1) 0], []⟩) (by simp [penO, Res.bind, wth, sSeq, sSet, sRet, sRetN, sDrop, sNext, sIf, sPar, sPut, sTo, mVar, mC, mOp, mOut, asB, mNot, mAnd, mOr, mAndV, mOrV, mNotV, mIf, mFrz, mNil, mCons, mLst, mTup, mCB, mIx, ixM, mSl, mPart, mNoPart, mRevU, mSM, mSM0, mLM, mLM0, mCall, mMeth, mFld, mCon, insM, mIsi, tyD, vw, vws, flat, nz, fzm, allD, MS.get, MS.set, MS.new, keyD, fAdd, fSub, fMod, fFdiv, fMulQ, fMul, fPow, fI, fIC, fLt, fLe, fGt, fGe, eqD, isD, inD, ixD, toV, scal, putD, fLen, fInt, fAbs, fList, fAll, fTup, fJoin, fUpper, fSl, fRevU, lAppend, lPop, lPopAt, lExt, gN, gT, gTS, gsC, gsN, mChain, leB, ltB, items, strI, lstI, tupI, seqI, keyI, itemI, valI, sFor, Q.sFld, putFM, sRaise, mNeg, mYes, isT, pen_put_used, three_sz])).trans ?_
      refine (seq_nx (env' := [some (.r (.b 0)), some (.d (.int many)), none, some (.d (.int u)), some (.d (.int (43 * u + 7))), none]) (μ' := ⟨[penO cs (u + 1) 0], []⟩) (by simp [penO, Res.bind, wth, sSeq, sSet, sRet, sRetN, sDrop, sNext, sIf, sPar, sPut, sTo, mVar, mC, mOp, mOut, asB, mNot, mAnd, mOr, mAndV, mOrV, mNotV, mIf, mFrz, mNil, mCons, mLst, mTup, mCB, mIx, ixM, mSl, mPart, mNoPart, mRevU, mSM, mSM0, mLM, mLM0, mCall, mMeth, mFld, mCon, insM, mIsi, tyD, vw, vws, flat, nz, fzm, allD, MS.get, MS.set, MS.new, keyD, fAdd, fSub, fMod, fFdiv, fMulQ, fMul, fPow, fI, fIC, fLt, fLe, fGt, fGe, eqD, isD, inD, ixD, toV, scal, putD, fLen, fInt, fAbs, fList, fAll, fTup, fJoin, fUpper, fSl, fRevU, lAppend, lPop, lPopAt, lExt, gN, gT, gTS, gsC, gsN, mChain, leB, ltB, items, strI, lstI, tupI, seqI, keyI, itemI, valI, sFor, Q.sFld, putFM, sRaise, mNeg, mYes, isT, c1])).trans ?_
      refine (hcell _).trans ?_
      have hb2 := hb.2
      simp only [show (10 : Int) ^ 18 = 1000000000000000000 from rfl] at hb2 ei ⊢
      simp [penO, Res.bind, wth, sSeq, sSet, sRet, sRetN, sDrop, sNext, sIf, sPar, sPut, sTo, mVar, mC, mOp, mOut, asB, mNot, mAnd, mOr, mAndV, mOrV, mNotV, mIf, mFrz, mNil, mCons, mLst, mTup, mCB, mIx, ixM, mSl, mPart, mNoPart, mRevU, mSM, mSM0, mLM, mLM0, mCall, mMeth, mFld, mCon, insM, mIsi, tyD, vw, vws, flat, nz, fzm, allD, MS.get, MS.set, MS.new, keyD, fAdd, fSub, fMod, fFdiv, fMulQ, fMul, fPow, fI, fIC, fLt, fLe, fGt, fGe, eqD, isD, inD, ixD, toV, scal, putD, fLen, fInt, fAbs, fList, fAll, fTup, fJoin, fUpper, fSl, fRevU, lAppend, lPop, lPopAt, lExt, gN, gT, gTS, gsC, gsN, mChain, leB, ltB, items, strI, lstI, tupI, seqI, keyI, itemI, valI, sFor, Q.sFld, putFM, sRaise, mNeg, mYes, isT, pen_cells, pen_put_left, hb.1, hb2, three_sz, hp, cd, hm0, hmn, ei]
    · have pen2 : PenN (N + 1) (penO cs (u + 1) 0) := ⟨cs, u + 1, 0, rfl, hcs, by omega, by omega, by omega⟩
      -- the blends
      obtain ⟨m2, a1, a2, e2⟩ : ∃ m2 : Int, 0 ≤ m2 ∧ m2 ≤ 10 ^ 10 ∧ m2 = (m + 178481 * u + 23) % 4294967197 := ⟨_, by omega, by omega, rfl⟩
      have hq : CMulW m2 m2 ∧ CMulW 16769023 m2 ∧ CMulW 5 u ∧ CMulW 178481 u ∧ CMulW (cell % 4294967231) 1103515 := by
        have h3 := Int.emod_nonneg cell (show (4294967231 : Int) ≠ 0 by omega)
        have h4 := Int.emod_lt_of_pos cell (show (0 : Int) < 4294967231 by omega)
        exact ⟨mul _ _ (by omega) (by omega) (by omega) (by omega), mul _ _ (by omega) (by omega) (by omega) (by omega), mul _ _ (by omega) (by omega) (by omega) (by omega), mul _ _ (by omega) (by omega) (by omega) (by omega), mul _ _ (by omega) (by omega) (by omega) (by omega)⟩
      obtain ⟨q1, q2, q3, q4, q5⟩ := hq
      obtain ⟨m3, b1, b2, e3⟩ : ∃ m3 : Int, 0 ≤ m3 ∧ m3 ≤ 10 ^ 10 ∧ m3 = (m2 * m2 + 16769023 * m2 + 5 * u + 7) % 4294967189 := ⟨_, Int.emod_nonneg _ (by omega), by have := Int.emod_lt_of_pos (m2 * m2 + 16769023 * m2 + 5 * u + 7) (show (0 : Int) < 4294967189 by omega); omega, rfl⟩
      have q6 : CMulW m3 (m3 + 28629151) := mul _ _ (by omega) (by omega) (by omega) (by omega)
      obtain ⟨m4, d1, d2, e4⟩ : ∃ m4 : Int, 0 ≤ m4 ∧ m4 ≤ 10 ^ 10 ∧ m4 = m3 * (m3 + 28629151) % 4294967291 / 64 := by
        have h3 := Int.emod_nonneg (m3 * (m3 + 28629151)) (show (4294967291 : Int) ≠ 0 by omega)
        have h4 := Int.emod_lt_of_pos (m3 * (m3 + 28629151)) (show (0 : Int) < 4294967291 by omega)
        exact ⟨_, Int.ediv_nonneg h3 (by omega), by omega, rfl⟩
      have q7 : CDivW (m3 * (m3 + 28629151) % 4294967291) 64 := cdivw (by decide) (by decide)
      have q8 : CDivW (many : Int) 60000000 := cdivw (by decide) (by decide)
      -- the whole, up to the last draw
      have upto : n__law_draw rf [some (.r (.b 0)), some (.d (.int many)), none, none, none, none] ⟨[penO cs u 0], []⟩ =
          sSeq (sIf (asB (mOp fGt (mVar 1) (mC (.int 60000000)))) (sSet 5 (mOp fAdd (mVar 5) (mOp fMulQ (mC (.int 60000000)) (mCall 2 rf (mCons (mVar 0) (mCons (mOp fAdd (mOp fFdiv (mVar 1) (mC (.int 60000000))) (mC (.int 1))) mNil)))))) sNext)
            (sRet (mOp fMod (mCB fInt (mCons (mVar 5) mNil)) (mVar 1))) [some (.r (.b 0)), some (.d (.int many)), none, some (.d (.int u)), some (.d (.int cell)), some (.d (.int m4))] ⟨[penO cs (u + 1) 0], [.lst []]⟩ := by
        unfold n__law_draw
        refine (seq_nx (env' := [some (.r (.b 0)), some (.d (.int many)), none, none, none, none]) (μ' := ⟨[penO cs u 0], []⟩) (by simp [penO, Res.bind, wth, sSeq, sSet, sRet, sRetN, sDrop, sNext, sIf, sPar, sPut, sTo, mVar, mC, mOp, mOut, asB, mNot, mAnd, mOr, mAndV, mOrV, mNotV, mIf, mFrz, mNil, mCons, mLst, mTup, mCB, mIx, ixM, mSl, mPart, mNoPart, mRevU, mSM, mSM0, mLM, mLM0, mCall, mMeth, mFld, mCon, insM, mIsi, tyD, vw, vws, flat, nz, fzm, allD, MS.get, MS.set, MS.new, keyD, fAdd, fSub, fMod, fFdiv, fMulQ, fMul, fPow, fI, fIC, fLt, fLe, fGt, fGe, eqD, isD, inD, ixD, toV, scal, putD, fLen, fInt, fAbs, fList, fAll, fTup, fJoin, fUpper, fSl, fRevU, lAppend, lPop, lPopAt, lExt, gN, gT, gTS, gsC, gsN, mChain, leB, ltB, items, strI, lstI, tupI, seqI, keyI, itemI, valI, sFor, Q.sFld, putFM, sRaise, mNeg, mYes, isT, pen_left])).trans ?_
        refine (seq_nx (env' := [some (.r (.b 0)), some (.d (.int many)), none, some (.d (.int u)), none, none]) (μ' := ⟨[penO cs u 0], []⟩) (by simp [penO, Res.bind, wth, sSeq, sSet, sRet, sRetN, sDrop, sNext, sIf, sPar, sPut, sTo, mVar, mC, mOp, mOut, asB, mNot, mAnd, mOr, mAndV, mOrV, mNotV, mIf, mFrz, mNil, mCons, mLst, mTup, mCB, mIx, ixM, mSl, mPart, mNoPart, mRevU, mSM, mSM0, mLM, mLM0, mCall, mMeth, mFld, mCon, insM, mIsi, tyD, vw, vws, flat, nz, fzm, allD, MS.get, MS.set, MS.new, keyD, fAdd, fSub, fMod, fFdiv, fMulQ, fMul, fPow, fI, fIC, fLt, fLe, fGt, fGe, eqD, isD, inD, ixD, toV, scal, putD, fLen, fInt, fAbs, fList, fAll, fTup, fJoin, fUpper, fSl, fRevU, lAppend, lPop, lPopAt, lExt, gN, gT, gTS, gsC, gsN, mChain, leB, ltB, items, strI, lstI, tupI, seqI, keyI, itemI, valI, sFor, Q.sFld, putFM, sRaise, mNeg, mYes, isT, pen_used])).trans ?_
        refine (seq_nx (env' := [some (.r (.b 0)), some (.d (.int many)), none, some (.d (.int u)), none, none]) (μ' := ⟨[penO cs (u + 1) 0], []⟩) (by simp [penO, Res.bind, wth, sSeq, sSet, sRet, sRetN, sDrop, sNext, sIf, sPar, sPut, sTo, mVar, mC, mOp, mOut, asB, mNot, mAnd, mOr, mAndV, mOrV, mNotV, mIf, mFrz, mNil, mCons, mLst, mTup, mCB, mIx, ixM, mSl, mPart, mNoPart, mRevU, mSM, mSM0, mLM, mLM0, mCall, mMeth, mFld, mCon, insM, mIsi, tyD, vw, vws, flat, nz, fzm, allD, MS.get, MS.set, MS.new, keyD, fAdd, fSub, fMod, fFdiv, fMulQ, fMul, fPow, fI, fIC, fLt, fLe, fGt, fGe, eqD, isD, inD, ixD, toV, scal, putD, fLen, fInt, fAbs, fList, fAll, fTup, fJoin, fUpper, fSl, fRevU, lAppend, lPop, lPopAt, lExt, gN, gT, gTS, gsC, gsN, mChain, leB, ltB, items, strI, lstI, tupI, seqI, keyI, itemI, valI, sFor, Q.sFld, putFM, sRaise, mNeg, mYes, isT, pen_put_used, three_sz])).trans ?_
        refine (seq_nx (env' := [some (.r (.b 0)), some (.d (.int many)), none, some (.d (.int u)), some (.d (.int (43 * u + 7))), none]) (μ' := ⟨[penO cs (u + 1) 0], []⟩) (by simp [penO, Res.bind, wth, sSeq, sSet, sRet, sRetN, sDrop, sNext, sIf, sPar, sPut, sTo, mVar, mC, mOp, mOut, asB, mNot, mAnd, mOr, mAndV, mOrV, mNotV, mIf, mFrz, mNil, mCons, mLst, mTup, mCB, mIx, ixM, mSl, mPart, mNoPart, mRevU, mSM, mSM0, mLM, mLM0, mCall, mMeth, mFld, mCon, insM, mIsi, tyD, vw, vws, flat, nz, fzm, allD, MS.get, MS.set, MS.new, keyD, fAdd, fSub, fMod, fFdiv, fMulQ, fMul, fPow, fI, fIC, fLt, fLe, fGt, fGe, eqD, isD, inD, ixD, toV, scal, putD, fLen, fInt, fAbs, fList, fAll, fTup, fJoin, fUpper, fSl, fRevU, lAppend, lPop, lPopAt, lExt, gN, gT, gTS, gsC, gsN, mChain, leB, ltB, items, strI, lstI, tupI, seqI, keyI, itemI, valI, sFor, Q.sFld, putFM, sRaise, mNeg, mYes, isT, c1])).trans ?_
        refine (hcell _).trans ?_
        refine (seq_nx (env' := [some (.r (.b 0)), some (.d (.int many)), none, some (.d (.int u)), some (.d (.int cell)), none]) (μ' := ⟨[penO cs (u + 1) 0], [.lst []]⟩) ?_).trans ?_
        · simp only [show (10 : Int) ^ 18 = 1000000000000000000 from rfl] at hb
          by_cases hb1 : u < cs.length
          · have hb2 : ¬ (1000000000000000000 ≤ (cell.natAbs : Int)) := fun z => hb ⟨hb1, z⟩
            simp [penO, Res.bind, wth, sSeq, sSet, sRet, sRetN, sDrop, sNext, sIf, sPar, sPut, sTo, mVar, mC, mOp, mOut, asB, mNot, mAnd, mOr, mAndV, mOrV, mNotV, mIf, mFrz, mNil, mCons, mLst, mTup, mCB, mIx, ixM, mSl, mPart, mNoPart, mRevU, mSM, mSM0, mLM, mLM0, mCall, mMeth, mFld, mCon, insM, mIsi, tyD, vw, vws, flat, nz, fzm, allD, MS.get, MS.set, MS.new, keyD, fAdd, fSub, fMod, fFdiv, fMulQ, fMul, fPow, fI, fIC, fLt, fLe, fGt, fGe, eqD, isD, inD, ixD, toV, scal, putD, fLen, fInt, fAbs, fList, fAll, fTup, fJoin, fUpper, fSl, fRevU, lAppend, lPop, lPopAt, lExt, gN, gT, gTS, gsC, gsN, mChain, leB, ltB, items, strI, lstI, tupI, seqI, keyI, itemI, valI, sFor, Q.sFld, putFM, sRaise, mNeg, mYes, isT, pen_cells, hb1, hb2, hp]
          · simp [penO, Res.bind, wth, sSeq, sSet, sRet, sRetN, sDrop, sNext, sIf, sPar, sPut, sTo, mVar, mC, mOp, mOut, asB, mNot, mAnd, mOr, mAndV, mOrV, mNotV, mIf, mFrz, mNil, mCons, mLst, mTup, mCB, mIx, ixM, mSl, mPart, mNoPart, mRevU, mSM, mSM0, mLM, mLM0, mCall, mMeth, mFld, mCon, insM, mIsi, tyD, vw, vws, flat, nz, fzm, allD, MS.get, MS.set, MS.new, keyD, fAdd, fSub, fMod, fFdiv, fMulQ, fMul, fPow, fI, fIC, fLt, fLe, fGt, fGe, eqD, isD, inD, ixD, toV, scal, putD, fLen, fInt, fAbs, fList, fAll, fTup, fJoin, fUpper, fSl, fRevU, lAppend, lPop, lPopAt, lExt, gN, gT, gTS, gsC, gsN, mChain, leB, ltB, items, strI, lstI, tupI, seqI, keyI, itemI, valI, sFor, Q.sFld, putFM, sRaise, mNeg, mYes, isT, pen_cells, hb1]
        refine (seq_nx (env' := [some (.r (.b 0)), some (.d (.int many)), none, some (.d (.int u)), some (.d (.int cell)), some (.d (.int m))]) (μ' := ⟨[penO cs (u + 1) 0], [.lst []]⟩) (by simp [penO, Res.bind, wth, sSeq, sSet, sRet, sRetN, sDrop, sNext, sIf, sPar, sPut, sTo, mVar, mC, mOp, mOut, asB, mNot, mAnd, mOr, mAndV, mOrV, mNotV, mIf, mFrz, mNil, mCons, mLst, mTup, mCB, mIx, ixM, mSl, mPart, mNoPart, mRevU, mSM, mSM0, mLM, mLM0, mCall, mMeth, mFld, mCon, insM, mIsi, tyD, vw, vws, flat, nz, fzm, allD, MS.get, MS.set, MS.new, keyD, fAdd, fSub, fMod, fFdiv, fMulQ, fMul, fPow, fI, fIC, fLt, fLe, fGt, fGe, eqD, isD, inD, ixD, toV, scal, putD, fLen, fInt, fAbs, fList, fAll, fTup, fJoin, fUpper, fSl, fRevU, lAppend, lPop, lPopAt, lExt, gN, gT, gTS, gsC, gsN, mChain, leB, ltB, items, strI, lstI, tupI, seqI, keyI, itemI, valI, sFor, Q.sFld, putFM, sRaise, mNeg, mYes, isT, c2, c3, q5, em])).trans ?_
        refine (seq_nx (env' := [some (.r (.b 0)), some (.d (.int many)), none, some (.d (.int u)), some (.d (.int cell)), some (.d (.int m2))]) (μ' := ⟨[penO cs (u + 1) 0], [.lst []]⟩) (by simp [penO, Res.bind, wth, sSeq, sSet, sRet, sRetN, sDrop, sNext, sIf, sPar, sPut, sTo, mVar, mC, mOp, mOut, asB, mNot, mAnd, mOr, mAndV, mOrV, mNotV, mIf, mFrz, mNil, mCons, mLst, mTup, mCB, mIx, ixM, mSl, mPart, mNoPart, mRevU, mSM, mSM0, mLM, mLM0, mCall, mMeth, mFld, mCon, insM, mIsi, tyD, vw, vws, flat, nz, fzm, allD, MS.get, MS.set, MS.new, keyD, fAdd, fSub, fMod, fFdiv, fMulQ, fMul, fPow, fI, fIC, fLt, fLe, fGt, fGe, eqD, isD, inD, ixD, toV, scal, putD, fLen, fInt, fAbs, fList, fAll, fTup, fJoin, fUpper, fSl, fRevU, lAppend, lPop, lPopAt, lExt, gN, gT, gTS, gsC, gsN, mChain, leB, ltB, items, strI, lstI, tupI, seqI, keyI, itemI, valI, sFor, Q.sFld, putFM, sRaise, mNeg, mYes, isT, q4, e2])).trans ?_
        refine (seq_nx (env' := [some (.r (.b 0)), some (.d (.int many)), none, some (.d (.int u)), some (.d (.int cell)), some (.d (.int m3))]) (μ' := ⟨[penO cs (u + 1) 0], [.lst []]⟩) (by simp [penO, Res.bind, wth, sSeq, sSet, sRet, sRetN, sDrop, sNext, sIf, sPar, sPut, sTo, mVar, mC, mOp, mOut, asB, mNot, mAnd, mOr, mAndV, mOrV, mNotV, mIf, mFrz, mNil, mCons, mLst, mTup, mCB, mIx, ixM, mSl, mPart, mNoPart, mRevU, mSM, mSM0, mLM, mLM0, mCall, mMeth, mFld, mCon, insM, mIsi, tyD, vw, vws, flat, nz, fzm, allD, MS.get, MS.set, MS.new, keyD, fAdd, fSub, fMod, fFdiv, fMulQ, fMul, fPow, fI, fIC, fLt, fLe, fGt, fGe, eqD, isD, inD, ixD, toV, scal, putD, fLen, fInt, fAbs, fList, fAll, fTup, fJoin, fUpper, fSl, fRevU, lAppend, lPop, lPopAt, lExt, gN, gT, gTS, gsC, gsN, mChain, leB, ltB, items, strI, lstI, tupI, seqI, keyI, itemI, valI, sFor, Q.sFld, putFM, sRaise, mNeg, mYes, isT, q1, q2, q3, ← e3])).trans ?_
        refine (seq_nx (env' := [some (.r (.b 0)), some (.d (.int many)), none, some (.d (.int u)), some (.d (.int cell)), some (.d (.int m4))]) (μ' := ⟨[penO cs (u + 1) 0], [.lst []]⟩) (by simp [penO, Res.bind, wth, sSeq, sSet, sRet, sRetN, sDrop, sNext, sIf, sPar, sPut, sTo, mVar, mC, mOp, mOut, asB, mNot, mAnd, mOr, mAndV, mOrV, mNotV, mIf, mFrz, mNil, mCons, mLst, mTup, mCB, mIx, ixM, mSl, mPart, mNoPart, mRevU, mSM, mSM0, mLM, mLM0, mCall, mMeth, mFld, mCon, insM, mIsi, tyD, vw, vws, flat, nz, fzm, allD, MS.get, MS.set, MS.new, keyD, fAdd, fSub, fMod, fFdiv, fMulQ, fMul, fPow, fI, fIC, fLt, fLe, fGt, fGe, eqD, isD, inD, ixD, toV, scal, putD, fLen, fInt, fAbs, fList, fAll, fTup, fJoin, fUpper, fSl, fRevU, lAppend, lPop, lPopAt, lExt, gN, gT, gTS, gsC, gsN, mChain, leB, ltB, items, strI, lstI, tupI, seqI, keyI, itemI, valI, sFor, Q.sFld, putFM, sRaise, mNeg, mYes, isT, q6, q7, e4])).trans ?_
        rfl
      by_cases hbig2 : 60000000 < many
      · obtain ⟨i, o', L, hi, hpo, hr⟩ := hrf hbig2 _ pen2
        have hbi : (60000000 : Int) < many := by omega
        have hdv : (many : Int) / 60000000 + 1 = ((many / 60000000 + 1 : Nat) : Int) := by omega
        have hc : callR rf [.r (.b 0), .d (.int ((many : Int) / 60000000 + 1))] ⟨[penO cs (u + 1) 0], [.lst []]⟩ = .ok (.d (.int i)) ⟨[o'], [.lst []]⟩ := by
          rw [hdv]
          exact call1_d (xs := [.int ((many / 60000000 + 1 : Nat) : Int)]) (pen2.op (p := .b 0) rfl) hr hpo.clD
        have q9 : CMulW 60000000 (i : Int) := mul _ _ (by omega) (by omega) (by omega) (by omega)
        obtain ⟨j, hj, ej⟩ := md (m4 + 60000000 * i)
        refine ⟨j, o', [.lst []], hj, hpo, upto.trans ?_⟩
        refine (seq_nx (env' := [some (.r (.b 0)), some (.d (.int many)), none, some (.d (.int u)), some (.d (.int cell)), some (.d (.int (m4 + 60000000 * i)))]) (μ' := ⟨[o'], [.lst []]⟩) (by simp [Res.bind, wth, sSeq, sSet, sRet, sRetN, sDrop, sNext, sIf, sPar, sPut, sTo, mVar, mC, mOp, mOut, asB, mNot, mAnd, mOr, mAndV, mOrV, mNotV, mIf, mFrz, mNil, mCons, mLst, mTup, mCB, mIx, ixM, mSl, mPart, mNoPart, mRevU, mSM, mSM0, mLM, mLM0, mCall, mMeth, mFld, mCon, insM, mIsi, tyD, vw, vws, flat, nz, fzm, allD, MS.get, MS.set, MS.new, keyD, fAdd, fSub, fMod, fFdiv, fMulQ, fMul, fPow, fI, fIC, fLt, fLe, fGt, fGe, eqD, isD, inD, ixD, toV, scal, putD, fLen, fInt, fAbs, fList, fAll, fTup, fJoin, fUpper, fSl, fRevU, lAppend, lPop, lPopAt, lExt, gN, gT, gTS, gsC, gsN, mChain, leB, ltB, items, strI, lstI, tupI, seqI, keyI, itemI, valI, sFor, Q.sFld, putFM, sRaise, mNeg, mYes, isT, hbi, q8, hc, q9])).trans ?_
        simp [Res.bind, wth, sSeq, sSet, sRet, sRetN, sDrop, sNext, sIf, sPar, sPut, sTo, mVar, mC, mOp, mOut, asB, mNot, mAnd, mOr, mAndV, mOrV, mNotV, mIf, mFrz, mNil, mCons, mLst, mTup, mCB, mIx, ixM, mSl, mPart, mNoPart, mRevU, mSM, mSM0, mLM, mLM0, mCall, mMeth, mFld, mCon, insM, mIsi, tyD, vw, vws, flat, nz, fzm, allD, MS.get, MS.set, MS.new, keyD, fAdd, fSub, fMod, fFdiv, fMulQ, fMul, fPow, fI, fIC, fLt, fLe, fGt, fGe, eqD, isD, inD, ixD, toV, scal, putD, fLen, fInt, fAbs, fList, fAll, fTup, fJoin, fUpper, fSl, fRevU, lAppend, lPop, lPopAt, lExt, gN, gT, gTS, gsC, gsN, mChain, leB, ltB, items, strI, lstI, tupI, seqI, keyI, itemI, valI, sFor, Q.sFld, putFM, sRaise, mNeg, mYes, isT, hm0, hmn, ej]
      · have hbi : ¬ (60000000 : Int) < many := by omega
        obtain ⟨j, hj, ej⟩ := md m4
        refine ⟨j, penO cs (u + 1) 0, [.lst []], hj, pen2.mono (by omega), upto.trans ?_⟩
        refine (seq_nx (env' := [some (.r (.b 0)), some (.d (.int many)), none, some (.d (.int u)), some (.d (.int cell)), some (.d (.int m4))]) (μ' := ⟨[penO cs (u + 1) 0], [.lst []]⟩) (by simp [Res.bind, wth, sSeq, sSet, sRet, sRetN, sDrop, sNext, sIf, sPar, sPut, sTo, mVar, mC, mOp, mOut, asB, mNot, mAnd, mOr, mAndV, mOrV, mNotV, mIf, mFrz, mNil, mCons, mLst, mTup, mCB, mIx, ixM, mSl, mPart, mNoPart, mRevU, mSM, mSM0, mLM, mLM0, mCall, mMeth, mFld, mCon, insM, mIsi, tyD, vw, vws, flat, nz, fzm, allD, MS.get, MS.set, MS.new, keyD, fAdd, fSub, fMod, fFdiv, fMulQ, fMul, fPow, fI, fIC, fLt, fLe, fGt, fGe, eqD, isD, inD, ixD, toV, scal, putD, fLen, fInt, fAbs, fList, fAll, fTup, fJoin, fUpper, fSl, fRevU, lAppend, lPop, lPopAt, lExt, gN, gT, gTS, gsC, gsN, mChain, leB, ltB, items, strI, lstI, tupI, seqI, keyI, itemI, valI, sFor, Q.sFld, putFM, sRaise, mNeg, mYes, isT, hbi])).trans ?_
        simp [Res.bind, wth, sSeq, sSet, sRet, sRetN, sDrop, sNext, sIf, sPar, sPut, sTo, mVar, mC, mOp, mOut, asB, mNot, mAnd, mOr, mAndV, mOrV, mNotV, mIf, mFrz, mNil, mCons, mLst, mTup, mCB, mIx, ixM, mSl, mPart, mNoPart, mRevU, mSM, mSM0, mLM, mLM0, mCall, mMeth, mFld, mCon, insM, mIsi, tyD, vw, vws, flat, nz, fzm, allD, MS.get, MS.set, MS.new, keyD, fAdd, fSub, fMod, fFdiv, fMulQ, fMul, fPow, fI, fIC, fLt, fLe, fGt, fGe, eqD, isD, inD, ixD, toV, scal, putD, fLen, fInt, fAbs, fList, fAll, fTup, fJoin, fUpper, fSl, fRevU, lAppend, lPop, lPopAt, lExt, gN, gT, gTS, gsC, gsN, mChain, leB, ltB, items, strI, lstI, tupI, seqI, keyI, itemI, valI, sFor, Q.sFld, putFM, sRaise, mNeg, mYes, isT, hm0, hmn, ej]
/-- a draw; n levels -/
theorem draw_ok : ∀ (n : Nat) (o : MO) (N many : Nat), PenN N o → N + n ≤ 10 ^ 6 → 1 ≤ many → many ≤ 10 ^ 60 → many ≤ 60000000 * 50000000 ^ n → ∃ (i : Nat) (o' : MO) (L : List MO), i < many ∧ PenN (N + n + 1) o' ∧ f__law_draw (n + 1) [.r (.b 0), .d (.int many)] [o] = .ret (.d (.int i)) ⟨[o'], L⟩
  | n, o, N, many, ⟨cs, u, l, ho, h1, h2, h3, h4⟩, hN, m1, m2, m3 => by
    subst ho
    obtain ⟨i, o', L, hi, hp, e⟩ := draw_step (rf := f__law_draw n) (k := n) h1 h2 h3 (by omega) h4 m1 m2 (fun hbig o ho => by
      cases n with
      | zero => omega
      | succ n =>
        have hp1 : 0 < 50000000 ^ n := Nat.pow_pos (by decide)
        have hpw : many / 60000000 ≤ 50000000 ^ (n + 1) := by
          rw [Nat.div_le_iff_le_mul_add_pred (by decide)]
          omega
        rw [Nat.pow_succ] at hpw
        obtain ⟨i, o', L, hi, hp, e⟩ := draw_ok n o (N + 1) (many / 60000000 + 1) ho (by omega) (by omega) (by omega) (by omega)
        exact ⟨i, o', L, by omega, hp.mono (by omega), e⟩)
    exact ⟨i, o', _, hi, hp, defS_d e (by simp [hp.refs])⟩
/-- a draw, called -/
theorem draw_call {μ : MS} {p : R} {o : MO} {N many : Nat} (g : μ.get p = some o) (h : PenN N o) (hN : N ≤ 10 ^ 5) (m1 : 1 ≤ many) (m2 : many ≤ 10 ^ 40) : ∃ (i : Nat) (o' : MO), i < many ∧ PenN (N + 6) o' ∧ callR fm__law_draw [.r p, .d (.int many)] μ = .ok (.d (.int i)) (μ.set o' p) := by
  obtain ⟨i, o', L, h1, h2, h3⟩ := draw_ok 5 o N many h (by omega) m1 (by omega) (Nat.le_trans m2 (by decide))
  exact ⟨i, o', h1, h2.mono (by omega), call1_d (xs := [.int many]) (h.op g) h3 h2.clD⟩
/-! ### picks -/
theorem get_set_b {μ : MS} {o : MO} {k : Nat} (h : ∃ x, μ.get (.b k) = some x) : (μ.set o (.b k)).get (.b k) = some o := by
  obtain ⟨x, h⟩ := h
  have := (List.getElem?_eq_some_iff.mp h).1
  show (μ.B.set k o)[k]? = some o
  rw [List.getElem?_set_self this]
theorem atI_mem {α : Type} {xs : List α} {i : Nat} (h : i < xs.length) : atI xs (i : Int) = some xs[i] := atI_at (by simp [h])
/-- pick from an own list of data -/
theorem pick_ok {o : MO} {N : Nat} {xs : List D} (h : PenN N o) (hN : N ≤ 10 ^ 5) (hx : 0 < xs.length) (hx2 : xs.length ≤ 10 ^ 6) : ∃ (x : D) (o' : MO) (L : List MO), x ∈ xs ∧ PenN (N + 6) o' ∧ f__law_pick [.r (.b 0), .r (.b 1)] [o, .lst (xs.map MV.d)] = .ret (.d x) ⟨[o', .lst (xs.map MV.d)], L⟩ := by
  obtain ⟨i, o', h1, h2, h3⟩ := draw_call (μ := ⟨[o, .lst (xs.map MV.d)], []⟩) (p := .b 0) (o := o) rfl h hN (many := xs.length) (by omega) (by omega)
  refine ⟨xs[i], o', _, List.getElem_mem _, h2, defS_d (L := []) ?_ (by simp [h2.refs, refs_map])⟩
  have e1 : vw ⟨[o, .lst (xs.map MV.d)], []⟩ (.r (.b 1)) = some (.lst xs) := vw_lst rfl
  have e2 : atI (xs.map MV.d) (i : Int) = some (.d xs[i]) := by
    rw [atI_mem (by simpa using h1)]
    simp
  simp only [MS.set, List.set_cons_zero] at h3
  have e3 : vws ⟨[o, .lst (xs.map MV.d)], []⟩ [.r (.b 1)] = some [.lst xs] := by simp [vws, e1]
  simp [n__law_pick, sRet, wth, mIx, mVar, Res.bind, mCall, mCons, mNil, mCB, e3, fLen, mOut, h3, ixM, MS.get, e2]
theorem pick_call {μ : MS} {p q : R} {o : MO} {N : Nat} {xs : List D} (g : μ.get p = some o) (h : PenN N o) (hN : N ≤ 10 ^ 5) (gq : μ.get q = some (.lst (xs.map MV.d))) (ne : p ≠ q) (hx : 0 < xs.length) (hx2 : xs.length ≤ 10 ^ 6) :
    ∃ (x : D) (o' : MO), x ∈ xs ∧ PenN (N + 6) o' ∧ callR f__law_pick [.r p, .r q] μ = .ok (.d x) ((μ.set o' p).set (.lst (xs.map MV.d)) q) := by
  obtain ⟨x, o', L, h1, h2, h3⟩ := pick_ok (xs := xs) h hN hx hx2
  exact ⟨x, o', h1, h2, call2_d (xs := []) (h.op g) (op_lst gq) ne h3 h2.clD (by show (flat (.lst (xs.map MV.d))).isSome = true; rw [flat_lst]; rfl)⟩
end K03
end

set_option Elab.async false
set_option linter.all false
set_option maxRecDepth 100000
set_option maxHeartbeats 4000000
noncomputable section
open Classical
namespace K03
open PySem PySem.Spec PyProof.Rows L2 G Q
theorem erase_map {α β : Type} (f : α → β) : ∀ (l : List α) (i : Nat), (l.map f).eraseIdx i = (l.eraseIdx i).map f
  | [], _ => rfl
  | a :: l, 0 => rfl
  | a :: l, i + 1 => by rw [List.map_cons, List.eraseIdx_cons_succ, List.eraseIdx_cons_succ, List.map_cons, erase_map f l i]
theorem erase_perm {α : Type} : ∀ {l : List α} {i : Nat} (h : i < l.length), (l[i] :: l.eraseIdx i).Perm l
  | a :: l, 0, _ => .refl _
  | a :: l, i + 1, h => (List.Perm.swap a _ _).trans ((erase_perm (l := l) (i := i) (by simpa using h)).cons a)
theorem seqIx {i n : Nat} (hi : i < n) : seqIndex? (i : Int) n = some i := by
  unfold seqIndex?
  have : ¬ ((i : Int) < 0) := by omega
  simp [this, hi]
theorem small63 {i : Nat} (h : i ≤ 1000) : -(2 ^ 63) ≤ (i : Int) ∧ (i : Int) < 2 ^ 63 := ⟨by omega, by omega⟩
theorem popAt {μ : MS} {left : List D} {i : Nat} (hi : i < left.length) (hb : left.length ≤ 1000) : lPopAt μ (left.map MV.d) [.d (.int i)] = some (.d left[i], (left.eraseIdx i).map MV.d) := by
  unfold lPopAt
  have n1 := small63 (show i ≤ 1000 by omega)
  simp only [n1.1, n1.2, and_self, if_true]
  rw [List.length_map, seqIx hi, Option.bind_some, List.getElem?_map, List.getElem?_eq_getElem hi, erase_map]
  rfl
theorem append_at {μ : MS} {found : List D} {y : D} (h : found.length ≤ 10000) : lAppend μ (found.map MV.d) [.d y] = some (.d .non, (found ++ [y]).map MV.d) := by
  have n2 : (found.map MV.d).length < sizeLine := by rw [sizeLine_eq, List.length_map]; omega
  unfold lAppend
  show (if (found.map MV.d).length < sizeLine then some (MV.d D.non, found.map MV.d ++ [.d y]) else none) = _
  rw [if_pos n2, List.map_append]
  rfl
theorem shuf_ok {o : MO} {N : Nat} {x : D} {xs : List D} (hx : fList [x] = some (.n (.lst (xs.map MV.d)))) (hl : xs.length ≤ 1000) (h : PenN N o) (hN : N + 6 * xs.length ≤ 10 ^ 5) :
    ∃ (ys : List D) (o' : MO) (L : List MO), ys.Perm xs ∧ PenN (N + 6 * xs.length) o' ∧ f__law_shuffled [.r (.b 0), .d x] [o] = .ret (.r (.l 1)) ⟨[o'], L⟩ ∧ L[1]? = some (.lst (ys.map MV.d)) := by
  let I : Nat → En → MS → Prop := fun n env μ => ∃ (left found : List D) (o1 : MO) (rest : List MO), n = left.length ∧ env = [some (.r (.b 0)), some (.d x), some (.r (.l 0)), some (.r (.l 1))] ∧ μ = ⟨[o1], .lst (left.map MV.d) :: .lst (found.map MV.d) :: rest⟩ ∧
    PenN (N + 6 * found.length) o1 ∧ (found ++ left).Perm xs
  let J : En → MS → Prop := fun env μ => ∃ (found : List D) (o1 : MO) (rest : List MO), env = [some (.r (.b 0)), some (.d x), some (.r (.l 0)), some (.r (.l 1))] ∧ μ = ⟨[o1], .lst [] :: .lst (found.map MV.d) :: rest⟩ ∧ PenN (N + 6 * found.length) o1 ∧ found.Perm xs
  obtain ⟨env', μ', hw, found, o1, rest, e1, e2, hp, hperm⟩ := sWhile_inv (c := asB (mOp (eqD true) (mVar 2) (mLst mNil))) (b := sDrop (mLM lAppend (mVar 3) (mCons (mLM lPopAt (mVar 2) (mCons (mCall 2 fm__law_draw (mCons (mVar 0) (mCons (mCB fLen (mCons (mVar 2) mNil)) mNil))) mNil)) mNil))) I J (by
    rintro n env μ ⟨left, found, o1, rest, rfl, rfl, rfl, hp, hperm⟩
    have hlen := hperm.length_eq
    rw [List.length_append] at hlen
    have v0 : ∀ B L, vw ⟨B, .lst (left.map MV.d) :: L⟩ (.r (.l 0)) = some (.lst left) := fun B L => vw_lst rfl
    by_cases hz : left = []
    · subst hz
      refine Or.inl ⟨⟨[o1], .lst [] :: .lst (found.map MV.d) :: (rest ++ [.lst []])⟩, ?_, found, o1, _, rfl, rfl, hp, by simpa using hperm⟩
      have v1 := v0 [o1] (.lst (found.map MV.d) :: (rest ++ [.lst []]))
      simp at v1
      simp [Res.bind, wth, sSeq, sSet, sRet, sRetN, sDrop, sNext, sIf, sPar, sPut, sTo, mVar, mC, mOp, mOut, asB, mNot, mAnd, mOr, mAndV, mOrV, mNotV, mIf, mFrz, mNil, mCons, mLst, mTup, mCB, mIx, ixM, mSl, mPart, mNoPart, mRevU, mSM, mSM0, mLM, mLM0, mCall, mMeth, mFld, mCon, insM, mIsi, tyD, vw, vws, flat, nz, fzm, allD, MS.get, MS.set, MS.new, keyD, fAdd, fSub, fMod, fFdiv, fMulQ, fMul, fPow, fI, fIC, fLt, fLe, fGt, fGe, eqD, isD, inD, ixD, toV, scal, putD, fLen, fInt, fAbs, fList, fAll, fTup, fJoin, fUpper, fSl, fRevU, lAppend, lPop, lPopAt, lExt, gN, gT, gTS, gsC, gsN, mChain, leB, ltB, items, strI, lstI, tupI, seqI, keyI, itemI, valI, sFor, Q.sFld, putFM, sRaise, mNeg, mYes, isT]
    · right
      have hpos : 0 < left.length := List.length_pos_iff.mpr hz
      obtain ⟨i, o2, hi, hp2, hc⟩ := draw_call (μ := ⟨[o1], .lst (left.map MV.d) :: .lst (found.map MV.d) :: (rest ++ [.lst []])⟩) (p := .b 0) (o := o1) rfl hp (by omega) (many := left.length) (by omega) (by omega)
      simp only [MS.set, List.set_cons_zero] at hc
      have v1 := v0 [o1] (.lst (found.map MV.d) :: (rest ++ [.lst []]))
      have v2 := v0 [o2] (.lst (found.map MV.d) :: (rest ++ [.lst []]))
      refine ⟨⟨[o1], .lst (left.map MV.d) :: .lst (found.map MV.d) :: (rest ++ [.lst []])⟩, _, ⟨[o2], .lst ((left.eraseIdx i).map MV.d) :: .lst ((found ++ [left[i]]).map MV.d) :: (rest ++ [.lst []])⟩, (left.eraseIdx i).length, ?_, Or.inl ?_, by rw [List.length_eraseIdx]; split <;> omega, left.eraseIdx i, found ++ [left[i]], o2, _, rfl, rfl, rfl, ?_, ?_⟩
      · have e1 : left.isEmpty = false := by simpa using hz
        have v3 : vw ⟨[o1], .lst (left.map MV.d) :: .lst (found.map MV.d) :: (rest ++ [.lst []])⟩ (.r (.l (rest.length + 1 + 1))) = some (.lst []) := by
          rw [vw]
          simp [MS.get, nz, flat, allD]
        simp [asB, mOp, mVar, mLst, mNil, Res.bind, sz_big, MS.new, v1, v3, eqD, toV, mOut, e1]
      · have n2 := append_at (μ := ⟨[o2], .lst ((left.eraseIdx i).map MV.d) :: .lst (found.map MV.d) :: (rest ++ [.lst []])⟩) (found := found) (y := left[i]) (by omega)
        have n3 : vws ⟨[o1], .lst (left.map MV.d) :: .lst (found.map MV.d) :: (rest ++ [.lst []])⟩ [.r (.l 0)] = some [.lst left] := by rw [vws, v1]; rfl
        have n4 := popAt (μ := ⟨[o2], .lst (left.map MV.d) :: .lst (found.map MV.d) :: (rest ++ [.lst []])⟩) hi (by omega)
        have n5 : mCall 2 fm__law_draw (mCons (mVar 0) (mCons (mCB fLen (mCons (mVar 2) mNil)) mNil)) [some (.r (.b 0)), some (.d x), some (.r (.l 0)), some (.r (.l 1))] ⟨[o1], .lst (left.map MV.d) :: .lst (found.map MV.d) :: (rest ++ [.lst []])⟩ = .ok (.d (.int i)) ⟨[o2], .lst (left.map MV.d) :: .lst (found.map MV.d) :: (rest ++ [.lst []])⟩ :=
          mCall_of (by simp [mCons, mNil, mVar, mCB, Res.bind, n3, fLen, mOut]) rfl hc
        generalize mCall 2 fm__law_draw (mCons (mVar 0) (mCons (mCB fLen (mCons (mVar 2) mNil)) mNil)) = g at n5 ⊢
        exact sDrop_of (mLM_of (p := .l 1) (mVar_of rfl) rfl (mCons_of (mLM_of (p := .l 0) (mVar_of rfl) rfl (mCons_of n5 rfl) rfl n4) rfl) rfl n2)
      · rw [List.length_append]
        exact hp2.mono (by simp; omega)
      · refine List.Perm.trans ?_ hperm
        rw [List.append_assoc]
        refine List.Perm.append_left _ ?_
        exact erase_perm hi) (n := xs.length) (env := [some (.r (.b 0)), some (.d x), some (.r (.l 0)), some (.r (.l 1))]) (μ := ⟨[o], [.lst (xs.map MV.d), .lst []]⟩) ⟨xs, [], o, [], rfl, rfl, rfl, by simpa using h, by simp⟩
  have hh : n__law_shuffled ([MV.r (.b 0), .d x].map some ++ List.replicate (4 - [MV.r (.b 0), .d x].length) none) ⟨[o], []⟩ = .rt (.r (.l 1)) ⟨[o1], .lst [] :: .lst (found.map MV.d) :: rest⟩ := by
    unfold n__law_shuffled
    refine (seq_nx (env' := [some (.r (.b 0)), some (.d x), some (.r (.l 0)), some (.r (.l 1))]) (μ' := ⟨[o], [.lst (xs.map MV.d), .lst []]⟩) ?_).trans ?_
    · simp [sPar, wth, mCons, mCB, mVar, mNil, Res.bind, vws, vw, hx, mOut, mLst, MS.new]
    refine (seq_nx hw).trans ?_
    rw [e1, e2]
    simp [sRet, wth, mVar]
  obtain ⟨L', f1, f2⟩ := defS_r hh (by simp [hp.refs]) rfl (refs_map _)
  exact ⟨found, o1, L', hperm, by rw [← hperm.length_eq]; exact hp, f1, f2⟩
theorem shuf_call {μ : MS} {p : R} {o : MO} {N : Nat} {x : D} {xs : List D} (hx : fList [x] = some (.n (.lst (xs.map MV.d)))) (hl : xs.length ≤ 1000) (g : μ.get p = some o) (h : PenN N o) (hN : N + 6 * xs.length ≤ 10 ^ 5) :
    ∃ (ys : List D) (o' : MO), ys.Perm xs ∧ PenN (N + 6 * xs.length) o' ∧ callR f__law_shuffled [.r p, .d x] μ = .ok (.r (.l (μ.set o' p).L.length)) ((μ.set o' p).new (.lst (ys.map MV.d))) := by
  obtain ⟨ys, o', L, h1, h2, h3, h4⟩ := shuf_ok hx hl h hN
  refine ⟨ys, o', h1, h2, ?_⟩
  refine (call1_n (xs := [x]) (h.op g) h3 h2.clD h4 (by show (flat (.lst (ys.map MV.d))).isSome = true; rw [flat_lst]; rfl)).trans ?_
  cases p with
  | b k => rfl
  | l k => simp [MS.set]
end K03
end

set_option Elab.async false
set_option linter.all false
set_option maxRecDepth 100000
set_option maxHeartbeats 4000000
noncomputable section
open Classical
namespace K03
open PySem PySem.Spec PyProof.Rows L2 G Q
theorem comp_all {ds : List D} : ds.filter (fun _ => true) = ds := List.filter_eq_self.mpr fun _ _ => rfl
theorem toBls_true {α : Type} (l : List α) : toBls (l.map fun _ => D.bl true) = some (l.map fun _ => true) := by
  induction l with
  | nil => rfl
  | cons a l ih => rw [List.map_cons, toBls, ih]; rfl
theorem fAll_true {α : Type} (l : List α) : fAll [.lst (l.map fun _ => D.bl true)] = some (.v (.bl true)) := by
  rw [fAll, toBls_true]
  simp
theorem key_inj {a b : Nat} (h : (Sum.inr ⟨#[a]⟩ : Key) = Sum.inr ⟨#[b]⟩) : a = b := by
  injection h with h
  injection h with h
  simpa using h
theorem keys_nodup {l : List Nat} (h : l.Nodup) : (l.map fun c => (Sum.inr ⟨#[c]⟩ : Key)).Nodup := by
  rw [List.nodup_iff_pairwise_ne, List.pairwise_map]
  exact (List.nodup_iff_pairwise_ne.mp h).imp fun h e => h (key_inj e)
theorem lenSet_txt {m : En → MS → Res MV} {env : En} {μ μ1 : MS} {l : List Nat} (h : m env μ = .ok (.d (.str (txs l))) μ1) (hl : l.length < 4000) (nd : l.Nodup) : mLenSet m env μ = .ok (.d (.int l.length)) μ1 := by
  have e1 := mFrz_d h
  have e2 : (dset (l.map fun c => (Sum.inr ⟨#[c]⟩ : Key))).length = l.length := by
    haveI : Tables := ⟨[]⟩
    rw [(dset_nodup _).mpr (keys_nodup nd), List.length_map]
  simp [mLenSet, e1, Res.bind, itemK, txs_list, hl, e2]
theorem txt_sz {l : List Nat} (h : l.length ≤ 1000) : (txs l).length ≤ sizeLine := by rw [txs_len, sizeLine_eq]; omega
theorem lenD_txt {l : List Nat} (h : l.length ≤ 1000) : fLen [.str (txs l)] = some (.v (.int l.length)) := by
  rw [fLen, if_pos (txt_sz h), txs_len]
/-- a font's text -/
structure Sg (sg : List Nat) : Prop where
  two : 2 ≤ sg.length
  ten : sg.length ≤ 10
  nd : sg.Nodup
  lt : ∀ c ∈ sg, c ∈ ("0123456789abcdefghijklmnopqrstuvwxyz" : Str).cps.toList
theorem items_txt {m : En → MS → Res MV} {env : En} {μ μ1 : MS} {l : List Nat} (h : m env μ = .ok (.d (.str (txs l))) μ1) : items m strI env μ = .ok (l.map ch) μ1 := by
  have e1 := mFrz_d h
  simp [items, e1, Res.bind, strI, txs_list]
  exact fun _ _ => rfl
theorem fontText_ok {sg : List Nat} (h : Sg sg) : ∃ L, f_is_font_text [.d (.str (txs sg)), .d (.int 10)] [] = .ret (.d (.bl true)) ⟨[], L⟩ := by
  have h1 := h.two
  have h2 := h.ten
  refine ⟨_, defS_d (L := [.lst (((sg.map ch).map fun _ => D.bl true).map MV.d)]) ?_ rfl⟩
  unfold n_is_font_text
  refine (seq_nx (env' := [some (.d (.str (txs sg))), some (.d (.int 10)), none]) (μ' := ⟨[], []⟩) ?_).trans ?_
  · have a1 : (2 : Int) ≤ sg.length := by omega
    have a2 : (sg.length : Int) ≤ 10 := by omega
    simp [Res.bind, wth, sSeq, sSet, sRet, sRetN, sDrop, sNext, sIf, sPar, sPut, sTo, mVar, mC, mOp, mOut, asB, mNot, mAnd, mOr, mAndV, mOrV, mNotV, mIf, mFrz, mNil, mCons, mLst, mTup, mCB, mIx, ixM, mSl, mPart, mNoPart, mRevU, mSM, mSM0, mLM, mLM0, mCall, mMeth, mFld, mCon, insM, mIsi, tyD, vw, vws, flat, nz, fzm, allD, MS.get, MS.set, MS.new, keyD, fAdd, fSub, fMod, fFdiv, fMulQ, fMul, fPow, fI, fIC, fLt, fLe, fGt, fGe, eqD, isD, inD, ixD, toV, scal, putD, fLen, fInt, fAbs, fList, fAll, fTup, fJoin, fUpper, fSl, fRevU, lAppend, lPop, lPopAt, lExt, gN, gT, gTS, gsC, gsN, mChain, leB, ltB, items, strI, lstI, tupI, seqI, keyI, itemI, valI, sFor, Q.sFld, putFM, sRaise, mNeg, mYes, isT, txt_sz, lenD_txt, txs_len, a1, a2, sz_big, show sg.length ≤ 1000 by omega, show sg.length ≤ 10 by omega, show 2 ≤ sg.length by omega, show sg.length ≤ sizeLine from sz_big (by omega)]
  · have c1 : mComp (items (mVar 0) strI) (gN 2) mYes (mOp (inD false) (mVar 2) (mC (.str "0123456789abcdefghijklmnopqrstuvwxyz"))) [2] [some (.d (.str (txs sg))), some (.d (.int 10)), none] ⟨[], []⟩ = .ok (.r (.l 0)) ⟨[], [.lst (((sg.map ch).map fun _ => D.bl true).map MV.d)]⟩ := by
      rw [mComp_eq (fun _ => true) (fun _ => D.bl true) (items_txt (mVar_of rfl)) (by rw [List.length_map]; omega) fun d hd => ?_]
      · rw [comp_all]
        rfl
      · obtain ⟨c, hc, rfl⟩ := List.mem_map.mp hd
        have e1 := h.lt c hc
        refine ⟨[some (.d (.str (txs sg))), some (.d (.int 10)), some (.d (ch c))], rfl, rfl, fun _ => mFrz_d (mOp_of (mVar_of rfl) rfl rfl rfl ?_)⟩
        show some (Out.v (.bl (false ^^ inS ⟨#[c]⟩ _))) = _
        rw [inS_sign, decide_eq_true e1]
        rfl
    have c2 := mCB_of (f := fAll) (mCons_of c1 (ns := mNil) rfl) (ds := [.lst ((sg.map ch).map fun _ => D.bl true)]) (by rw [vws, vw_lst rfl]; rfl) (fAll_true _)
    refine sRet_of (x := .d (.bl true)) ?_
    unfold mAndV
    rw [asB_of c2]
    refine mOp_of (lenSet_txt (mVar_of rfl) (by omega) h.nd) (mCB_of (mCons_of (mVar_of rfl) (ns := mNil) rfl) rfl (lenD_txt (by omega))) rfl rfl ?_
    simp [eqD, toV, scal]
end K03
end

set_option Elab.async false
set_option linter.all false
set_option maxRecDepth 100000
set_option maxHeartbeats 4000000
noncomputable section
open Classical
namespace K03
open PySem PySem.Spec PyProof.Rows L2 G Q
/-- an object that is this data, shut or open -/
def Is (μ : MS) (p : R) (d : D) : Prop := ∃ o, μ.get p = some o ∧ moRefs o = [] ∧ flat o = some d
theorem Is.vw {μ : MS} {p : R} {d : D} (h : Is μ p d) : vw μ (.r p) = some d := by
  obtain ⟨o, h1, h2, h3⟩ := h
  rw [Q.vw, h1, Option.bind_some, nz_noR h2]
  exact h3
theorem Is.frzD {μ : MS} {p : R} {d : D} (h : Is μ p d) (n : Nat) : Q.frzD n p μ = some (d, μ.set (.frz d) p) := by
  obtain ⟨o, h1, h2, h3⟩ := h
  exact frzD_of h1 h2 (by rw [nz_noR h2]; exact h3) n
theorem toVs_ch (l : List Nat) : toVs (l.map ch) = some (l.map fun c => V.str ⟨#[c]⟩) := by
  induction l with
  | nil => rfl
  | cons a l ih => rw [List.map_cons, toVs, ih]; rfl
theorem inList_ch (c : Nat) (l : List Nat) : inList false (ch c) (l.map ch) = some (.v (.bl (decide (c ∈ l)))) := by
  have e1 : (l.map fun c => V.str ⟨#[c]⟩).all flatV = true := by rw [List.all_map]; exact List.all_eq_true.mpr fun _ _ => rfl
  have e2 : inV (V.str ⟨#[c]⟩) (l.map fun c => V.str ⟨#[c]⟩) = decide (c ∈ l) := by
    unfold inV
    rw [List.any_map]
    induction l with
    | nil => rfl
    | cons a l ih =>
      rw [List.any_cons, ih (by rw [List.all_map]; exact List.all_eq_true.mpr fun _ _ => rfl)]
      by_cases h : a = c
      · subst h
        simp [eqV]
      · have : ¬ ((⟨#[a]⟩ : Str) = ⟨#[c]⟩) := fun e => h (by injection e with e; simpa using e)
        have h' : ¬ c = a := fun e => h e.symm
        simp [eqV, this, h']
  unfold inList
  rw [toVs_ch, show toV (ch c) = some (V.str ⟨#[c]⟩) from rfl]
  simp [e1, e2, flatV]
theorem valD_keys {kvs : List (Key × D)} {sg : List Nat} (h : kvs.map (·.1) = sg.map fun c => (Sum.inr ⟨#[c]⟩ : Key)) (c : Nat) : (valD kvs (.inr ⟨#[c]⟩)).isSome = decide (c ∈ sg) := by
  induction kvs generalizing sg with
  | nil =>
    cases sg with
    | nil => rfl
    | cons _ _ => cases h
  | cons kv kvs ih =>
    cases sg with
    | nil => cases h
    | cons a sg =>
      rw [List.map_cons, List.map_cons] at h
      injection h with h1 h2
      have := ih h2
      unfold valD at this ⊢
      rw [List.find?_cons]
      by_cases e : a = c
      · subst e
        simp [h1]
      · have n1 : ¬ (kv.1 = (Sum.inr ⟨#[c]⟩ : Key)) := fun z => e (key_inj (h1.symm.trans z))
        have n2 : ¬ c = a := fun z => e z.symm
        simp only [decide_eq_false n1, this]
        simp [n2]
def tD (ts : List (Nat × Nat)) : D := .lst (ts.map fun p => .tup [ch p.1, ch p.2])
/-- turns over a font's signs, apart from one another -/
structure Tn (sg : List Nat) (ts : List (Nat × Nat)) : Prop where
  len : ts.length ≤ 10
  mem : ∀ p ∈ ts, p.1 ∈ sg ∧ p.2 ∈ sg
  apart : ts.Pairwise fun p q => p.1 ≠ q.1 ∧ p.1 ≠ q.2 ∧ p.2 ≠ q.1 ∧ p.2 ≠ q.2
def inPair (sg : List Nat) (p : Nat × Nat) : List Nat := sg.filter fun c => decide (c ∈ [p.1, p.2])
def seenOf (sg : List Nat) (ts : List (Nat × Nat)) : List Nat := ts.flatMap (inPair sg)
theorem seen_nodup {sg : List Nat} (nd : sg.Nodup) : ∀ {ts : List (Nat × Nat)}, (ts.Pairwise fun p q => p.1 ≠ q.1 ∧ p.1 ≠ q.2 ∧ p.2 ≠ q.1 ∧ p.2 ≠ q.2) → (seenOf sg ts).Nodup
  | [], _ => List.nodup_nil
  | p :: ts, h => by
    obtain ⟨h1, h2⟩ := List.pairwise_cons.mp h
    unfold seenOf
    rw [List.flatMap_cons, List.nodup_append]
    refine ⟨nd.filter _, seen_nodup nd h2, fun a ha b hb e => ?_⟩
    subst e
    obtain ⟨q, hq, hb⟩ := List.mem_flatMap.mp hb
    have a1 : a ∈ [p.1, p.2] := by simpa [inPair] using (List.mem_filter.mp ha).2
    have a2 : a ∈ [q.1, q.2] := by simpa [inPair] using (List.mem_filter.mp hb).2
    obtain ⟨n1, n2, n3, n4⟩ := h1 q hq
    simp at a1 a2
    rcases a1 with rfl | rfl <;> rcases a2 with e | e <;> first | exact n1 e | exact n2 e | exact n3 e | exact n4 e
theorem keysD_ch (l : List Nat) : keysD (l.map ch) = some (l.map fun c => (Sum.inr ⟨#[c]⟩ : Key)) := by
  induction l with
  | nil => rfl
  | cons a l ih => rw [List.map_cons, keysD, ih]; rfl
theorem is_list_ok {v : D} (h : ∃ xs, v = .lst xs) : ∃ L, f_is_list [.d v] [] = .ret (.d (.bl true)) ⟨[], L⟩ := by
  obtain ⟨xs, rfl⟩ := h
  exact ⟨_, defS_d (L := []) (by simp [n_is_list, sRet, wth, mIsi, mVar, Res.bind, vw, tyD, isT]) rfl⟩
theorem is_tuple_ok {xs : List D} {n : Nat} (h : xs.length = n) : ∃ L, f_is_tuple_of [.d (.tup xs), .d (.int n)] [] = .ret (.d (.bl true)) ⟨[], L⟩ := by
  subst h
  exact ⟨_, defS_d (L := []) (by simp [n_is_tuple_of, sRet, wth, mAndV, asB, mIsi, mVar, Res.bind, vw, tyD, isT, mOp, mCB, mCons, mNil, vws, fLen, mOut, eqD, toV, scal]) rfl⟩
def bPair (p : Nat × Nat) (d : D) : Bool := match inList false d [ch p.1, ch p.2] with
  | some (.v (.bl t)) => t
  | _ => false
theorem bPair_ch (p : Nat × Nat) (c : Nat) : bPair p (ch c) = decide (c ∈ [p.1, p.2]) := by
  unfold bPair
  rw [show [ch p.1, ch p.2] = [p.1, p.2].map ch from rfl, inList_ch]
theorem filt_pair (sg : List Nat) (p : Nat × Nat) : ((sg.map ch).filter (bPair p)).map id = (inPair sg p).map ch := by
  rw [List.map_id, List.filter_map]
  congr 1
  exact List.filter_congr fun c _ => bPair_ch p c
theorem inD_dct {c : Nat} {kvs : List (Key × D)} {sg : List Nat} (h : kvs.map (·.1) = sg.map fun c => (Sum.inr ⟨#[c]⟩ : Key)) : inD false (ch c) (.dct kvs) = some (.v (.bl (decide (c ∈ sg)))) := by
  have := valD_keys h c
  simp [inD, ch, keyD, this]
theorem turn_step {sg : List Nat} {ts : List (Nat × Nat)} {kvs : List (Key × D)} {p : Nat × Nat} {o : MO} {sn : List D} {rest : List MO} {e3 : Option MV} (sl : sg.length ≤ 10) (hk : kvs.map (·.1) = sg.map fun c => (Sum.inr ⟨#[c]⟩ : Key)) (hm : p.1 ∈ sg ∧ p.2 ∈ sg) (ho : moRefs o = []) (hf : flat o = some (.dct kvs)) (hs : sn.length ≤ 1000)
    {env1 : En} (he : env1 = [some (.d (tD ts)), some (.r (.b 0)), some (.r (.l 0)), some (.d (.tup [ch p.1, ch p.2])), none]) {M : Mir} (hM : M = (sSeq (sIf (mOr (mNot (asB (mCall 2 f_is_tuple_of (mCons (mVar 3) (mCons (mC (.int 2)) mNil))))) (mNot (asB (mCB fAll (mCons (mComp (items (mVar 3) tupI) (gN 4) mYes (mAndV (mIsi (fun t => isT t "str") (mVar 4)) (mOp (inD false) (mVar 4) (mVar 1))) [4]) mNil))))) (sRet (mC (.bl false))) sNext)
  (sDrop (mLM lExt (mVar 2) (mCons (mComp (items (mVar 1) keyI) (gN 4) (asB (mOp (inD false) (mVar 4) (mVar 3))) (mVar 4) [4]) mNil))))) :
    ∃ rest', M env1 ⟨[o], .lst (sn.map MV.d) :: rest⟩ = .nx env1 ⟨[.frz (.dct kvs)], .lst ((sn ++ (inPair sg p).map ch).map MV.d) :: rest'⟩ := by
  subst hM he
  obtain ⟨Lt, ht⟩ := is_tuple_ok (xs := [ch p.1, ch p.2]) (n := 2) rfl
  have v1 : ∀ L, vw ⟨[o], L⟩ (.r (.b 0)) = some (.dct kvs) := fun L => Is.vw ⟨o, rfl, ho, hf⟩
  have c0 := mCall_of (n := 2) (f := f_is_tuple_of) (env := [some (.d (tD ts)), some (.r (.b 0)), some (.r (.l 0)), some (.d (.tup [ch p.1, ch p.2])), none]) (μ := ⟨[o], .lst (sn.map MV.d) :: rest⟩) (ns := mCons (mVar 3) (mCons (mC (.int 2)) mNil)) (ms := [.d (.tup [ch p.1, ch p.2]), .d (.int 2)]) (mCons_of (mVar_of rfl) rfl) rfl (call_d (xs := [.tup [ch p.1, ch p.2], .int 2]) ht)
  have c1 : mComp (items (mVar 3) tupI) (gN 4) mYes (mAndV (mIsi (fun t => isT t "str") (mVar 4)) (mOp (inD false) (mVar 4) (mVar 1))) [4] [some (.d (tD ts)), some (.r (.b 0)), some (.r (.l 0)), some (.d (.tup [ch p.1, ch p.2])), none] ⟨[o], .lst (sn.map MV.d) :: rest⟩ =
      .ok (.r (.l (rest.length + 1))) ⟨[o], .lst (sn.map MV.d) :: (rest ++ [.lst (([ch p.1, ch p.2].map fun _ => D.bl true).map MV.d)])⟩ := by
    rw [mComp_eq (fun _ => true) (fun _ => D.bl true) (ds := [ch p.1, ch p.2]) (μ1 := ⟨[o], .lst (sn.map MV.d) :: rest⟩) (by rw [items, mFrz_d (mVar_of rfl)]; rfl) (by simp) fun d hd => ?_]
    · rw [comp_all]
      rfl
    · have hd' : ∃ c ∈ sg, d = ch c := by
        simp at hd
        rcases hd with rfl | rfl
        · exact ⟨_, hm.1, rfl⟩
        · exact ⟨_, hm.2, rfl⟩
      obtain ⟨c, hc, rfl⟩ := hd'
      refine ⟨[some (.d (tD ts)), some (.r (.b 0)), some (.r (.l 0)), some (.d (.tup [ch p.1, ch p.2])), some (.d (ch c))], rfl, rfl, fun _ => mFrz_d ?_⟩
      have d1 : mIsi (fun t => isT t "str") (mVar 4) [some (.d (tD ts)), some (.r (.b 0)), some (.r (.l 0)), some (.d (.tup [ch p.1, ch p.2])), some (.d (ch c))] ⟨[o], .lst (sn.map MV.d) :: rest⟩ = .ok (.d (.bl true)) ⟨[o], .lst (sn.map MV.d) :: rest⟩ := by simp [mIsi, mVar, Res.bind, vw, ch, tyD, isT]
      have d2 := mOp_of (f := inD false) (env := [some (.d (tD ts)), some (.r (.b 0)), some (.r (.l 0)), some (.d (.tup [ch p.1, ch p.2])), some (.d (ch c))]) (μ := ⟨[o], .lst (sn.map MV.d) :: rest⟩) (mVar_of (i := 4) rfl) (mVar_of (i := 1) rfl) rfl (v1 _) (inD_dct (c := c) hk)
      rw [decide_eq_true hc] at d2
      show mAndV _ _ _ _ = _
      unfold mAndV
      rw [asB_of d1]
      exact d2
  have c2 := asB_of (mCB_of (f := fAll) (mCons_of c1 (ns := mNil) rfl) (ds := [.lst ([ch p.1, ch p.2].map fun _ => D.bl true)]) (by rw [vws, vw_lst (xs := [ch p.1, ch p.2].map fun _ => D.bl true) (by simp [MS.get])]; rfl) (fAll_true _))
  obtain ⟨R, hR⟩ : ∃ R, R = rest ++ [MO.lst (([ch p.1, ch p.2].map fun _ => D.bl true).map MV.d)] := ⟨_, rfl⟩
  rw [← hR] at c1 c2
  refine ⟨R ++ [.lst (((inPair sg p).map ch).map MV.d)], ?_⟩
  have s1 : (sIf (mOr (mNot (asB (mCall 2 f_is_tuple_of (mCons (mVar 3) (mCons (mC (.int 2)) mNil))))) (mNot (asB (mCB fAll (mCons (mComp (items (mVar 3) tupI) (gN 4) mYes (mAndV (mIsi (fun t => isT t "str") (mVar 4)) (mOp (inD false) (mVar 4) (mVar 1))) [4]) mNil))))) (sRet (mC (.bl false))) sNext) [some (.d (tD ts)), some (.r (.b 0)), some (.r (.l 0)), some (.d (.tup [ch p.1, ch p.2])), none] ⟨[o], .lst (sn.map MV.d) :: rest⟩ =
      .nx [some (.d (tD ts)), some (.r (.b 0)), some (.r (.l 0)), some (.d (.tup [ch p.1, ch p.2])), none] ⟨[o], .lst (sn.map MV.d) :: R⟩ := by
    refine (sIf_f ?_).trans rfl
    unfold mOr
    rw [mNot_of (asB_of c0)]
    exact mNot_of c2
  refine (seq_nx s1).trans ?_
  have k1 : items (mVar 1) keyI [some (.d (tD ts)), some (.r (.b 0)), some (.r (.l 0)), some (.d (.tup [ch p.1, ch p.2])), none] ⟨[o], .lst (sn.map MV.d) :: R⟩ = .ok (sg.map ch) ⟨[.frz (.dct kvs)], .lst (sn.map MV.d) :: R⟩ := by
    have e1 : (kvs.map fun kv => kDt kv.1) = sg.map ch := by
      have := congrArg (List.map kDt) hk
      rw [List.map_map, List.map_map] at this
      exact this
    rw [items, mFrz_r (μ2 := ⟨[.frz (.dct kvs)], .lst (sn.map MV.d) :: R⟩) (d := .dct kvs) (mVar_of (i := 1) rfl) (Is.frzD ⟨o, rfl, ho, hf⟩ 4)]
    show (match keyI (.dct kvs) with | some ds => Res.ok ds _ | none => .bad) = _
    rw [keyI, e1]
  have k2 : mComp (items (mVar 1) keyI) (gN 4) (asB (mOp (inD false) (mVar 4) (mVar 3))) (mVar 4) [4] [some (.d (tD ts)), some (.r (.b 0)), some (.r (.l 0)), some (.d (.tup [ch p.1, ch p.2])), none] ⟨[o], .lst (sn.map MV.d) :: R⟩ =
      .ok (.r (.l (R.length + 1))) ⟨[.frz (.dct kvs)], .lst (sn.map MV.d) :: (R ++ [.lst (((inPair sg p).map ch).map MV.d)])⟩ := by
    rw [mComp_eq (bPair p) id k1 (by rw [List.length_map]; omega) fun d hd => ?_]
    · rw [filt_pair]
      rfl
    · obtain ⟨c, hc, rfl⟩ := List.mem_map.mp hd
      refine ⟨[some (.d (tD ts)), some (.r (.b 0)), some (.r (.l 0)), some (.d (.tup [ch p.1, ch p.2])), some (.d (ch c))], rfl, asB_of (mOp_of (mVar_of rfl) (mVar_of rfl) rfl rfl ?_), fun _ => mFrz_d (mVar_of rfl)⟩
      rw [bPair_ch]
      exact inList_ch c [p.1, p.2]
  have l1 : (inPair sg p).length ≤ 10 := Nat.le_trans (List.length_filter_le _ _) sl
  refine sDrop_of (x := .d .non) (mLM_of (p := .l 0) (f := lExt) (xs := sn.map MV.d) (as := [.r (.l (R.length + 1))]) (μ2 := ⟨[.frz (.dct kvs)], .lst (sn.map MV.d) :: (R ++ [.lst (((inPair sg p).map ch).map MV.d)])⟩) (mVar_of rfl) rfl (mCons_of k2 (ns := mNil) rfl) rfl (xs' := (sn ++ (inPair sg p).map ch).map MV.d) (y := .d .non) ?_)
  have v4 : vw ⟨[.frz (.dct kvs)], .lst (sn.map MV.d) :: (R ++ [.lst (((inPair sg p).map ch).map MV.d)])⟩ (.r (.l (R.length + 1))) = some (.lst ((inPair sg p).map ch)) := vw_lst (by simp [MS.get])
  have v5 : (sn.map MV.d).length + ((inPair sg p).map ch).length ≤ sizeLine := by rw [sizeLine_eq, List.length_map, List.length_map]; omega
  unfold lExt
  simp only [v4]
  rw [if_pos v5, List.map_append]
theorem seen_len {sg : List Nat} (sl : sg.length ≤ 10) : ∀ ts : List (Nat × Nat), (seenOf sg ts).length ≤ 10 * ts.length
  | [] => by simp [seenOf]
  | p :: ts => by
    have := seen_len sl ts
    have h1 : (inPair sg p).length ≤ 10 := Nat.le_trans (List.length_filter_le _ _) sl
    unfold seenOf at this ⊢
    rw [List.flatMap_cons, List.length_append, List.length_cons]
    omega
theorem seen_take {sg : List Nat} {ts : List (Nat × Nat)} {i : Nat} {p : Nat × Nat} (h : ts[i]? = some p) : seenOf sg (ts.take (i + 1)) = seenOf sg (ts.take i) ++ inPair sg p := by
  unfold seenOf
  rw [List.take_add_one, h, List.flatMap_append]
  simp
theorem turns_ok {sg : List Nat} {ts : List (Nat × Nat)} {kvs : List (Key × D)} (nd : sg.Nodup) (sl : sg.length ≤ 10) (h : Tn sg ts) (hk : kvs.map (·.1) = sg.map fun c => (Sum.inr ⟨#[c]⟩ : Key)) :
    ∃ (o : MO) (L : List MO), moRefs o = [] ∧ flat o = some (.dct kvs) ∧ closedD o = true ∧ f_are_turns [.d (tD ts), .r (.b 0)] [.dct (dmv kvs)] = .ret (.d (.bl true)) ⟨[o], L⟩ := by
  let I : Nat → En → MS → Prop := fun i env μ => ∃ (o : MO) (e3 : Option MV) (rest : List MO), env = [some (.d (tD ts)), some (.r (.b 0)), some (.r (.l 0)), e3, none] ∧ μ = ⟨[o], .lst (((seenOf sg (ts.take i)).map ch).map MV.d) :: rest⟩ ∧ moRefs o = [] ∧ flat o = some (.dct kvs) ∧ closedD o = true
  obtain ⟨Ll, hl⟩ := is_list_ok (v := tD ts) ⟨_, rfl⟩
  have c0 := mCall_of (n := 1) (f := f_is_list) (env := [some (.d (tD ts)), some (.r (.b 0)), none, none, none]) (μ := ⟨[.dct (dmv kvs)], []⟩) (ns := mCons (mVar 0) mNil) (ms := [.d (tD ts)]) (mCons_of (mVar_of rfl) rfl) rfl (call_d (xs := [tD ts]) hl)
  obtain ⟨env', μ', hw, o, e3, rest, rfl, rfl, ho, hf, hcl⟩ := sFor_inv (ni := items (mVar 0) seqI) (f := gN 3) (b := (sSeq (sIf (mOr (mNot (asB (mCall 2 f_is_tuple_of (mCons (mVar 3) (mCons (mC (.int 2)) mNil))))) (mNot (asB (mCB fAll (mCons (mComp (items (mVar 3) tupI) (gN 4) mYes (mAndV (mIsi (fun t => isT t "str") (mVar 4)) (mOp (inD false) (mVar 4) (mVar 1))) [4]) mNil))))) (sRet (mC (.bl false))) sNext)
  (sDrop (mLM lExt (mVar 2) (mCons (mComp (items (mVar 1) keyI) (gN 4) (asB (mOp (inD false) (mVar 4) (mVar 3))) (mVar 4) [4]) mNil))))) (env := [some (.d (tD ts)), some (.r (.b 0)), some (.r (.l 0)), none, none]) (μ := ⟨[.dct (dmv kvs)], [.lst []]⟩) (μ1 := ⟨[.dct (dmv kvs)], [.lst []]⟩) (ds := ts.map fun p => .tup [ch p.1, ch p.2]) I
    (by rw [items, mFrz_d (mVar_of rfl)]; rfl) ⟨_, none, [], rfl, rfl, refs_dmv kvs, flat_dmv kvs, by show (flat (.dct (dmv kvs))).isSome = true; rw [flat_dmv]; rfl⟩ (by
    rintro i d env μ hd ⟨o, e3, rest, rfl, rfl, ho, hf, hcl⟩
    rw [List.getElem?_map] at hd
    obtain ⟨p, hp, rfl⟩ := Option.map_eq_some_iff.mp hd
    have hi := (List.getElem?_eq_some_iff.mp hp).1
    have hs : ((seenOf sg (ts.take i)).map ch).length ≤ 1000 := by
      have := seen_len sl (ts.take i)
      rw [List.length_take] at this
      have := h.len
      rw [List.length_map]
      omega
    obtain ⟨rest', hr⟩ := turn_step (ts := ts) (p := p) (rest := rest) (e3 := e3) sl hk (h.mem p (List.mem_of_getElem? hp)) ho hf hs rfl rfl
    refine ⟨_, rfl, _, _, Or.inl hr, .frz (.dct kvs), _, rest', rfl, ?_, rfl, rfl, rfl⟩
    rw [seen_take hp, List.map_append, List.map_append, List.map_append])
  rw [List.length_map, List.take_length] at hw
  have hn := seen_nodup nd h.apart
  have hlen := seen_len sl ts
  have hl10 := h.len
  refine ⟨o, _, ho, hf, hcl, defS_d (L := .frz (.lst ((seenOf sg ts).map ch)) :: rest) ?_ (by simp [ho])⟩
  unfold n_are_turns
  refine (seq_nx (env' := [some (.d (tD ts)), some (.r (.b 0)), none, none, none]) (μ' := ⟨[.dct (dmv kvs)], []⟩) ?_).trans ?_
  · exact (sIf_f (mNot_of (asB_of c0))).trans rfl
  refine (seq_nx (env' := [some (.d (tD ts)), some (.r (.b 0)), some (.r (.l 0)), none, none]) (μ' := ⟨[.dct (dmv kvs)], [.lst []]⟩) rfl).trans ?_
  refine (seq_nx hw).trans ?_
  have v1 : mLenSet (mVar 2) [some (.d (tD ts)), some (.r (.b 0)), some (.r (.l 0)), e3, none] ⟨[o], .lst (((seenOf sg ts).map ch).map MV.d) :: rest⟩ = .ok (.d (.int (seenOf sg ts).length)) ⟨[o], .frz (.lst ((seenOf sg ts).map ch)) :: rest⟩ := by
    have e2 : (dset ((seenOf sg ts).map fun c => (Sum.inr ⟨#[c]⟩ : Key))).length = (seenOf sg ts).length := by
      haveI : Tables := ⟨[]⟩
      rw [(dset_nodup _).mpr (keys_nodup hn), List.length_map]
    have e3 : ((seenOf sg ts).map fun c => (Sum.inr ⟨#[c]⟩ : Key)).length < 4000 := by rw [List.length_map]; omega
    unfold mLenSet
    rw [mFrz_r (μ2 := ⟨[o], .frz (.lst ((seenOf sg ts).map ch)) :: rest⟩) (d := .lst ((seenOf sg ts).map ch)) (mVar_of (i := 2) rfl) (frzD_lst rfl 4)]
    show (match itemK (.lst ((seenOf sg ts).map ch)) with | some ks => if ks.length < 4000 then Res.ok (MV.d (.int (dset ks).length)) _ else .bad | none => .bad) = _
    rw [itemK, keysD_ch]
    simp only [if_pos e3, e2]
  refine sRet_of (mOp_of v1 (mCB_of (mCons_of (mVar_of rfl) (ns := mNil) rfl) (ds := [.lst ((seenOf sg ts).map ch)]) rfl (e := .int (seenOf sg ts).length) ?_) rfl rfl ?_)
  · simp [fLen]
  · simp [eqD, toV, scal]
end K03
end

set_option Elab.async false
set_option linter.all false
set_option maxRecDepth 100000
set_option maxHeartbeats 4000000
noncomputable section
open Classical
namespace K03
open PySem PySem.Spec PyProof.Rows L2 G Q
def ky (c : Nat) : Key := Sum.inr ⟨#[c]⟩
theorem putM_dmv (kvs : List (Key × D)) (k : Key) (m : D) : putM (dmv kvs) k (.d m) = dmv (putKD kvs k m) := by
  have e1 : ((dmv kvs).any fun kv => decide (kv.1 = k)) = kvs.any fun kv => decide (kv.1 = k) := by unfold dmv; rw [List.any_map]; rfl
  unfold putM putKD
  rw [e1]
  split
  · unfold dmv
    rw [List.map_map, List.map_map]
    refine List.map_congr_left fun kv _ => ?_
    show (if kv.1 = k then _ else _) = _
    by_cases h : kv.1 = k
    · simp [h]
    · simp [h]
  · unfold dmv
    rw [List.map_append]
    rfl
theorem valD_put (kvs : List (Key × D)) (k j : Key) (m : D) : valD (putKD kvs k m) j = if j = k then some m else valD kvs j := by
  unfold valD putKD
  split
  · rename_i h
    induction kvs with
    | nil => simp at h
    | cons kv kvs ih =>
      rw [List.map_cons, List.find?_cons, List.find?_cons]
      by_cases e : kv.1 = k
      · by_cases e2 : j = k
        · subst e2
          simp [e]
        · have n1 : ¬ k = j := fun z => e2 z.symm
          have n2 : ¬ kv.1 = j := fun z => e2 (z.symm.trans e)
          simp only [e, if_true, decide_eq_false n1, if_neg e2]
          by_cases h3 : (kvs.any fun kv => decide (kv.1 = k)) = true
          · have := ih h3
            rw [if_neg e2] at this
            rw [this]
          · have e4 : kvs.map (fun kv => if kv.1 = k then (kv.1, m) else kv) = kvs := by
              rw [List.map_congr_left (g := id) fun kv hkv => ?_, List.map_id]
              have : ¬ kv.1 = k := fun z => h3 (List.any_eq_true.mpr ⟨kv, hkv, decide_eq_true z⟩)
              simp [this]
            rw [e4]
      · have h3 : (kvs.any fun kv => decide (kv.1 = k)) = true := by simpa [e] using h
        have := ih h3
        rw [if_neg e]
        by_cases e5 : kv.1 = j
        · have e2 : ¬ j = k := fun z => e (e5.trans z)
          simp [e5, e2]
        · simp only [decide_eq_false e5]
          exact this
  · rename_i h
    rw [List.find?_append]
    by_cases e : j = k
    · subst e
      have : kvs.find? (fun kv => decide (kv.1 = j)) = none := List.find?_eq_none.mpr fun kv hkv z => h (List.any_eq_true.mpr ⟨kv, hkv, by simpa using z⟩)
      simp [this]
    · have n1 : ¬ k = j := fun z => e z.symm
      simp [e, n1]
theorem put_keys (kvs : List (Key × D)) (k : Key) (m : D) : (putKD kvs k m).map (·.1) = dadd (kvs.map (·.1)) k := by
  unfold putKD dadd
  by_cases h : (kvs.any fun kv => decide (kv.1 = k)) = true
  · have h2 : k ∈ kvs.map (·.1) := by
      obtain ⟨kv, h3, h4⟩ := List.any_eq_true.mp h
      exact List.mem_map.mpr ⟨kv, h3, of_decide_eq_true h4⟩
    rw [if_pos h, if_pos h2, List.map_map]
    refine List.map_congr_left fun kv _ => ?_
    show (if kv.1 = k then _ else _ : Key × D).1 = _
    split <;> rfl
  · have h2 : k ∉ kvs.map (·.1) := fun z => by
      obtain ⟨kv, h3, h4⟩ := List.mem_map.mp z
      exact h (List.any_eq_true.mpr ⟨kv, h3, decide_eq_true h4⟩)
    rw [if_neg h, if_neg h2, List.map_append]
    rfl
theorem putKD_new {kvs : List (Key × D)} {k : Key} {m : D} (h : k ∉ kvs.map (·.1)) : putKD kvs k m = kvs ++ [(k, m)] := by
  unfold putKD
  rw [if_neg fun z => ?_]
  obtain ⟨kv, h3, h4⟩ := List.any_eq_true.mp z
  exact h (List.mem_map.mpr ⟨kv, h3, of_decide_eq_true h4⟩)
/-- the heads that turns give -/
def hk (ts : List (Nat × Nat)) : List (Key × D) := ts.foldl (fun acc p => putKD (putKD acc (ky p.1) (ch p.2)) (ky p.2) (ch p.1)) []
theorem hk_snoc (ts : List (Nat × Nat)) (p : Nat × Nat) : hk (ts ++ [p]) = putKD (putKD (hk ts) (ky p.1) (ch p.2)) (ky p.2) (ch p.1) := by
  unfold hk
  rw [List.foldl_append]
  rfl
theorem hk_len : ∀ (n : Nat) (ts : List (Nat × Nat)), ts.length = n → (hk ts).length ≤ 2 * n
  | 0, ts, h => by
    rw [List.length_eq_zero_iff.mp h]
    simp [hk]
  | n + 1, ts, h => by
    obtain ⟨ts', p, rfl⟩ : ∃ ts' p, ts = ts' ++ [p] := ⟨ts.dropLast, ts.getLast (fun z => by rw [z] at h; cases h), (List.dropLast_concat_getLast _).symm⟩
    rw [List.length_append] at h
    have ih := hk_len n ts' (by simpa using h)
    have l1 : ∀ (kvs : List (Key × D)) (k : Key) (m : D), (putKD kvs k m).length ≤ kvs.length + 1 := fun kvs k m => by
      unfold putKD
      split
      · rw [List.length_map]; omega
      · rw [List.length_append]; exact Nat.le_refl _
    rw [hk_snoc]
    have a1 := l1 (putKD (hk ts') (ky p.1) (ch p.2)) (ky p.2) (ch p.1)
    have a2 := l1 (hk ts') (ky p.1) (ch p.2)
    omega
theorem ky_inj {a b : Nat} : ky a = ky b ↔ a = b := ⟨key_inj, fun h => by rw [h]⟩
theorem hk_val {c : Nat} {d : D} : ∀ (n : Nat) (ts : List (Nat × Nat)), ts.length = n → (ts.Pairwise fun p q => p.1 ≠ q.1 ∧ p.1 ≠ q.2 ∧ p.2 ≠ q.1 ∧ p.2 ≠ q.2) → (valD (hk ts) (ky c) = some d ↔ ∃ p ∈ ts, (c = p.1 ∧ d = ch p.2) ∨ (c = p.2 ∧ d = ch p.1))
  | 0, ts, h, _ => by
    rw [List.length_eq_zero_iff.mp h]
    simp [hk, valD]
  | n + 1, ts, h, ap => by
    obtain ⟨ts', p, rfl⟩ : ∃ ts' p, ts = ts' ++ [p] := ⟨ts.dropLast, ts.getLast (fun z => by rw [z] at h; cases h), (List.dropLast_concat_getLast _).symm⟩
    rw [List.length_append] at h
    obtain ⟨ap1, _, ap2⟩ := List.pairwise_append.mp ap
    have ih := hk_val (c := c) (d := d) n ts' (by simpa using h) ap1
    simp only [hk_snoc, valD_put, ky_inj]
    constructor
    · intro e
      split at e
      · rename_i h1
        cases e
        exact ⟨p, by simp, Or.inr ⟨h1, rfl⟩⟩
      · split at e
        · rename_i h1
          cases e
          exact ⟨p, by simp, Or.inl ⟨h1, rfl⟩⟩
        · obtain ⟨q, hq, h3⟩ := ih.mp e
          exact ⟨q, by simp [hq], h3⟩
    · rintro ⟨q, hq, h3⟩
      rcases List.mem_append.mp hq with hq | hq
      · obtain ⟨n1, n2, n3, n4⟩ := ap2 q hq p (by simp)
        have hc : c ≠ p.2 ∧ c ≠ p.1 := by
          rcases h3 with ⟨rfl, _⟩ | ⟨rfl, _⟩
          · exact ⟨n2, n1⟩
          · exact ⟨n4, n3⟩
        rw [if_neg hc.1, if_neg hc.2]
        exact ih.mpr ⟨q, hq, h3⟩
      · rw [List.mem_singleton] at hq
        subst hq
        rcases h3 with ⟨rfl, rfl⟩ | ⟨rfl, rfl⟩
        · by_cases e : q.1 = q.2
          · rw [if_pos e, e]
          · rw [if_neg e, if_pos rfl]
        · rw [if_pos rfl]
def rk (sg : List Nat) : List (Key × D) := sg.zipIdx.map fun z => (ky z.1, .int (z.2 : Nat))
theorem rk_keys (sg : List Nat) : (rk sg).map (·.1) = sg.map fun c => (Sum.inr ⟨#[c]⟩ : Key) := by
  unfold rk
  rw [List.map_map]
  have : sg.zipIdx.map (fun z => z.1) = sg := by simp
  conv => rhs; rw [← this, List.map_map]
  rfl
theorem rk_dcomp {f : Tgt} {c : En → MS → Res Bool} {mk mv : En → MS → Res MV} {env : En} {μ : MS} : ∀ (zs : List (Nat × Nat)) (acc : List (Key × D)), (∀ z ∈ zs, ∃ env1, f (.tup [.int (z.2 : Nat), ch z.1]) env = some env1 ∧ c env1 μ = .ok true μ ∧ mk env1 μ = .ok (.d (ch z.1)) μ ∧ mv env1 μ = .ok (.d (.int (z.2 : Nat))) μ) →
    (zs.map fun z => ky z.1).Nodup → (∀ z ∈ zs, ky z.1 ∉ acc.map (·.1)) → acc.length + zs.length ≤ 1000 → dcompF f c mk mv env (zs.map fun z => .tup [.int (z.2 : Nat), ch z.1]) acc μ = .ok (acc ++ zs.map fun z => (ky z.1, .int (z.2 : Nat))) μ
  | [], acc, _, _, _, _ => by simp [dcompF]
  | z :: zs, acc, h, nd, ni, hl => by
    obtain ⟨env1, h1, h2, h3, h4⟩ := h z List.mem_cons_self
    rw [List.map_cons, dcompF, h1]
    rw [List.map_cons, List.nodup_cons] at nd
    have e1 : putKD acc (ky z.1) (.int (z.2 : Nat)) = acc ++ [(ky z.1, .int (z.2 : Nat))] := putKD_new (ni z List.mem_cons_self)
    simp only [h2, Res.bind, if_true, mFrz_d h3, show keyD (ch z.1) = some (ky z.1) from rfl, mFrz_d h4, e1]
    rw [rk_dcomp zs (acc ++ [(ky z.1, D.int (z.2 : Nat))]) (fun z hz => h z (List.mem_cons_of_mem _ hz)) nd.2 (fun z' hz' => ?_) (by rw [List.length_append]; simp at hl ⊢; omega)]
    · rw [List.append_assoc]
      rfl
    · rw [List.map_append, List.mem_append]
      rintro (a | a)
      · exact ni z' (List.mem_cons_of_mem _ hz') a
      · simp at a
        exact nd.1 (List.mem_map.mpr ⟨z', hz', a⟩)
theorem sPut_of {f : MV → MV → MV → MS → Option MS} {mv mo mi : En → MS → Res MV} {env : En} {μ μ1 μ2 μ3 μ4 : MS} {x y z : MV} (hv : mv env μ = .ok z μ1) (ho : mo env μ1 = .ok x μ2) (hi : mi env μ2 = .ok y μ3) (hf : f x y z μ3 = some μ4) : sPut f mv mo mi env μ = .nx env μ4 := by
  unfold sPut
  rw [hv]
  simp only [wth, ho, hi, hf]
theorem putD_of {μ : MS} {p : R} {kvs : List (Key × D)} {c : Nat} {m : D} (h : μ.get p = some (.dct (dmv kvs))) (hl : kvs.length ≤ 1000) : putD (.r p) (.d (ch c)) (.d m) μ = some (μ.set (.dct (dmv (putKD kvs (ky c) m))) p) := by
  have h2 : (dmv kvs).length < sizeLine := by unfold dmv; rw [sizeLine_eq, List.length_map]; omega
  unfold putD
  simp only [h, show keyD (ch c) = some (ky c) from rfl, Option.bind_some]
  rw [if_pos h2, putM_dmv]
theorem call_dp {f : MF} {x : D} {μ : MS} {p : R} {o o' : MO} {y : D} {L : List MO} (hp : Op μ p o) (h : f [.d x, .r (.b 0)] [o] = .ret (.d y) ⟨[o'], L⟩) (hc : closedD o' = true) : callR f [.d x, .r p] μ = .ok (.d y) (μ.set o' p) := by
  unfold callR callR0
  rw [List.map_cons, List.map_cons, hp.fz]
  simp [fzm, refsOf, renum, conts, hp.get, hp.nz, hp.cl, h, hc, setAll]
theorem op_dct {μ : MS} {p : R} {xs : List (Key × D)} (h : μ.get p = some (.dct (dmv xs))) : Op μ p (.dct (dmv xs)) := ⟨h, by show (flat (.dct (dmv xs))).isSome = true; rw [flat_dmv]; rfl, nz_dmv μ xs⟩
/-- a font that was made -/
def fontF (sg : List Nat) (ts : List (Nat × Nat)) : List (Str × D) := [("word", .str (txs sg)), ("ranks", .dct (rk sg)), ("heads", .dct (hk ts))]
def fontO (sg : List Nat) (ts : List (Nat × Nat)) : MO := .ins "Font" [("word", .d (.str (txs sg))), ("ranks", .d (.dct (rk sg))), ("heads", .d (.dct (hk ts)))]
def insF (sg : List Nat) : MO := .ins "Font" [("word", .d (.str (txs sg))), ("ranks", .r (.l 0)), ("heads", .r (.l 1))]
theorem init_font {sg : List Nat} {ts : List (Nat × Nat)} (hs : Sg sg) (ht : Tn sg ts) : ∃ L, f_Font_ddinitdd [.r (.b 0), .d (.str (txs sg)), .d (tD ts)] [.ins "Font" []] = .ret (.d .non) ⟨[fontO sg ts], L⟩ := by
  have h10 := hs.ten
  obtain ⟨L1, hf⟩ := fontText_ok hs
  obtain ⟨o, L2, ho1, ho2, ho3, htn⟩ := turns_ok (kvs := rk sg) hs.nd h10 ht (rk_keys sg)
  have c1 := mCall_of (n := 2) (f := f_is_font_text) (env := [some (.r (.b 0)), some (.d (.str (txs sg))), some (.d (tD ts)), none, none, none, none]) (μ := ⟨[.ins "Font" []], []⟩) (ns := mCons (mVar 1) (mCons (mCon "Font" "MAX_SIGNS" (.int 10) (mVar 0)) mNil)) (ms := [.d (.str (txs sg)), .d (.int 10)]) (mCons_of (mVar_of rfl) rfl) rfl (call_d (xs := [.str (txs sg), .int 10]) hf)
  have c2 : mDComp (enumI strI (mCons (mVar 1) mNil)) (gT (gsC (gN 5) (gsC (gN 6) gsN))) mYes (mVar 6) (mVar 5) [5, 6] [some (.r (.b 0)), some (.d (.str (txs sg))), some (.d (tD ts)), none, none, none, none] ⟨[.ins "Font" [("word", .d (.str (txs sg)))]], []⟩ =
      .ok (.r (.l 0)) ⟨[.ins "Font" [("word", .d (.str (txs sg)))]], [.dct (dmv (rk sg))]⟩ := by
    have e1 : enumI strI (mCons (mVar 1) mNil) [some (.r (.b 0)), some (.d (.str (txs sg))), some (.d (tD ts)), none, none, none, none] ⟨[.ins "Font" [("word", .d (.str (txs sg)))]], []⟩ = .ok (sg.zipIdx.map fun z => .tup [.int (z.2 : Nat), ch z.1]) ⟨[.ins "Font" [("word", .d (.str (txs sg)))]], []⟩ := by
      have e0 : (sg.map ch).zipIdx = sg.zipIdx.map fun z => (ch z.1, z.2) := by rw [List.zipIdx_map]; rfl
      unfold enumI
      rw [mCons_of (mVar_of (i := 1) rfl) (ns := mNil) rfl]
      show (match strI (.str (txs sg)) with | some ds => Res.ok (ds.zipIdx.map fun z : D × Nat => D.tup [.int (z.2 : Nat), z.1]) _ | none => .bad) = _
      rw [show strI (.str (txs sg)) = some (sg.map ch) from by rw [strI, txs_list]; rfl]
      simp only [e0, List.map_map]
      rfl
    unfold mDComp
    rw [e1]
    simp only [Res.bind, List.length_map, List.length_zipIdx]
    rw [if_pos (by omega), rk_dcomp sg.zipIdx [] (fun z hz => ⟨_, rfl, rfl, mVar_of rfl, mVar_of rfl⟩) ?_ (by simp) (by simp; omega)]
    · rfl
    · have := rk_keys sg
      unfold rk at this
      rw [List.map_map] at this
      have e2 := keys_nodup hs.nd
      rw [← this] at e2
      exact e2
  obtain ⟨E0, hE0⟩ : ∃ E : En, E = [some (.r (.b 0)), some (.d (.str (txs sg))), some (.d (tD ts)), none, none, none, none] := ⟨_, rfl⟩
  rw [← hE0] at c1 c2
  have hself : ∀ μ, mVar 0 E0 μ = .ok (.r (.b 0)) μ := fun μ => by rw [hE0]; rfl
  have hturns : ∀ μ, mVar 2 E0 μ = .ok (.d (tD ts)) μ := fun μ => by rw [hE0]; rfl
  have c3 : mCall 2 f_are_turns (mCons (mVar 2) (mCons (mFld "Font" "ranks" (mVar 0)) mNil)) E0 ⟨[.ins "Font" [("word", .d (.str (txs sg))), ("ranks", .r (.l 0))]], [.dct (dmv (rk sg))]⟩ = .ok (.d (.bl true)) ⟨[.ins "Font" [("word", .d (.str (txs sg))), ("ranks", .r (.l 0))]], [o]⟩ :=
    mCall_of (mCons_of (hturns _) (mCons_of (mFld_of (hself _) rfl rfl) (ns := mNil) rfl)) rfl (call_dp (op_dct rfl) htn ho3)
  -- the turns' walk
  let I : Nat → En → MS → Prop := fun i env μ => ∃ (e3 e4 : Option MV), env = [some (.r (.b 0)), some (.d (.str (txs sg))), some (.d (tD ts)), e3, e4, none, none] ∧ μ = ⟨[insF sg], [o, .dct (dmv (hk (ts.take i)))]⟩
  obtain ⟨env', μ', hw, e3, e4, he', rfl⟩ := sFor_inv (ni := items (mVar 2) seqI) (f := gT (gsC (gN 3) (gsC (gN 4) gsN))) (b := (sSeq (sPut putD (mVar 4) (mFld "Font" "heads" (mVar 0)) (mVar 3))
  (sPut putD (mVar 3) (mFld "Font" "heads" (mVar 0)) (mVar 4)))) (env := [some (.r (.b 0)), some (.d (.str (txs sg))), some (.d (tD ts)), none, none, none, none]) (μ := ⟨[insF sg], [o, .dct []]⟩) (μ1 := ⟨[insF sg], [o, .dct []]⟩) (ds := ts.map fun p => .tup [ch p.1, ch p.2]) I
    (by rw [items, mFrz_d (mVar_of rfl)]; rfl) ⟨none, none, rfl, rfl⟩ (by
    rintro i d env μ hd ⟨e3, e4, rfl, rfl⟩
    rw [List.getElem?_map] at hd
    obtain ⟨p, hp, rfl⟩ := Option.map_eq_some_iff.mp hd
    have hi := (List.getElem?_eq_some_iff.mp hp).1
    have l1 := hk_len _ (ts.take i) rfl
    have hl10 := ht.len
    rw [List.length_take] at l1
    have e5 : hk (ts.take (i + 1)) = putKD (putKD (hk (ts.take i)) (ky p.1) (ch p.2)) (ky p.2) (ch p.1) := by
      rw [List.take_add_one, hp]
      exact hk_snoc _ _
    refine ⟨[some (.r (.b 0)), some (.d (.str (txs sg))), some (.d (tD ts)), some (.d (ch p.1)), some (.d (ch p.2)), none, none], rfl, [some (.r (.b 0)), some (.d (.str (txs sg))), some (.d (tD ts)), some (.d (ch p.1)), some (.d (ch p.2)), none, none], _, Or.inl ?_, _, _, rfl, by rw [e5]⟩
    have f1 : ∀ (E : En) (L : List MO), E[0]? = some (some (.r (.b 0))) → mFld "Font" "heads" (mVar 0) E ⟨[insF sg], L⟩ = .ok (.r (.l 1)) ⟨[insF sg], L⟩ := fun E L hE => mFld_of (mVar_of hE) rfl rfl
    have l2 : (putKD (hk (ts.take i)) (ky p.1) (ch p.2)).length ≤ 1000 := by
      haveI : Tables := ⟨[]⟩
      have := putKD_len (hk (ts.take i)) (ky p.1) (ch p.2)
      omega
    refine (seq_nx (sPut_of (mVar_of (i := 4) rfl) (f1 _ _ rfl) (mVar_of (i := 3) rfl) (putD_of (μ := ⟨[insF sg], [o, .dct (dmv (hk (ts.take i)))]⟩) (p := .l 1) rfl (by omega)))).trans ?_
    exact sPut_of (mVar_of (i := 3) rfl) (f1 _ _ rfl) (mVar_of (i := 4) rfl) (putD_of (μ := ⟨[insF sg], [o, .dct (dmv (putKD (hk (ts.take i)) (ky p.1) (ch p.2)))]⟩) (p := .l 1) rfl l2))
  rw [List.length_map, List.take_length] at hw
  have walk : n_Font_ddinitdd E0 ⟨[.ins "Font" []], []⟩ = .nx env' ⟨[insF sg], [o, .dct (dmv (hk ts))]⟩ := by
    unfold n_Font_ddinitdd
    refine (seq_nx (env' := E0) (μ' := ⟨[.ins "Font" []], []⟩) ((sIf_f (mNot_of (asB_of c1))).trans rfl)).trans ?_
    refine (seq_nx (env' := E0) (μ' := ⟨[.ins "Font" [("word", .d (.str (txs sg)))]], []⟩) ?_).trans ?_
    · rw [hE0]
      rfl
    refine (seq_nx (env' := E0) (μ' := ⟨[.ins "Font" [("word", .d (.str (txs sg))), ("ranks", .r (.l 0))]], [.dct (dmv (rk sg))]⟩) ?_).trans ?_
    · unfold Q.sFld
      rw [c2]
      simp only [wth, hself]
      rfl
    refine (seq_nx (env' := E0) (μ' := ⟨[.ins "Font" [("word", .d (.str (txs sg))), ("ranks", .r (.l 0))]], [o]⟩) ((sIf_f (mNot_of (asB_of c3))).trans rfl)).trans ?_
    refine (seq_nx (env' := E0) (μ' := ⟨[insF sg], [o, .dct []]⟩) ?_).trans ?_
    · rw [hE0]
      rfl
    rw [hE0]
    exact hw
  have sh : shut (.d .non) ⟨[insF sg], [o, .dct (dmv (hk ts))]⟩ = some ⟨[fontO sg ts], [.frz (.dct (rk sg)), .frz (.dct (hk ts))]⟩ := by
    have i1 : inner (.d .non) ⟨[insF sg], [o, .dct (dmv (hk ts))]⟩ = [.l 0, .l 1] := rfl
    have a1 : frzD 3 (.l 0) ⟨[insF sg], [o, .dct (dmv (hk ts))]⟩ = some (.dct (rk sg), ⟨[insF sg], [.frz (.dct (rk sg)), .dct (dmv (hk ts))]⟩) := Is.frzD ⟨o, rfl, ho1, ho2⟩ 3
    have a2 : frzD 3 (.l 1) ⟨[insF sg], [.frz (.dct (rk sg)), .dct (dmv (hk ts))]⟩ = some (.dct (hk ts), ⟨[insF sg], [.frz (.dct (rk sg)), .frz (.dct (hk ts))]⟩) := frzD_dct rfl 3
    unfold shut
    rw [i1, frzs, a1, Option.bind_some, frzs, a2, Option.bind_some, frzs]
    rfl
  refine ⟨[.frz (.dct (rk sg)), .frz (.dct (hk ts))], ?_⟩
  show mDefS 7 n_Font_ddinitdd [.r (.b 0), .d (.str (txs sg)), .d (tD ts)] [.ins "Font" []] = _
  unfold mDefS
  rw [show ([MV.r (.b 0), .d (.str (txs sg)), .d (tD ts)].map some ++ List.replicate (7 - [MV.r (.b 0), .d (.str (txs sg)), .d (tD ts)].length) none : En) = E0 from by rw [hE0]; rfl, walk]
  simp only [sh]
end K03
end

set_option Elab.async false
set_option linter.all false
set_option maxRecDepth 100000
set_option maxHeartbeats 4000000
noncomputable section
open Classical
namespace K03
open PySem PySem.Spec PyProof.Rows L2 G Q
theorem toStrs_ch (l : List Nat) : toStrs (l.map ch) = some (l.map fun c => (⟨#[c]⟩ : Str)) := by
  induction l with
  | nil => rfl
  | cons a l ih =>
    show (toStrs (l.map ch)).map ((⟨#[a]⟩ : Str) :: ·) = _
    rw [ih]
    rfl
theorem join_ch (l : List Nat) : Txt.join (Str.ofString "") (l.map fun c => (⟨#[c]⟩ : Str)) = txs l := by
  have := join_empty (l.map fun c => [c])
  rw [List.map_map] at this
  refine this.trans ?_
  unfold txs
  congr 2
  induction l with
  | nil => rfl
  | cons a l ih => rw [List.map_cons, List.flatten_cons, ih (by have := join_empty (l.map fun c => [c]); rw [List.map_map] at this; exact this)]; rfl
theorem fJoin_ch {l : List Nat} (h : l.length ≤ 1000) : fJoin (.str "") [.lst (l.map ch)] = some (.v (.str (txs l))) := by
  have e1 : ((l.map fun c => (⟨#[c]⟩ : Str)).map (·.length)).sum = l.length := by
    rw [List.map_map]
    clear h
    induction l with
    | nil => rfl
    | cons a l ih => rw [List.map_cons, List.sum_cons, ih, List.length_cons]; show 1 + _ = _; omega
  have e2 : ((l.map fun c => (⟨#[c]⟩ : Str)).map (·.length)).sum + (l.map fun c => (⟨#[c]⟩ : Str)).length * (Str.ofString "").length ≤ 16777216 := by
    rw [e1, List.length_map, show (Str.ofString "").length = 0 from by decide +kernel]
    omega
  unfold fJoin
  simp only [toStrs_ch, Option.bind_some]
  rw [if_pos e2, join_ch]
theorem cutS_to {l : List Nat} {n : Nat} : cutS (txs l) none (some n) = txs (l.take n) := by
  unfold cutS
  rw [HT.sIx_none, HT.sIx_nat, List.drop_zero, Nat.sub_zero, txs_list, txs_len]
  unfold txs
  rw [← List.take_eq_take_min]
theorem cutD_to {xs : List D} {n : Nat} : Q.cutD xs none (some n) = xs.take n := by
  unfold Q.cutD
  rw [HT.sIx_none, HT.sIx_nat, List.drop_zero, Nat.sub_zero, ← List.take_eq_take_min]
theorem mTup_of {ns : En → MS → Res (List MV)} {env : En} {μ μ1 : MS} {ds : List D} (h : ns env μ = .ok (ds.map MV.d) μ1) (hl : ds.length ≤ 1000) : mTup ns env μ = .ok (.d (.tup ds)) μ1 := by
  have h2 : ds.length ≤ sizeLine := sz_big hl
  unfold mTup
  rw [h]
  simp only [Res.bind, fz_map, allD_map, if_pos h2]
theorem tup2_of {a b : En → MS → Res MV} {env : En} {μ μ1 μ2 : MS} {x y : D} (ha : a env μ = .ok (.d x) μ1) (hb : b env μ1 = .ok (.d y) μ2) : mTup (mCons a (mCons b mNil)) env μ = .ok (.d (.tup [x, y])) μ2 := mTup_of (ds := [x, y]) (mCons_of ha (mCons_of hb rfl)) (by simp)
theorem perm_map {α β : Type} {f : α → β} {l : List α} {ys : List β} (h : ys.Perm (l.map f)) : ∃ l' : List α, ys = l'.map f ∧ l'.Perm l := by
  generalize hz : l.map f = zs at h
  induction h generalizing l with
  | nil => exact ⟨[], rfl, by rw [List.map_eq_nil_iff.mp hz]⟩
  | cons x h ih =>
    cases l with
    | nil => cases hz
    | cons a l =>
      rw [List.map_cons] at hz
      injection hz with e1 e2
      obtain ⟨l', h1, h2⟩ := ih e2
      exact ⟨a :: l', by rw [List.map_cons, h1, e1], h2.cons a⟩
  | swap x y l0 =>
    match l, hz with
    | a :: b :: l, hz =>
      rw [List.map_cons, List.map_cons] at hz
      injection hz with e1 e2
      injection e2 with e2 e3
      subst e1 e2 e3
      exact ⟨b :: a :: l, rfl, List.Perm.swap a b l⟩
  | trans h1 h2 ih1 ih2 =>
    obtain ⟨l1, e1, p1⟩ := ih2 hz
    obtain ⟨l2, e2, p2⟩ := ih1 e1.symm
    exact ⟨l2, e2, p2.trans p1⟩
theorem popE {μ : MS} {l : List Nat} {c : Nat} : lPop μ (((l ++ [c]).map ch).map MV.d) [] = some (.d (ch c), (l.map ch).map MV.d) := by
  unfold lPop
  simp
/-- the state in which turns are drawn -/
structure TS1 (sg left : List Nat) (ts : List (Nat × Nat)) : Prop where
  nd : left.Nodup
  sub : ∀ c ∈ left, c ∈ sg
  mem : ∀ p ∈ ts, p.1 ∈ sg ∧ p.2 ∈ sg
  out : ∀ p ∈ ts, p.1 ∉ left ∧ p.2 ∉ left
  apart : ts.Pairwise fun p q => p.1 ≠ q.1 ∧ p.1 ≠ q.2 ∧ p.2 ≠ q.1 ∧ p.2 ≠ q.2
  len : ts.length + left.length ≤ sg.length
theorem TS1.pop {sg l : List Nat} {c : Nat} {ts : List (Nat × Nat)} (h : TS1 sg (l ++ [c]) ts) : TS1 sg l ts ∧ c ∈ sg ∧ c ∉ l ∧ (∀ p ∈ ts, p.1 ≠ c ∧ p.2 ≠ c) ∧ ts.length + l.length + 1 ≤ sg.length := by
  have h1 := List.nodup_append.mp h.nd
  have h2 := h.len
  rw [List.length_append, List.length_singleton] at h2
  refine ⟨⟨h1.1, fun c hc => h.sub c (by simp [hc]), h.mem, fun p hp => ?_, h.apart, by omega⟩, h.sub c (by simp), fun z => h1.2.2 c z c (by simp) rfl, fun p hp => ?_, by omega⟩
  · obtain ⟨a, b⟩ := h.out p hp
    exact ⟨fun z => a (by simp [z]), fun z => b (by simp [z])⟩
  · obtain ⟨a, b⟩ := h.out p hp
    exact ⟨fun z => a (by simp [z]), fun z => b (by simp [z])⟩
theorem TS1.add {sg l : List Nat} {a b : Nat} {ts : List (Nat × Nat)} (h : TS1 sg l ts) (ha : a ∈ sg ∧ a ∉ l ∧ ∀ p ∈ ts, p.1 ≠ a ∧ p.2 ≠ a) (hb : b ∈ sg ∧ b ∉ l ∧ ∀ p ∈ ts, p.1 ≠ b ∧ p.2 ≠ b) (hl : ts.length + l.length + 1 ≤ sg.length) : TS1 sg l (ts ++ [(a, b)]) := by
  refine ⟨h.nd, h.sub, fun p hp => ?_, fun p hp => ?_, ?_, by rw [List.length_append, List.length_singleton]; omega⟩
  · rcases List.mem_append.mp hp with hp | hp
    · exact h.mem p hp
    · rw [List.mem_singleton.mp hp]; exact ⟨ha.1, hb.1⟩
  · rcases List.mem_append.mp hp with hp | hp
    · exact h.out p hp
    · rw [List.mem_singleton.mp hp]; exact ⟨ha.2.1, hb.2.1⟩
  · rw [List.pairwise_append]
    refine ⟨h.apart, by simp, fun p hp q hq => ?_⟩
    rw [List.mem_singleton.mp hq]
    exact ⟨(ha.2.2 p hp).1, (hb.2.2 p hp).1, (ha.2.2 p hp).2, (hb.2.2 p hp).2⟩
theorem eqI (i j : Int) : eqD false (.int i) (.int j) = some (.v (.bl (decide (i = j)))) := by
  unfold eqD
  simp [toV, scal]
theorem and_t {c d : En → MS → Res Bool} {env : En} {μ μ1 : MS} {r : Res Bool} (h : c env μ = .ok true μ1) (k : d env μ1 = r) : mAnd c d env μ = r := by
  unfold mAnd
  rw [h]
  exact k
theorem and_f {c d : En → MS → Res Bool} {env : En} {μ μ1 : MS} (h : c env μ = .ok false μ1) : mAnd c d env μ = .ok false μ1 := by
  unfold mAnd
  rw [h]
  rfl
def tp (p : Nat × Nat) : D := .tup [ch p.1, ch p.2]
theorem appT {μ : MS} {ts : List (Nat × Nat)} {p : Nat × Nat} (h : ts.length ≤ 100) : lAppend μ ((ts.map tp).map MV.d) [.d (.tup [ch p.1, ch p.2])] = some (.d .non, ((ts ++ [p]).map tp).map MV.d) := by
  have := append_at (μ := μ) (found := ts.map tp) (y := tp p) (by rw [List.length_map]; omega)
  rw [List.map_append]
  exact this
theorem lst_nil {env : En} {μ : MS} : mLst mNil env μ = .ok (.r (.l μ.L.length)) (μ.new (.lst [])) := by
  have h : ([] : List MV).length ≤ sizeLine := Nat.zero_le _
  show (if ([] : List MV).length ≤ sizeLine then Res.ok _ _ else Res.bad) = _
  rw [if_pos h]
theorem eqNil (xs : List D) : eqD true (.lst xs) (.lst []) = some (.v (.bl (!xs.isEmpty))) := by
  unfold eqD
  simp [toV]
theorem neNil {env : En} {μ : MS} {i : Nat} {p : R} {xs : List D} (hv : env[i]? = some (some (.r p))) (hg : (μ.new (.lst [])).get p = some (.lst (xs.map MV.d))) : asB (mOp (eqD true) (mVar i) (mLst mNil)) env μ = .ok (!xs.isEmpty) (μ.new (.lst [])) :=
  asB_of (mOp_of (mVar_of hv) lst_nil (vw_lst hg) (vw_lst (xs := []) (by simp [MS.get, MS.new])) (eqNil xs))
theorem font_turn {sg l : List Nat} {c : Nat} {ts : List (Nat × Nat)} {o x0 x1 x2 : MO} {N : Nat} {rest : List MO} {E1 E2 E3 E4 e7 e8 : Option MV} (hp : PenN N o) (hN : N ≤ 10 ^ 5) (sl : sg.length ≤ 10) (h : TS1 sg (l ++ [c]) ts) {M : Mir}
    (hM : M = (sSeq (sPar 7 8 (mCons (mLM0 lPop (mVar 5)) (mCons (mCall 2 fm__law_draw (mCons (mVar 0) (mCons (mC (.int 3)) mNil))) mNil)))
  (sSeq (sIf (asB (mOp (eqD false) (mVar 8) (mC (.int 1)))) (sDrop (mLM lAppend (mVar 6) (mCons (mTup (mCons (mFrz (mVar 7)) (mCons (mFrz (mVar 7)) mNil))) mNil))) sNext)
  (sIf (mAnd (asB (mOp (eqD false) (mVar 8) (mC (.int 2)))) (asB (mOp (eqD true) (mVar 5) (mLst mNil)))) (sDrop (mLM lAppend (mVar 6) (mCons (mTup (mCons (mFrz (mVar 7)) (mCons (mFrz (mLM0 lPop (mVar 5))) mNil))) mNil))) sNext)))) :
    ∃ (l' : List Nat) (ts' : List (Nat × Nat)) (o' : MO) (rest' : List MO) (e7' e8' : Option MV), l'.length < (l ++ [c]).length ∧ TS1 sg l' ts' ∧ PenN (N + 6) o' ∧
      M [some (.r (.b 0)), E1, E2, E3, E4, some (.r (.l 3)), some (.r (.l 4)), e7, e8] ⟨[o], x0 :: x1 :: x2 :: .lst (((l ++ [c]).map ch).map MV.d) :: .lst ((ts.map tp).map MV.d) :: rest⟩ =
        .nx [some (.r (.b 0)), E1, E2, E3, E4, some (.r (.l 3)), some (.r (.l 4)), e7', e8'] ⟨[o'], x0 :: x1 :: x2 :: .lst ((l'.map ch).map MV.d) :: .lst ((ts'.map tp).map MV.d) :: rest'⟩ := by
  obtain ⟨h1, hc1, hc2, hc3, hl⟩ := h.pop
  obtain ⟨i, o', hi, hp2, hd⟩ := draw_call (μ := ⟨[o], x0 :: x1 :: x2 :: .lst ((l.map ch).map MV.d) :: .lst ((ts.map tp).map MV.d) :: rest⟩) (p := .b 0) (o := o) rfl hp hN (many := 3) (by omega) (by omega)
  have hl10 : ts.length ≤ 100 := by omega
  have hA : sPar 7 8 (mCons (mLM0 lPop (mVar 5)) (mCons (mCall 2 fm__law_draw (mCons (mVar 0) (mCons (mC (.int 3)) mNil))) mNil)) [some (.r (.b 0)), E1, E2, E3, E4, some (.r (.l 3)), some (.r (.l 4)), e7, e8] ⟨[o], x0 :: x1 :: x2 :: .lst (((l ++ [c]).map ch).map MV.d) :: .lst ((ts.map tp).map MV.d) :: rest⟩ =
      .nx [some (.r (.b 0)), E1, E2, E3, E4, some (.r (.l 3)), some (.r (.l 4)), some (.d (ch c)), some (.d (.int i))] ⟨[o'], x0 :: x1 :: x2 :: .lst ((l.map ch).map MV.d) :: .lst ((ts.map tp).map MV.d) :: rest⟩ :=
    sPar_of (mCons_of (mLM0_of (p := .l 3) (mVar_of rfl) rfl popE) (mCons_of (mCall_of (mCons_of (mVar_of rfl) rfl) rfl hd) (ns := mNil) rfl))
  subst hM
  have hw : ∀ (j : Nat) L, asB (mOp (eqD false) (mVar 8) (mC (.int j))) [some (.r (.b 0)), E1, E2, E3, E4, some (.r (.l 3)), some (.r (.l 4)), some (.d (ch c)), some (.d (.int i))] ⟨[o'], L⟩ = .ok (decide (i = j)) ⟨[o'], L⟩ := fun j L => by
    refine asB_of (mOp_of (mVar_of rfl) rfl rfl rfl ?_)
    rw [eqI]
    by_cases e : i = j
    · subst e; simp
    · have : ¬ ((i : Int) = (j : Int)) := by omega
      simp [e, this]
  have hv : ∀ (b : List MV → En → MS → Res (List MV)), True := fun _ => trivial
  by_cases i1 : i = 1
  · subst i1
    refine ⟨l, ts ++ [(c, c)], o', rest, some (.d (ch c)), some (.d (.int 1)), by simp, h1.add ⟨hc1, hc2, hc3⟩ ⟨hc1, hc2, hc3⟩ hl, hp2, ?_⟩
    refine (seq_nx hA).trans ?_
    have hB := (sIf_t (a := sDrop (mLM lAppend (mVar 6) (mCons (mTup (mCons (mFrz (mVar 7)) (mCons (mFrz (mVar 7)) mNil))) mNil))) (b := sNext) (hw 1 (x0 :: x1 :: x2 :: .lst ((l.map ch).map MV.d) :: .lst ((ts.map tp).map MV.d) :: rest))).trans
      (sDrop_of (mLM_of (p := .l 4) (mVar_of rfl) rfl (mCons_of (tup2_of (mFrz_d (mVar_of rfl)) (mFrz_d (mVar_of rfl))) (ns := mNil) rfl) rfl (appT (p := (c, c)) hl10)))
    refine (seq_nx hB).trans ?_
    exact (sIf_f (and_f (hw 2 _))).trans rfl
  · have hB := (sIf_f (a := sDrop (mLM lAppend (mVar 6) (mCons (mTup (mCons (mFrz (mVar 7)) (mCons (mFrz (mVar 7)) mNil))) mNil))) (b := sNext) ((hw 1 (x0 :: x1 :: x2 :: .lst ((l.map ch).map MV.d) :: .lst ((ts.map tp).map MV.d) :: rest)).trans (by rw [decide_eq_false i1]))).trans rfl
    by_cases i2 : i = 2
    · subst i2
      have hn := neNil (env := [some (.r (.b 0)), E1, E2, E3, E4, some (.r (.l 3)), some (.r (.l 4)), some (.d (ch c)), some (.d (.int 2))]) (μ := ⟨[o'], x0 :: x1 :: x2 :: .lst ((l.map ch).map MV.d) :: .lst ((ts.map tp).map MV.d) :: rest⟩) (i := 5) (p := .l 3) (xs := l.map ch) rfl rfl
      have ha := and_t ((hw 2 (x0 :: x1 :: x2 :: .lst ((l.map ch).map MV.d) :: .lst ((ts.map tp).map MV.d) :: rest))) hn
      by_cases hl0 : l = []
      · subst hl0
        refine ⟨[], ts, o', rest ++ [.lst []], some (.d (ch c)), some (.d (.int 2)), by simp, h1, hp2, ?_⟩
        refine (seq_nx hA).trans ((seq_nx hB).trans ?_)
        exact (sIf_f ha).trans rfl
      · obtain ⟨l2, b, rfl⟩ : ∃ l2 b, l = l2 ++ [b] := ⟨l.dropLast, l.getLast hl0, (List.dropLast_concat_getLast _).symm⟩
        obtain ⟨g1, gb1, gb2, gb3, gl⟩ := h1.pop
        have e1 : ((l2 ++ [b]).map ch).isEmpty = false := by simp
        rw [e1] at ha
        refine ⟨l2, ts ++ [(c, b)], o', rest ++ [.lst []], some (.d (ch c)), some (.d (.int 2)), by simp, g1.add ⟨hc1, fun z => hc2 (by simp [z]), hc3⟩ ⟨gb1, gb2, gb3⟩ gl, hp2, ?_⟩
        refine (seq_nx hA).trans ((seq_nx hB).trans ?_)
        refine (sIf_t ha).trans ?_
        exact sDrop_of (mLM_of (p := .l 4) (mVar_of rfl) rfl (mCons_of (tup2_of (mFrz_d (mVar_of rfl)) (mFrz_d (mLM0_of (p := .l 3) (mVar_of rfl) rfl popE))) (ns := mNil) rfl) rfl (appT (p := (c, b)) hl10))
    · refine ⟨l, ts, o', rest, some (.d (ch c)), some (.d (.int i)), by simp, h1, hp2, ?_⟩
      refine (seq_nx hA).trans ((seq_nx hB).trans ?_)
      exact (sIf_f (and_f ((hw 2 _).trans (by rw [decide_eq_false i2])))).trans rfl
end K03
end

set_option Elab.async false
set_option linter.all false
set_option maxRecDepth 100000
set_option maxHeartbeats 4000000
noncomputable section
open Classical
namespace K03
open PySem PySem.Spec PyProof.Rows L2 G Q
theorem txs_cps (z : Str) : txs z.cps.toList = z := rfl
theorem fList_txt {l : List Nat} (h : l.length ≤ 1000) : fList [.str (txs l)] = some (.n (.lst ((l.map ch).map MV.d))) := by
  have h2 : (txs l).length ≤ 16777216 := by rw [txs_len]; omega
  unfold fList
  simp only [if_pos h2, txs_list]
  rfl
theorem mSl_s {m : En → MS → Res MV} {ml mh : En → MS → Res (Option Int)} {env : En} {μ μ1 μ2 μ3 : MS} {l : List Nat} {lo hi : Option Int} (hm : m env μ = .ok (.d (.str (txs l))) μ1) (hl : ml env μ1 = .ok lo μ2) (hh : mh env μ2 = .ok hi μ3) (hz : l.length ≤ 1000) : mSl m ml mh env μ = .ok (.d (.str (cutS (txs l) lo hi))) μ3 := by
  unfold mSl
  rw [hm]
  simp only [Res.bind, hl, hh, vw, Option.bind_some, fSl, if_pos (txt_sz hz), mOut]
theorem mSl_l {m : En → MS → Res MV} {ml mh : En → MS → Res (Option Int)} {env : En} {μ μ1 μ2 μ3 : MS} {x : MV} {xs : List D} {lo hi : Option Int} (hm : m env μ = .ok x μ1) (hl : ml env μ1 = .ok lo μ2) (hh : mh env μ2 = .ok hi μ3) (hv : vw μ3 x = some (.lst xs)) : mSl m ml mh env μ = .ok (.r (.l μ3.L.length)) (μ3.new (.lst ((Q.cutD xs lo hi).map MV.d))) := by
  unfold mSl
  rw [hm]
  simp only [Res.bind, hl, hh, hv, Option.bind_some, fSl, mOut]
theorem part_of {m : En → MS → Res MV} {env : En} {μ μ1 : MS} {i : Int} (h : m env μ = .ok (.d (.int i)) μ1) : mPart m env μ = .ok (some i) μ1 := by
  unfold mPart
  rw [h]
  rfl
def pools : List D := [.str "0123456789", .str "abcdefghij", .str "zyxwvutsrqponmlkjihgfedcba", .str "9a8b7c6d5e4f"]
theorem pool_ok : ∀ x ∈ pools, ∃ pl : List Nat, x = .str (txs pl) ∧ 10 ≤ pl.length ∧ pl.length ≤ 30 ∧ pl.Nodup ∧ ∀ c ∈ pl, c ∈ ("0123456789abcdefghijklmnopqrstuvwxyz" : Str).cps.toList := by
  intro x hx
  have key : ∀ z : Str, (10 ≤ z.cps.toList.length ∧ z.cps.toList.length ≤ 30 ∧ z.cps.toList.Nodup ∧ ∀ c ∈ z.cps.toList, c ∈ ("0123456789abcdefghijklmnopqrstuvwxyz" : Str).cps.toList) → ∃ pl : List Nat, D.str z = .str (txs pl) ∧ 10 ≤ pl.length ∧ pl.length ≤ 30 ∧ pl.Nodup ∧ ∀ c ∈ pl, c ∈ ("0123456789abcdefghijklmnopqrstuvwxyz" : Str).cps.toList :=
    fun z h => ⟨z.cps.toList, rfl, h.1, h.2.1, h.2.2.1, h.2.2.2⟩
  simp only [pools, List.mem_cons, List.not_mem_nil, or_false] at hx
  rcases hx with rfl | rfl | rfl | rfl <;> exact key _ (by decide +kernel)
theorem pools_at {μ : MS} {env : En} : mLst (mCons (mC (.str "0123456789")) (mCons (mC (.str "abcdefghij")) (mCons (mC (.str "zyxwvutsrqponmlkjihgfedcba")) (mCons (mC (.str "9a8b7c6d5e4f")) mNil)))) env μ = .ok (.r (.l μ.L.length)) (μ.new (.lst (pools.map MV.d))) := by
  have h : (pools.map MV.d).length ≤ sizeLine := sz_big (by decide)
  show (if (pools.map MV.d).length ≤ sizeLine then Res.ok _ _ else Res.bad) = _
  rw [if_pos h]
  rfl
theorem font_ok {o : MO} {N most : Nat} (hp : PenN N o) (hN : N ≤ 90000) (m3 : 3 ≤ most) (m10 : most ≤ 10) : ∃ (sg : List Nat) (ts : List (Nat × Nat)) (o' : MO) (L : List MO), Sg sg ∧ Tn sg ts ∧ PenN (N + 200) o' ∧ f__law_font [.r (.b 0), .d (.int most)] [o] = .ret (.d (.tup [.str (txs sg), tD ts])) ⟨[o'], L⟩ := by
  obtain ⟨i, o1, hi, hp1, hd⟩ := draw_call (μ := ⟨[o], []⟩) (p := .b 0) (o := o) rfl hp (by omega) (many := most - 1) (by omega) (by omega)
  simp only [MS.set, List.set_cons_zero] at hd
  rw [show (((most - 1 : Nat) : Int)) = (most : Int) - 1 from by omega] at hd
  obtain ⟨x, o2, hx, hp2, hpk⟩ := pick_call (μ := ⟨[o1], [.lst (pools.map MV.d)]⟩) (p := .b 0) (q := .l 0) (o := o1) (xs := pools) rfl hp1 (by omega) rfl (by decide) (by decide) (by decide)
  obtain ⟨pl, rfl, pl1, pl2, pl3, pl4⟩ := pool_ok x hx
  have lt10 : (pl.take 10).length = 10 := by rw [List.length_take]; omega
  obtain ⟨ys, o3, hys, hp3, hsh⟩ := shuf_call (μ := ⟨[o2], [.lst (pools.map MV.d)]⟩) (p := .b 0) (o := o2) (x := .str (txs (pl.take 10))) (xs := (pl.take 10).map ch) (fList_txt (by omega)) (by rw [List.length_map]; omega) rfl hp2 (by rw [List.length_map]; omega)
  obtain ⟨l', rfl, hl'⟩ := perm_map hys
  have len' : l'.length = 10 := by rw [hl'.length_eq, lt10]
  rw [List.length_map, lt10] at hp3
  obtain ⟨sg, hsg⟩ : ∃ sg, sg = l'.take (2 + i) := ⟨_, rfl⟩
  have sgl : sg.length = 2 + i := by rw [hsg, List.length_take]; omega
  have Ssg : Sg sg := by
    refine ⟨by omega, by omega, ?_, fun c hc => ?_⟩
    · rw [hsg]
      exact (List.take_sublist _ _).nodup (hl'.nodup_iff.mpr ((List.take_sublist _ _).nodup pl3))
    · rw [hsg] at hc
      exact pl4 c (List.mem_of_mem_take (hl'.mem_iff.mp (List.mem_of_mem_take hc)))
  obtain ⟨ys2, o4, hys2, hp4, hsh2⟩ := shuf_call (μ := ⟨[o3], [.lst (pools.map MV.d), .lst ((l'.map ch).map MV.d), .lst ((sg.map ch).map MV.d)]⟩) (p := .b 0) (o := o3) (x := .str (txs sg)) (xs := sg.map ch) (fList_txt (by omega)) (by rw [List.length_map]; omega) rfl hp3 (by rw [List.length_map]; omega)
  obtain ⟨lf, rfl, hlf⟩ := perm_map hys2
  rw [List.length_map] at hp4
  let E : Option MV → Option MV → Option MV → Option MV → En := fun a b c d => [some (.r (.b 0)), some (.d (.int most)), some (.d (.int (2 + i))), some (.d (.str (txs pl))), some (.d (.str (txs sg))), a, b, c, d]
  let I : Nat → En → MS → Prop := fun n env μ => ∃ (left : List Nat) (ts : List (Nat × Nat)) (o5 : MO) (rest : List MO) (e7 e8 : Option MV), n = left.length ∧ left.length ≤ sg.length ∧ TS1 sg left ts ∧ PenN (N + 132 + 6 * (sg.length - left.length)) o5 ∧ env = E (some (.r (.l 3))) (some (.r (.l 4))) e7 e8 ∧
    μ = ⟨[o5], .lst (pools.map MV.d) :: .lst ((l'.map ch).map MV.d) :: .lst ((sg.map ch).map MV.d) :: .lst ((left.map ch).map MV.d) :: .lst ((ts.map tp).map MV.d) :: rest⟩
  let J : En → MS → Prop := fun env μ => ∃ (ts : List (Nat × Nat)) (o5 : MO) (rest : List MO) (e7 e8 : Option MV), TS1 sg [] ts ∧ PenN (N + 200) o5 ∧ env = E (some (.r (.l 3))) (some (.r (.l 4))) e7 e8 ∧
    μ = ⟨[o5], .lst (pools.map MV.d) :: .lst ((l'.map ch).map MV.d) :: .lst ((sg.map ch).map MV.d) :: .lst [] :: .lst ((ts.map tp).map MV.d) :: rest⟩
  have start : TS1 sg lf [] := ⟨hlf.nodup_iff.mpr Ssg.nd, fun c hc => hlf.mem_iff.mp hc, nofun, nofun, List.Pairwise.nil, by rw [hlf.length_eq]; simp⟩
  obtain ⟨env', μ', hw, ts, o5, rest, e7, e8, hts, hp5, he', hμ'⟩ := sWhile_inv (c := asB (mOp (eqD true) (mVar 5) (mLst mNil))) (b := (sSeq (sPar 7 8 (mCons (mLM0 lPop (mVar 5)) (mCons (mCall 2 fm__law_draw (mCons (mVar 0) (mCons (mC (.int 3)) mNil))) mNil)))
  (sSeq (sIf (asB (mOp (eqD false) (mVar 8) (mC (.int 1)))) (sDrop (mLM lAppend (mVar 6) (mCons (mTup (mCons (mFrz (mVar 7)) (mCons (mFrz (mVar 7)) mNil))) mNil))) sNext)
  (sIf (mAnd (asB (mOp (eqD false) (mVar 8) (mC (.int 2)))) (asB (mOp (eqD true) (mVar 5) (mLst mNil)))) (sDrop (mLM lAppend (mVar 6) (mCons (mTup (mCons (mFrz (mVar 7)) (mCons (mFrz (mLM0 lPop (mVar 5))) mNil))) mNil))) sNext)))) I J (by
    rintro n env μ ⟨left, ts, o5, rest, e7, e8, rfl, hle, hts, hp5, rfl, rfl⟩
    have hn := neNil (env := E (some (.r (.l 3))) (some (.r (.l 4))) e7 e8) (μ := ⟨[o5], .lst (pools.map MV.d) :: .lst ((l'.map ch).map MV.d) :: .lst ((sg.map ch).map MV.d) :: .lst ((left.map ch).map MV.d) :: .lst ((ts.map tp).map MV.d) :: rest⟩) (i := 5) (p := .l 3) (xs := left.map ch) rfl rfl
    by_cases hl0 : left = []
    · subst hl0
      exact Or.inl ⟨_, hn, ts, o5, rest ++ [.lst []], e7, e8, hts, hp5.mono (by simp; omega), rfl, rfl⟩
    · obtain ⟨l2, b, rfl⟩ : ∃ l2 b, left = l2 ++ [b] := ⟨left.dropLast, left.getLast hl0, (List.dropLast_concat_getLast _).symm⟩
      rw [show ((l2 ++ [b]).map ch).isEmpty = false from by simp] at hn
      obtain ⟨l3, ts3, o6, rest3, f7, f8, q1, q2, q3, q4⟩ := font_turn (x0 := .lst (pools.map MV.d)) (x1 := .lst ((l'.map ch).map MV.d)) (x2 := .lst ((sg.map ch).map MV.d)) (rest := rest ++ [.lst []]) (E1 := some (.d (.int most))) (E2 := some (.d (.int (2 + i)))) (E3 := some (.d (.str (txs pl)))) (E4 := some (.d (.str (txs sg)))) (e7 := e7) (e8 := e8) hp5 (by omega) Ssg.ten hts rfl
      exact Or.inr ⟨_, _, _, l3.length, hn, Or.inl q4, q1, l3, ts3, o6, rest3, f7, f8, rfl, by omega, q2, q3.mono (by omega), rfl, rfl⟩) (n := lf.length) (env := E (some (.r (.l 3))) (some (.r (.l 4))) none none) (μ := ⟨[o4], [.lst (pools.map MV.d), .lst ((l'.map ch).map MV.d), .lst ((sg.map ch).map MV.d), .lst ((lf.map ch).map MV.d), .lst []]⟩)
      ⟨lf, [], o4, [], none, none, rfl, by rw [hlf.length_eq]; exact Nat.le_refl _, start, hp4.mono (by omega), rfl, rfl⟩
  have Tsg : Tn sg ts := ⟨by have := hts.len; have := Ssg.ten; simp at *; omega, hts.mem, hts.apart⟩
  have walk : n__law_font [some (.r (.b 0)), some (.d (.int most)), none, none, none, none, none, none, none] ⟨[o], []⟩ = .rt (.d (.tup [.str (txs sg), tD ts])) ⟨[o5], .lst (pools.map MV.d) :: .lst ((l'.map ch).map MV.d) :: .lst ((sg.map ch).map MV.d) :: .lst [] :: .frz (tD ts) :: rest⟩ := by
    unfold n__law_font
    refine (seq_nx (env' := [some (.r (.b 0)), some (.d (.int most)), some (.d (.int (2 + i))), none, none, none, none, none, none]) (μ' := ⟨[o1], []⟩) ?_).trans ?_
    · exact sSet_of (mOp_of rfl (mCall_of (mCons_of (mVar_of rfl) (mCons_of (mOp_of (f := fSub) (mVar_of rfl) rfl rfl rfl rfl) (ns := mNil) rfl)) rfl hd) rfl rfl rfl)
    refine (seq_nx (env' := [some (.r (.b 0)), some (.d (.int most)), some (.d (.int (2 + i))), some (.d (.str (txs pl))), none, none, none, none, none]) (μ' := ⟨[o2], [.lst (pools.map MV.d)]⟩) ?_).trans ?_
    · exact sSet_of (mCall_of (mCons_of (mVar_of rfl) (mCons_of pools_at (ns := mNil) rfl)) rfl hpk)
    refine (seq_nx (env' := E none none none none) (μ' := ⟨[o3], [.lst (pools.map MV.d), .lst ((l'.map ch).map MV.d), .lst ((sg.map ch).map MV.d)]⟩) ?_).trans ?_
    · have a1 := mSl_s (m := mVar 3) (ml := mNoPart) (mh := mPart (mC (.int 10))) (env := [some (.r (.b 0)), some (.d (.int most)), some (.d (.int (2 + i))), some (.d (.str (txs pl))), none, none, none, none, none]) (μ := ⟨[o2], [.lst (pools.map MV.d)]⟩) (mVar_of rfl) rfl rfl (show pl.length ≤ 1000 by omega)
      rw [show ((10 : Int)) = ((10 : Nat) : Int) from rfl, cutS_to] at a1
      have a2 := mCall_of (n := 2) (mCons_of (mVar_of (i := 0) rfl) (mCons_of a1 (ns := mNil) rfl)) rfl hsh
      have a3 := mSl_l (ml := mNoPart) (mh := mPart (mVar 2)) (xs := l'.map ch) a2 rfl (part_of (mVar_of rfl)) (vw_lst rfl)
      rw [show (2 : Int) + (i : Int) = ((2 + i : Nat) : Int) from by omega, cutD_to, ← List.map_take, ← hsg] at a3
      exact sSet_of (mSM_of (mo := mC (.str "")) rfl a3 (vw_lst rfl) (fJoin_ch (by omega)))
    refine (seq_nx (env' := E (some (.r (.l 3))) (some (.r (.l 4))) none none) (μ' := ⟨[o4], [.lst (pools.map MV.d), .lst ((l'.map ch).map MV.d), .lst ((sg.map ch).map MV.d), .lst ((lf.map ch).map MV.d), .lst []]⟩) ?_).trans ?_
    · exact sPar_of (mCons_of (mCall_of (mCons_of (mVar_of rfl) (mCons_of (mVar_of rfl) (ns := mNil) rfl)) rfl hsh2) (mCons_of lst_nil (ns := mNil) rfl))
    refine (seq_nx hw).trans ?_
    rw [he', hμ']
    exact sRet_of (tup2_of (mFrz_d (mVar_of rfl)) (mFrz_r (mVar_of rfl) (frzD_lst (p := .l 4) (xs := ts.map tp) rfl 4)))
  exact ⟨sg, ts, o5, _, Ssg, Tsg, hp5, defS_d walk (by simp [hp5.refs])⟩
end K03
end

set_option Elab.async false
set_option linter.all false
set_option maxRecDepth 100000
set_option maxHeartbeats 4000000
noncomputable section
open Classical
namespace K03
open PySem PySem.Spec PyProof.Rows L2 G Q
def sw (p : Nat × Nat) : Nat × Nat := (p.2, p.1)
inductive Fl : List (Nat × Nat) → List (Nat × Nat) → Prop
  | nil : Fl [] []
  | cons {u t us ts} : (u = t ∨ u = sw t) → Fl us ts → Fl (u :: us) (t :: ts)
theorem Fl.mem {us ts : List (Nat × Nat)} (h : Fl us ts) : (∀ u ∈ us, ∃ t ∈ ts, u = t ∨ u = sw t) ∧ ∀ t ∈ ts, ∃ u ∈ us, u = t ∨ u = sw t := by
  induction h with
  | nil => exact ⟨nofun, nofun⟩
  | @cons u t us ts h1 h2 ih =>
    refine ⟨fun u hu => ?_, fun t ht => ?_⟩
    · rcases List.mem_cons.mp hu with rfl | hu
      · exact ⟨t, by simp, h1⟩
      · obtain ⟨t, ht, e⟩ := ih.1 u hu
        exact ⟨t, by simp [ht], e⟩
    · rcases List.mem_cons.mp ht with rfl | ht
      · exact ⟨u, by simp, h1⟩
      · obtain ⟨u, hu, e⟩ := ih.2 t ht
        exact ⟨u, by simp [hu], e⟩
theorem Fl.snoc {us ts : List (Nat × Nat)} {u t : Nat × Nat} (h : Fl us ts) (e : u = t ∨ u = sw t) : Fl (us ++ [u]) (ts ++ [t]) := by
  induction h with
  | nil => exact .cons e .nil
  | cons h1 h2 ih => exact .cons h1 ih
theorem Fl.len {us ts : List (Nat × Nat)} (h : Fl us ts) : us.length = ts.length := by
  induction h with
  | nil => rfl
  | cons h1 h2 ih => rw [List.length_cons, List.length_cons, ih]
theorem Tn.perm {sg : List Nat} {ts us : List (Nat × Nat)} (h : Tn sg ts) (p : us.Perm ts) : Tn sg us :=
  ⟨by rw [p.length_eq]; exact h.len, fun q hq => h.mem q (p.mem_iff.mp hq), (p.pairwise_iff fun ⟨a, b, c, d⟩ => ⟨fun e => a e.symm, fun e => c e.symm, fun e => b e.symm, fun e => d e.symm⟩).mpr h.apart⟩
theorem Tn.flip {sg : List Nat} {ts us : List (Nat × Nat)} (h : Tn sg ts) (p : Fl us ts) : Tn sg us := by
  refine ⟨by rw [p.len]; exact h.len, fun q hq => ?_, ?_⟩
  · obtain ⟨t, ht, e⟩ := p.mem.1 q hq
    obtain ⟨a, b⟩ := h.mem t ht
    rcases e with rfl | rfl
    · exact ⟨a, b⟩
    · exact ⟨b, a⟩
  · have := h.apart
    clear h
    induction p with
    | nil => exact .nil
    | @cons u t us ts h1 h2 ih =>
      obtain ⟨k1, k2⟩ := List.pairwise_cons.mp this
      refine List.pairwise_cons.mpr ⟨fun q hq => ?_, ih k2⟩
      obtain ⟨t2, ht2, e⟩ := h2.mem.1 q hq
      obtain ⟨a, b, c, d⟩ := k1 t2 ht2
      rcases h1 with rfl | rfl <;> rcases e with rfl | rfl
      · exact ⟨a, b, c, d⟩
      · exact ⟨b, a, d, c⟩
      · exact ⟨c, d, a, b⟩
      · exact ⟨d, c, b, a⟩
/-- the same heads -/
theorem hk_same {sg : List Nat} {ts ts' us : List (Nat × Nat)} (h : Tn sg ts) (p : ts'.Perm ts) (f : Fl us ts') (c : Nat) : valD (hk us) (ky c) = valD (hk ts) (ky c) := by
  have hu := (h.perm p).flip f
  refine Option.ext fun d => ?_
  rw [show (valD (hk us) (ky c) = some d ↔ _) from hk_val _ us rfl hu.apart, hk_val _ ts rfl h.apart]
  constructor
  · rintro ⟨q, hq, e⟩
    obtain ⟨t, ht, e2⟩ := f.mem.1 q hq
    refine ⟨t, p.mem_iff.mp ht, ?_⟩
    rcases e2 with rfl | rfl
    · exact e
    · rcases e with ⟨a, b⟩ | ⟨a, b⟩
      · exact Or.inr ⟨a, b⟩
      · exact Or.inl ⟨a, b⟩
  · rintro ⟨t, ht, e⟩
    obtain ⟨q, hq, e2⟩ := f.mem.2 t (p.mem_iff.mpr ht)
    refine ⟨q, hq, ?_⟩
    rcases e2 with rfl | rfl
    · exact e
    · rcases e with ⟨a, b⟩ | ⟨a, b⟩
      · exact Or.inr ⟨a, b⟩
      · exact Or.inl ⟨a, b⟩
theorem flip_ok {o : MO} {N : Nat} {p : Nat × Nat} (hp : PenN N o) (hN : N ≤ 10 ^ 5) : ∃ (u : Nat × Nat) (o' : MO) (L : List MO), (u = p ∨ u = sw p) ∧ PenN (N + 6) o' ∧ f__law_flipped [.r (.b 0), .d (tp p)] [o] = .ret (.d (tp u)) ⟨[o'], L⟩ := by
  obtain ⟨x, o', hx, hp2, hpk⟩ := pick_call (μ := ⟨[o], [.lst ([tp p, tp (sw p)].map MV.d)]⟩) (p := .b 0) (q := .l 0) (o := o) (xs := [tp p, tp (sw p)]) rfl hp hN rfl (by decide) (by simp) (by simp)
  have walk : n__law_flipped [some (.r (.b 0)), some (.d (tp p))] ⟨[o], []⟩ = .rt (.d x) ⟨[o'], [.lst ([tp p, tp (sw p)].map MV.d)]⟩ := by
    unfold n__law_flipped
    refine sRet_of (mCall_of (mCons_of (mVar_of rfl) (mCons_of (x := .r (.l 0)) (μ1 := ⟨[o], [.lst ([tp p, tp (sw p)].map MV.d)]⟩) ?_ (ns := mNil) rfl)) rfl hpk)
    have h2 : ([.d (tp p), .d (tp (sw p))] : List MV).length ≤ sizeLine := sz_big (by simp)
    show (if ([.d (tp p), .d (tp (sw p))] : List MV).length ≤ sizeLine then Res.ok _ _ else Res.bad) = _
    rw [if_pos h2]
    rfl
  have e1 : x = tp p ∨ x = tp (sw p) := by simpa using hx
  rcases e1 with rfl | rfl
  · exact ⟨p, o', _, Or.inl rfl, hp2, defS_d walk (by simp [hp2.refs])⟩
  · exact ⟨sw p, o', _, Or.inr rfl, hp2, defS_d walk (by simp [hp2.refs])⟩
/-- a font, as data -/
def fD (sg : List Nat) (ts : List (Nat × Nat)) : D := .ins "Font" (fontF sg ts)
theorem made_ok {o : MO} {N : Nat} {sg : List Nat} {ts : List (Nat × Nat)} (hs : Sg sg) (ht : Tn sg ts) (hp : PenN N o) (hN : N ≤ 90000) : ∃ (ts' us : List (Nat × Nat)) (o' : MO) (L : List MO), ts'.Perm ts ∧ Fl us ts' ∧ PenN (N + 120) o' ∧
    f__law_font_made [.r (.b 0), .d (.tup [.str (txs sg), tD ts])] [o] = .ret (.d (fD sg us)) ⟨[o'], L⟩ := by
  have hl10 := ht.len
  obtain ⟨ys, o1, hys, hp1, hsh⟩ := shuf_call (μ := ⟨[o], []⟩) (p := .b 0) (o := o) (x := tD ts) (xs := ts.map tp) rfl (by rw [List.length_map]; omega) rfl hp (by rw [List.length_map]; omega)
  obtain ⟨ts', rfl, hpm⟩ := perm_map hys
  rw [List.length_map] at hp1
  have len' := hpm.length_eq
  let E : En := [some (.r (.b 0)), some (.d (.tup [.str (txs sg), tD ts])), none]
  have items1 : items (mCall 2 f__law_shuffled (mCons (mVar 0) (mCons (mIx (mVar 1) (mC (.int 1))) mNil))) lstI E ⟨[o], []⟩ = .ok (ts'.map tp) ⟨[o1], [.frz (.lst (ts'.map tp))]⟩ := by
    have a1 : mCall 2 f__law_shuffled (mCons (mVar 0) (mCons (mIx (mVar 1) (mC (.int 1))) mNil)) E ⟨[o], []⟩ = .ok (.r (.l 0)) ⟨[o1], [.lst ((ts'.map tp).map MV.d)]⟩ := mCall_of (mCons_of (mVar_of rfl) (mCons_of rfl (ns := mNil) rfl)) rfl hsh
    rw [items, mFrz_r a1 (frzD_lst rfl 4)]
    rfl
  let I : Nat → List D → MS → Prop := fun i acc μ => ∃ (us : List (Nat × Nat)) (o2 : MO), acc = us.map tp ∧ Fl us (ts'.take i) ∧ PenN (N + 60 + 6 * i) o2 ∧ μ = ⟨[o2], [.frz (.lst (ts'.map tp))]⟩
  obtain ⟨acc, μ', hc, us, o2, rfl, hfl, hp2, rfl⟩ := compF_inv (f := gN 2) (c := mYes) (m := mCall 2 f__law_flipped (mCons (mVar 0) (mCons (mVar 2) mNil))) (env := wipeE E [2]) I (ts'.map tp) (by
    rintro i d acc μ hd ⟨us, o2, rfl, hfl, hp2, rfl⟩
    rw [List.getElem?_map] at hd
    obtain ⟨p, hpi, rfl⟩ := Option.map_eq_some_iff.mp hd
    have hi := (List.getElem?_eq_some_iff.mp hpi).1
    obtain ⟨u, o3, L3, hu, hp3, hf⟩ := flip_ok (p := p) hp2 (by omega)
    refine ⟨[some (.r (.b 0)), some (.d (.tup [.str (txs sg), tD ts])), some (.d (tp p))], rfl, _, rfl, tp u, ⟨[o3], [.frz (.lst (ts'.map tp))]⟩, ?_, us ++ [u], o3, by rw [List.map_append]; rfl, ?_, hp3.mono (by omega), rfl⟩
    · exact mFrz_d (mCall_of (mCons_of (mVar_of rfl) (mCons_of (mVar_of rfl) (ns := mNil) rfl)) rfl (call1_d (xs := [tp p]) (hp2.op rfl) hf hp3.clD))
    · rw [List.take_add_one, hpi]
      exact hfl.snoc hu) (ts'.map tp) [] [] ⟨[o1], [.frz (.lst (ts'.map tp))]⟩ rfl ⟨[], o1, rfl, by simpa using Fl.nil, hp1.mono (by simp; omega), rfl⟩
  rw [List.length_map, List.take_length] at hfl
  rw [List.length_map] at hp2
  have comp : mComp (items (mCall 2 f__law_shuffled (mCons (mVar 0) (mCons (mIx (mVar 1) (mC (.int 1))) mNil))) lstI) (gN 2) mYes (mCall 2 f__law_flipped (mCons (mVar 0) (mCons (mVar 2) mNil))) [2] E ⟨[o], []⟩ = .ok (.r (.l 1)) ⟨[o2], [.frz (.lst (ts'.map tp)), .lst ((us.map tp).map MV.d)]⟩ := by
    have l1 : (ts'.map tp).length ≤ 16777216 := by rw [List.length_map]; omega
    unfold mComp
    rw [items1]
    simp only [Res.bind, if_pos l1, hc]
    rfl
  have hu : Tn sg us := (ht.perm hpm).flip hfl
  obtain ⟨L5, hin⟩ := init_font hs hu
  have mk : mMake "Font" 3 f_Font_ddinitdd (mCons (mIx (mVar 1) (mC (.int 0))) (mCons (mFrz (mComp (items (mCall 2 f__law_shuffled (mCons (mVar 0) (mCons (mIx (mVar 1) (mC (.int 1))) mNil))) lstI) (gN 2) mYes (mCall 2 f__law_flipped (mCons (mVar 0) (mCons (mVar 2) mNil))) [2])) mNil)) E ⟨[o], []⟩ =
      .ok (.r (.l 2)) ⟨[o2], [.frz (.lst (ts'.map tp)), .frz (tD us), fontO sg us]⟩ := by
    refine mMake_of (ms := [.d (.str (txs sg)), .d (tD us)]) (μ1 := ⟨[o2], [.frz (.lst (ts'.map tp)), .frz (tD us)]⟩) (mCons_of rfl (mCons_of (mFrz_r comp (frzD_lst (p := .l 1) (xs := us.map tp) rfl 4)) (ns := mNil) rfl)) rfl ?_
    exact call1_d (p := .l 2) (xs := [.str (txs sg), tD us]) (o := .ins "Font" []) (o' := fontO sg us) ⟨rfl, rfl, rfl⟩ hin rfl
  refine ⟨ts', us, o2, _, hpm, hfl, hp2.mono (by omega), defS_d (L := [.frz (.lst (ts'.map tp)), .frz (tD us), .frz (fD sg us)]) ?_ (by simp [hp2.refs])⟩
  exact sRet_of (mFrz_r mk (frzD_of (o := fontO sg us) rfl rfl rfl 4))
end K03
end

set_option Elab.async false
set_option linter.all false
set_option maxRecDepth 100000
set_option maxHeartbeats 4000000
noncomputable section
open Classical
namespace K03
open PySem PySem.Spec PyProof.Rows L2 G Q
theorem txs_app (a b : List Nat) : (txs a) ++ (txs b) = txs (a ++ b) := by
  show (⟨a.toArray ++ b.toArray⟩ : Str) = ⟨(a ++ b).toArray⟩
  simp
theorem dash : (Str.ofString "-") = txs [45] := by decide +kernel
theorem add_txt {a b : List Nat} (h : a.length ≤ 1000) (h2 : b.length ≤ 1000) : fAdd (.str (txs a)) (.str (txs b)) = some (.v (.str (txs (a ++ b)))) := by
  have h3 : (txs a).length + (txs b).length ≤ sizeLine := by rw [txs_len, txs_len, sizeLine_eq]; omega
  unfold fAdd
  simp only [if_pos h3, txs_app]
theorem cutS_from {l : List Nat} {n : Nat} (h : n ≤ l.length) : cutS (txs l) (some n) none = txs (l.drop n) := by
  unfold cutS
  rw [HT.sIx_none, HT.sIx_nat, txs_list, txs_len, Nat.min_eq_left h]
  unfold txs
  rw [List.take_of_length_le (by rw [List.length_drop]; exact Nat.le_refl _)]
theorem ix_txt {l : List Nat} {i : Nat} (hi : i < l.length) (hl : l.length ≤ 1000) : ixD (.str (txs l)) (.int i) = some (.v (ch l[i])) := by
  unfold ixD
  simp only [if_pos (txt_sz hl), txs_list, atI_mem hi]
  rfl
theorem val_rk {c : Nat} : ∀ (sg : List Nat) (n : Nat), c ∈ sg → valD ((sg.zipIdx n).map fun z => (ky z.1, D.int (z.2 : Nat))) (ky c) = some (.int ((n + sg.idxOf c : Nat) : Int))
  | a :: sg, n, h => by
    rw [List.zipIdx_cons, List.map_cons]
    unfold valD
    rw [List.find?_cons]
    by_cases e : a = c
    · subst e
      simp
    · have n1 : ¬ ky a = ky c := fun z => e (ky_inj.mp z)
      have h2 : c ∈ sg := by
        rcases List.mem_cons.mp h with z | z
        · exact absurd z.symm e
        · exact z
      have := val_rk sg (n + 1) h2
      unfold valD at this
      simp only [decide_eq_false n1, this]
      rw [List.idxOf_cons]
      have e2 : (a == c) = false := by simpa using e
      simp only [e2, cond_false]
      congr 3
      omega
/-- a kind of plates -/
def KD (sg : List Nat) (x : D) : Prop := ∃ a b, x = .str (txs [a, b]) ∧ a ∈ sg ∧ (b = 45 ∨ (b ∈ sg ∧ sg.idxOf a ≤ sg.idxOf b))
theorem mIx_of {a b : En → MS → Res MV} {env : En} {μ μ1 μ2 : MS} {x y z : MV} (ha : a env μ = .ok x μ1) (hb : b env μ1 = .ok y μ2) (h : ixM μ2 x y = some z) : mIx a b env μ = .ok z μ2 := by
  unfold mIx
  rw [ha]
  simp only [Res.bind, hb, h]
theorem lExt_of {μ : MS} {xs ys : List D} {p : R} (h : vw μ (.r p) = some (.lst ys)) (hl : xs.length + ys.length ≤ 10000) : lExt μ (xs.map MV.d) [.r p] = some (.d .non, (xs ++ ys).map MV.d) := by
  have h2 : (xs.map MV.d).length + ys.length ≤ sizeLine := by rw [sizeLine_eq, List.length_map]; omega
  unfold lExt
  simp only [h]
  rw [if_pos h2, List.map_append]
theorem small62 {i : Nat} (h : i ≤ 1000) : -(2 ^ 62) ≤ (i : Int) ∧ (i : Int) < 2 ^ 62 := ⟨by omega, by omega⟩
theorem g1_eq (j : Int) : g1 [.d (.int j)] = if -(2 ^ 62) ≤ j ∧ j < 2 ^ 62 then some (intsZ 0 j) else none := rfl
theorem g1_of {n : Nat} (h : n ≤ 1000) : g1 [.d (.int n)] = some (intsZ 0 n) := (g1_eq n).trans (if_pos (small62 h))
theorem ints_of {n : Nat} : intsZ 0 (n : Int) = (List.range n).map fun i : Nat => (i : Int) := by
  unfold intsZ
  simp
theorem rng_gen {ns : En → MS → Res (List MV)} {g : List MV → Option (List Int)} {env : En} {μ μ1 : MS} {xs : List MV} {is : List Int} (h : ns env μ = .ok xs μ1) (hg : g xs = some is) : rngI ns g env μ = .ok (is.map D.int) μ1 := by
  unfold rngI
  rw [h]
  simp only [Res.bind, hg]
theorem ints_map {n : Nat} : (intsZ 0 (n : Int)).map D.int = (List.range n).map fun i => D.int (i : Nat) := by
  rw [ints_of, List.map_map]
  rfl
theorem rng_of {ns : En → MS → Res (List MV)} {env : En} {μ μ1 : MS} {n : Nat} (h : ns env μ = .ok [.d (.int n)] μ1) (hn : n ≤ 1000) : rngI ns g1 env μ = .ok ((List.range n).map fun i => D.int (i : Nat)) μ1 := by
  rw [← ints_map]
  exact rng_gen h (g1_of hn)
theorem kinds_ok {sg : List Nat} (hs : Sg sg) : ∃ (L : List MO) (ks : List D), f__law_kinds [.d (.str (txs sg))] [] = .ret (.r (.l 0)) ⟨[], L⟩ ∧ L[0]? = some (.lst (ks.map MV.d)) ∧ ks.length ≤ 200 ∧ ∀ x ∈ ks, KD sg x := by
  have h10 := hs.ten
  let I : Nat → En → MS → Prop := fun i env μ => ∃ (ks : List D) (e2 : Option MV) (rest : List MO), env = [some (.d (.str (txs sg))), some (.r (.l 0)), e2, none] ∧ μ = ⟨[], .lst (ks.map MV.d) :: rest⟩ ∧ ks.length ≤ 20 * i ∧ ∀ x ∈ ks, KD sg x
  obtain ⟨env', μ', hw, ks, e2, rest, rfl, rfl, hkl, hks⟩ := sFor_inv (ni := rngI (mCons (mCB fLen (mCons (mVar 0) mNil)) mNil) g1) (f := gN 2) (b := (sDrop (mLM lExt (mVar 1) (mCons (mComp (items (mOp fAdd (mSl (mVar 0) (mPart (mVar 2)) mNoPart) (mC (.str "-"))) strI) (gN 3) mYes (mOp fAdd (mIx (mVar 0) (mVar 2)) (mVar 3)) [3]) mNil)))) (env := [some (.d (.str (txs sg))), some (.r (.l 0)), none, none]) (μ := ⟨[], [.lst []]⟩) (μ1 := ⟨[], [.lst []]⟩) (ds := (List.range sg.length).map fun i => D.int (i : Nat)) I
    (by
      have a1 := mCB_of (f := fLen) (env := [some (.d (.str (txs sg))), some (.r (.l 0)), none, none]) (μ := ⟨[], [.lst []]⟩) (mCons_of (mVar_of (i := 0) rfl) (ns := mNil) rfl) rfl (lenD_txt (l := sg) (by omega))
      exact rng_of (mCons_of a1 (ns := mNil) rfl) (by omega)) ⟨[], none, [], rfl, rfl, by simp, nofun⟩ (by
    rintro i d env μ hd ⟨ks, e2, rest, rfl, rfl, hkl, hks⟩
    rw [List.getElem?_map] at hd
    obtain ⟨j, hj, rfl⟩ := Option.map_eq_some_iff.mp hd
    obtain ⟨hi, ej⟩ := List.getElem?_eq_some_iff.mp hj
    rw [List.length_range] at hi
    rw [List.getElem_range] at ej
    subst ej
    obtain ⟨a, ha⟩ : ∃ a, a = sg[i] := ⟨_, rfl⟩
    have ham : a ∈ sg := by rw [ha]; exact List.getElem_mem _
    obtain ⟨bs, hbs⟩ : ∃ bs, bs = sg.drop i ++ [45] := ⟨_, rfl⟩
    have hbl : bs.length ≤ 11 := by rw [hbs, List.length_append, List.length_drop, List.length_singleton]; omega
    let E : En := [some (.d (.str (txs sg))), some (.r (.l 0)), some (.d (.int i)), none]
    have it1 : items (mOp fAdd (mSl (mVar 0) (mPart (mVar 2)) mNoPart) (mC (.str "-"))) strI E ⟨[], .lst (ks.map MV.d) :: rest⟩ = .ok (bs.map ch) ⟨[], .lst (ks.map MV.d) :: rest⟩ := by
      have a1 := mSl_s (m := mVar 0) (ml := mPart (mVar 2)) (mh := mNoPart) (env := E) (μ := ⟨[], .lst (ks.map MV.d) :: rest⟩) (mVar_of rfl) (part_of (mVar_of rfl)) rfl (show sg.length ≤ 1000 by omega)
      rw [cutS_from (by omega)] at a1
      have a2 : (sg.drop i).length ≤ 1000 := by rw [List.length_drop]; omega
      refine items_txt (mOp_of a1 (y := .d (.str (txs [45]))) (by rw [← dash]; rfl) rfl rfl ?_)
      rw [add_txt a2 (by simp), hbs]
    have c1 : mComp (items (mOp fAdd (mSl (mVar 0) (mPart (mVar 2)) mNoPart) (mC (.str "-"))) strI) (gN 3) mYes (mOp fAdd (mIx (mVar 0) (mVar 2)) (mVar 3)) [3] E ⟨[], .lst (ks.map MV.d) :: rest⟩ =
        .ok (.r (.l (rest.length + 1))) ⟨[], .lst (ks.map MV.d) :: (rest ++ [.lst ((bs.map fun b => D.str (txs [a, b])).map MV.d)])⟩ := by
      have e1 : ∀ b : Nat, (match ch b with | .str z => D.str (txs (a :: z.cps.toList)) | d => d) = D.str (txs [a, b]) := fun b => rfl
      rw [mComp_eq (fun _ => true) (fun d => match d with | .str z => D.str (txs (a :: z.cps.toList)) | d => d) it1 (by rw [List.length_map]; omega) fun d hd => ?_]
      · have e2 : (bs.map ch).map (fun d => match d with | .str z => D.str (txs (a :: z.cps.toList)) | d => d) = bs.map fun b => D.str (txs [a, b]) := by rw [List.map_map]; rfl
        rw [comp_all, e2]
        rfl
      · obtain ⟨b, hb, rfl⟩ := List.mem_map.mp hd
        refine ⟨[some (.d (.str (txs sg))), some (.r (.l 0)), some (.d (.int i)), some (.d (ch b))], rfl, rfl, fun _ => mFrz_d (mOp_of (x := .d (ch a)) (mIx_of (mVar_of rfl) (mVar_of rfl) ?_) (mVar_of rfl) rfl rfl ?_)⟩
        · unfold ixM
          simp only [ix_txt hi (show sg.length ≤ 1000 by omega), ha]
        · exact add_txt (a := [a]) (b := [b]) (by simp) (by simp)
    have lenN : ks.length ≤ 200 := by omega
    refine ⟨E, rfl, E, _, Or.inl (sDrop_of (mLM_of (p := .l 0) (mVar_of rfl) rfl (mCons_of c1 (ns := mNil) rfl) rfl (lExt_of (p := .l (rest.length + 1)) (ys := bs.map fun b => D.str (txs [a, b])) (vw_lst (by simp [MS.get])) (by rw [List.length_map]; omega)))), ks ++ bs.map (fun b => D.str (txs [a, b])), some (.d (.int i)), _, rfl, rfl, by rw [List.length_append, List.length_map]; omega, fun x hx => ?_⟩
    rcases List.mem_append.mp hx with hx | hx
    · exact hks x hx
    · obtain ⟨b, hb, rfl⟩ := List.mem_map.mp hx
      refine ⟨a, b, rfl, ham, ?_⟩
      rw [hbs, List.mem_append, List.mem_singleton] at hb
      rcases hb with hb | hb
      · refine Or.inr ⟨List.mem_of_mem_drop hb, ?_⟩
        obtain ⟨m, hm, em⟩ := List.getElem_of_mem hb
        rw [List.getElem_drop] at em
        rw [List.length_drop] at hm
        rw [ha, ← em, hs.nd.idxOf_getElem, hs.nd.idxOf_getElem]
        omega
      · exact Or.inl hb)
  rw [List.length_map, List.length_range] at hkl
  obtain ⟨L', f1, f2⟩ := defS_r (N := 4) (b := n__law_kinds) (ms := [.d (.str (txs sg))]) (B := []) (B' := []) (L := .lst (ks.map MV.d) :: rest) (k := 0) (o := .lst (ks.map MV.d)) (by
    unfold n__law_kinds
    refine (seq_nx (env' := [some (.d (.str (txs sg))), some (.r (.l 0)), none, none]) (μ' := ⟨[], [.lst []]⟩) (sSet_of lst_nil)).trans ?_
    refine (seq_nx hw).trans ?_
    exact sRet_of (mVar_of rfl)) rfl rfl (refs_map _)
  exact ⟨L', ks, f1, f2, by omega, hks⟩
end K03
end

set_option Elab.async false
set_option linter.all false
set_option maxRecDepth 100000
set_option maxHeartbeats 4000000
noncomputable section
open Classical
namespace K03
open PySem PySem.Spec PyProof.Rows L2 G Q
theorem strE {x y : Str} (neg : Bool) : eqD neg (.str x) (.str y) = some (.v (.bl (neg ^^ decide (x = y)))) := by
  unfold eqD
  simp [toV, scal]
theorem ch_dash (c : Nat) : ((⟨#[c]⟩ : Str) = Str.ofString "-") ↔ c = 45 := by
  rw [dash]
  constructor
  · intro h
    injection h with h
    simpa using h
  · intro h
    rw [h]
    rfl
theorem eq_dash (neg : Bool) (c : Nat) : eqD neg (ch c) (.str "-") = some (.v (.bl (neg ^^ decide (c = 45)))) := by
  unfold ch
  rw [strE, decide_eq_decide.mpr (ch_dash c)]
theorem no_dash {sg : List Nat} (hs : Sg sg) {c : Nat} (h : c ∈ sg) : c ≠ 45 := fun e => by
  have := hs.lt c h
  rw [e] at this
  revert this
  decide +kernel
theorem ins_font {μ : MS} {sg : List Nat} {ts : List (Nat × Nat)} : insM μ "Font" (.d (fD sg ts)) = some ([("word", .d (.str (txs sg))), ("ranks", .d (.dct (rk sg))), ("heads", .d (.dct (hk ts)))] : List (Str × MV)) := rfl
theorem rank_ix {μ : MS} {sg : List Nat} {c : Nat} (h : c ∈ sg) : ixM μ (.d (.dct (rk sg))) (.d (ch c)) = some (.d (.int (sg.idxOf c : Nat))) := by
  have := val_rk sg 0 h
  unfold rk
  unfold ixM
  simp only [ixD, show keyD (ch c) = some (ky c) from rfl, Option.bind_some, this, Option.map_some]
  simp
theorem lt_of {i j : Nat} : fLt (.int i) (.int j) = some (.v (.bl (decide (i < j)))) := by
  unfold fLt fI
  simp
theorem normal_ok {sg : List Nat} {ts : List (Nat × Nat)} {a b : Nat} (ha : a = 45 ∨ a ∈ sg) (hb : b = 45 ∨ b ∈ sg) (h45 : a ≠ 45 ∨ b ≠ 45) (hs : Sg sg) :
    ∃ L, f_Font_normal [.d (fD sg ts), .d (.str (txs [a, b]))] [] = .ret (.d (.str (if a = 45 ∨ (b ≠ 45 ∧ sg.idxOf b < sg.idxOf a) then txs [b, a] else txs [a, b]))) ⟨[], L⟩ := by
  let E : En := [some (.d (fD sg ts)), some (.d (.str (txs [a, b]))), some (.d (ch a)), some (.d (ch b))]
  have s1 : sTo (gTS 2 (gsC (gN 2) (gsC (gN 3) gsN))) (mVar 1) [some (.d (fD sg ts)), some (.d (.str (txs [a, b]))), none, none] ⟨[], []⟩ = .nx E ⟨[], []⟩ := by
    unfold sTo
    rw [mFrz_d (mVar_of (i := 1) rfl)]
    rfl
  have t1 : asB (mOp (eqD false) (mVar 2) (mC (.str "-"))) E ⟨[], []⟩ = .ok (decide (a = 45)) ⟨[], []⟩ := asB_of (mOp_of (mVar_of rfl) rfl rfl rfl ((eq_dash false a).trans (by simp)))
  have t2 : asB (mOp (eqD true) (mVar 3) (mC (.str "-"))) E ⟨[], []⟩ = .ok (!decide (b = 45)) ⟨[], []⟩ := asB_of (mOp_of (mVar_of rfl) rfl rfl rfl ((eq_dash true b).trans (by simp)))
  have t3 : a ∈ sg → b ∈ sg → asB (mOp fLt (mIx (mFld "Font" "ranks" (mVar 0)) (mVar 3)) (mIx (mFld "Font" "ranks" (mVar 0)) (mVar 2))) E ⟨[], []⟩ = .ok (decide (sg.idxOf b < sg.idxOf a)) ⟨[], []⟩ := fun ha hb =>
    asB_of (mOp_of (mIx_of (mFld_of (mVar_of rfl) ins_font rfl) (mVar_of rfl) (rank_ix hb)) (mIx_of (mFld_of (mVar_of rfl) ins_font rfl) (mVar_of rfl) (rank_ix ha)) rfl rfl lt_of)
  have yes : sRet (mOp fAdd (mVar 3) (mVar 2)) E ⟨[], []⟩ = .rt (.d (.str (txs [b, a]))) ⟨[], []⟩ := sRet_of (mOp_of (mVar_of rfl) (mVar_of rfl) rfl rfl (add_txt (a := [b]) (b := [a]) (by simp) (by simp)))
  have no : sRet (mVar 1) E ⟨[], []⟩ = .rt (.d (.str (txs [a, b]))) ⟨[], []⟩ := sRet_of (mVar_of rfl)
  refine ⟨_, defS_d (L := []) ?_ rfl⟩
  unfold n_Font_normal
  refine (seq_nx s1).trans ?_
  have fin : ∀ (c : En → MS → Res Bool) (v : Bool), c E ⟨[], []⟩ = .ok v ⟨[], []⟩ → sSeq (sIf c (sRet (mOp fAdd (mVar 3) (mVar 2))) sNext) (sRet (mVar 1)) E ⟨[], []⟩ = .rt (.d (.str (if v = true then txs [b, a] else txs [a, b]))) ⟨[], []⟩ := fun c v h => by
    cases v with
    | true =>
      unfold sSeq
      rw [sIf_t h, yes]
      rfl
    | false =>
      refine (seq_nx ((sIf_f h).trans rfl)).trans ?_
      rw [no]
      rfl
  by_cases e1 : a = 45
  · have c1 : mOr (asB (mOp (eqD false) (mVar 2) (mC (.str "-")))) (mAnd (asB (mOp (eqD true) (mVar 3) (mC (.str "-")))) (asB (mOp fLt (mIx (mFld "Font" "ranks" (mVar 0)) (mVar 3)) (mIx (mFld "Font" "ranks" (mVar 0)) (mVar 2))))) E ⟨[], []⟩ = .ok true ⟨[], []⟩ := by
      unfold mOr
      rw [t1, decide_eq_true e1]
      rfl
    rw [fin _ _ c1, if_pos rfl, if_pos (Or.inl e1)]
  · have hia : a ∈ sg := ha.resolve_left e1
    by_cases e2 : b = 45
    · have c1 : mOr (asB (mOp (eqD false) (mVar 2) (mC (.str "-")))) (mAnd (asB (mOp (eqD true) (mVar 3) (mC (.str "-")))) (asB (mOp fLt (mIx (mFld "Font" "ranks" (mVar 0)) (mVar 3)) (mIx (mFld "Font" "ranks" (mVar 0)) (mVar 2))))) E ⟨[], []⟩ = .ok false ⟨[], []⟩ := by
        unfold mOr
        rw [t1, decide_eq_false e1]
        exact and_f (t2.trans (by rw [decide_eq_true e2]; rfl))
      rw [fin _ _ c1, if_neg Bool.false_ne_true, if_neg]
      rintro (z | z)
      · exact e1 z
      · exact z.1 e2
    · have hib : b ∈ sg := hb.resolve_left e2
      have c1 : mOr (asB (mOp (eqD false) (mVar 2) (mC (.str "-")))) (mAnd (asB (mOp (eqD true) (mVar 3) (mC (.str "-")))) (asB (mOp fLt (mIx (mFld "Font" "ranks" (mVar 0)) (mVar 3)) (mIx (mFld "Font" "ranks" (mVar 0)) (mVar 2))))) E ⟨[], []⟩ = .ok (decide (sg.idxOf b < sg.idxOf a)) ⟨[], []⟩ := by
        unfold mOr
        rw [t1, decide_eq_false e1]
        exact and_t (t2.trans (by rw [decide_eq_false e2]; rfl)) (t3 hia hib)
      rw [fin _ _ c1]
      by_cases e3 : sg.idxOf b < sg.idxOf a
      · rw [decide_eq_true e3, if_pos rfl, if_pos (Or.inr ⟨e2, e3⟩)]
      · rw [decide_eq_false e3, if_neg Bool.false_ne_true, if_neg]
        rintro (z | z)
        · exact e1 z
        · exact e3 z.2
end K03
end

set_option Elab.async false
set_option linter.all false
set_option maxRecDepth 100000
set_option maxHeartbeats 4000000
noncomputable section
open Classical
namespace K03
open PySem PySem.Spec PyProof.Rows L2 G Q
def isK (sg : List Nat) : D → Bool
  | .str z => decide (z.length = 2) && (!decide (z = "--") && z.cps.toList.all fun c => decide (c = 45) || decide (c ∈ sg))
  | _ => false
/-- what a law asks about -/
structure Pl (v : D) : Prop where
  ty : ∃ t, tyD v = some t
  short : ∀ z, v = .str z → z.length ≤ 1000
def isS : D → Bool
  | .str _ => true
  | _ => false
theorem isi_str {env : En} {μ : MS} {i : Nat} {v : D} (h : env[i]? = some (some (.d v))) (hv : Pl v) : asB (mIsi (fun t => isT t "str") (mVar i)) env μ = .ok (isS v) μ := by
  refine asB_of ?_
  unfold mIsi
  rw [mVar_of h]
  obtain ⟨t, ht⟩ := hv.ty
  cases v <;> first
    | (cases ht; rfl)
    | cases ht
theorem toBls_map {α : Type} (f : α → Bool) (l : List α) : toBls (l.map fun c => D.bl (f c)) = some (l.map f) := by
  induction l with
  | nil => rfl
  | cons a l ih => rw [List.map_cons, toBls, ih]; rfl
theorem fAll_map {α : Type} (f : α → Bool) (l : List α) : fAll [.lst (l.map fun c => D.bl (f c))] = some (.v (.bl (l.all f))) := by
  rw [fAll, toBls_map]
  simp [List.all_map]
theorem lenZ {z : Str} (h : z.length ≤ 1000) : fLen [.str z] = some (.v (.int z.length)) := by
  rw [fLen, if_pos (by rw [sizeLine_eq]; omega)]
theorem neI (i j : Int) : eqD true (.int i) (.int j) = some (.v (.bl (!decide (i = j)))) := by
  unfold eqD
  simp [toV, scal]
theorem items_str {m : En → MS → Res MV} {env : En} {μ μ1 : MS} {z : Str} (h : m env μ = .ok (.d (.str z)) μ1) : items m strI env μ = .ok (z.cps.toList.map ch) μ1 := items_txt (l := z.cps.toList) h
theorem or_f {c d : En → MS → Res Bool} {env : En} {μ μ1 : MS} {r : Res Bool} (h : c env μ = .ok false μ1) (k : d env μ1 = r) : mOr c d env μ = r := by
  unfold mOr
  rw [h]
  exact k
theorem or_t {c d : En → MS → Res Bool} {env : En} {μ μ1 : MS} (h : c env μ = .ok true μ1) : mOr c d env μ = .ok true μ1 := by
  unfold mOr
  rw [h]
  rfl
theorem dd_mul : fMulQ (.str "-") (.int 2) = some (.v (.str "--")) := by
  have h1 : MulOk (Str.ofString "-") 2 := by
    unfold MulOk
    decide +kernel
  have h2 : Txt.mul (Str.ofString "-") 2 = Str.ofString "--" := by decide +kernel
  unfold fMulQ
  simp only [if_pos h1, h2]
theorem seq_rt {a b : Mir} {env : En} {μ μ1 : MS} {x : MV} (h : a env μ = .rt x μ1) : sSeq a b env μ = .rt x μ1 := by
  unfold sSeq
  rw [h]
theorem seq_x {a b : Mir} {env : En} {μ μ1 : MS} {c : Str} {fs : List (Str × D)} (h : a env μ = .exc c fs μ1) : sSeq a b env μ = .exc c fs μ1 := by
  unfold sSeq
  rw [h]
theorem is_kind_ok {sg : List Nat} {ts : List (Nat × Nat)} {v : D} (hv : Pl v) : ∃ L, f_is_kind [.d (fD sg ts), .d v] [] = .ret (.d (.bl (isK sg v))) ⟨[], L⟩ := by
  let E : En := [some (.d (fD sg ts)), some (.d v), none]
  have i1 := isi_str (env := E) (μ := ⟨[], []⟩) (i := 1) (v := v) rfl hv
  by_cases hs : ∃ z, v = .str z
  · obtain ⟨z, rfl⟩ := hs
    have zl := hv.short z rfl
    have t1 := mNot_of i1
    have t2 : asB (mOp (eqD true) (mCB fLen (mCons (mVar 1) mNil)) (mC (.int 2))) E ⟨[], []⟩ = .ok (!decide ((z.length : Int) = 2)) ⟨[], []⟩ := asB_of (mOp_of (mCB_of (mCons_of (mVar_of rfl) (ns := mNil) rfl) rfl (lenZ zl)) rfl rfl rfl (neI _ _))
    have t3 : asB (mOp (eqD false) (mVar 1) (mOp fMulQ (mC (.str "-")) (mC (.int 2)))) E ⟨[], []⟩ = .ok (decide (z = "--")) ⟨[], []⟩ := asB_of (mOp_of (mVar_of rfl) (mOp_of rfl rfl rfl rfl dd_mul) rfl rfl ((strE false).trans (by simp)))
    have ret0 : ∀ c : En → MS → Res Bool, c E ⟨[], []⟩ = .ok true ⟨[], []⟩ → ∀ r : Mir, sSeq (sIf c (sRet (mC (.bl false))) sNext) r E ⟨[], []⟩ = .rt (.d (.bl false)) ⟨[], []⟩ := fun c h r => by
      unfold sSeq
      rw [sIf_t h]
      rfl
    by_cases l2 : z.length = 2
    · by_cases dd : z = "--"
      · have e : isK sg (.str z) = false := by simp [isK, dd]
        refine ⟨_, defS_d (L := []) ?_ rfl⟩
        rw [e]
        unfold n_is_kind
        exact ret0 _ (or_f t1 (or_f (t2.trans (by rw [decide_eq_true (by omega)]; rfl)) (t3.trans (by rw [decide_eq_true dd])))) _
      · have e : isK sg (.str z) = z.cps.toList.all fun c => decide (c = 45) || decide (c ∈ sg) := by simp [isK, dd, l2]
        have c1 : mComp (items (mVar 1) strI) (gN 2) mYes (mOrV (mOp (eqD false) (mVar 2) (mC (.str "-"))) (mOp (inD false) (mVar 2) (mFld "Font" "ranks" (mVar 0)))) [2] E ⟨[], []⟩ = .ok (.r (.l 0)) ⟨[], [.lst ((z.cps.toList.map fun c => D.bl (decide (c = 45) || decide (c ∈ sg))).map MV.d)]⟩ := by
          have e3 : (z.cps.toList.map ch).map (fun d => match d with | .str y => D.bl (y.cps.toList.all fun c => decide (c = 45) || decide (c ∈ sg)) | d => d) = z.cps.toList.map fun c => D.bl (decide (c = 45) || decide (c ∈ sg)) := by
            rw [List.map_map]
            refine List.map_congr_left fun c _ => ?_
            show D.bl (List.all [c] _) = _
            simp
          rw [mComp_eq (fun _ => true) (fun d => match d with | .str y => D.bl (y.cps.toList.all fun c => decide (c = 45) || decide (c ∈ sg)) | d => d) (items_str (mVar_of rfl)) (by rw [List.length_map]; show z.cps.size ≤ _; have : z.length = z.cps.size := rfl; omega) fun d hd => ?_]
          · rw [comp_all, e3]
            rfl
          · obtain ⟨c, hc, rfl⟩ := List.mem_map.mp hd
            refine ⟨[some (.d (fD sg ts)), some (.d (.str z)), some (.d (ch c))], rfl, rfl, fun _ => mFrz_d ?_⟩
            have u1 : asB (mOp (eqD false) (mVar 2) (mC (.str "-"))) [some (.d (fD sg ts)), some (.d (.str z)), some (.d (ch c))] ⟨[], []⟩ = .ok (decide (c = 45)) ⟨[], []⟩ := asB_of (mOp_of (mVar_of rfl) rfl rfl rfl ((eq_dash false c).trans (by simp)))
            have u2 : mOp (inD false) (mVar 2) (mFld "Font" "ranks" (mVar 0)) [some (.d (fD sg ts)), some (.d (.str z)), some (.d (ch c))] ⟨[], []⟩ = .ok (.d (.bl (decide (c ∈ sg)))) ⟨[], []⟩ := mOp_of (mVar_of rfl) (mFld_of (mVar_of rfl) ins_font rfl) rfl rfl (inD_dct (rk_keys sg))
            unfold mOrV
            rw [u1]
            show (if decide (c = 45) = true then _ else _) = Res.ok (MV.d (D.bl (List.all [c] _))) _
            by_cases e5 : c = 45
            · rw [if_pos (by simpa using e5)]
              simp [e5]
            · rw [if_neg (by simpa using e5), u2]
              simp [e5]
        refine ⟨_, defS_d (L := [.lst ((z.cps.toList.map fun c => D.bl (decide (c = 45) || decide (c ∈ sg))).map MV.d)]) ?_ rfl⟩
        rw [e]
        unfold n_is_kind
        refine (seq_nx (env' := E) (μ' := ⟨[], []⟩) ((sIf_f (or_f t1 (or_f (t2.trans (by rw [decide_eq_true (by omega)]; rfl)) (t3.trans (by rw [decide_eq_false dd]))))).trans rfl)).trans ?_
        exact sRet_of (mCB_of (mCons_of c1 (ns := mNil) rfl) (ds := [.lst (z.cps.toList.map fun c => D.bl (decide (c = 45) || decide (c ∈ sg)))]) (by rw [vws, vw_lst rfl]; rfl) (fAll_map _ _))
    · have e : isK sg (.str z) = false := by simp [isK, l2]
      refine ⟨_, defS_d (L := []) ?_ rfl⟩
      rw [e]
      unfold n_is_kind
      exact ret0 _ (or_f t1 (or_t (t2.trans (by rw [decide_eq_false (by omega)]; rfl)))) _
  · have e : isK sg v = false := by
      cases v <;> first | rfl | exact absurd ⟨_, rfl⟩ hs
    have e2 : isS v = false := by
      cases v <;> first | rfl | exact absurd ⟨_, rfl⟩ hs
    rw [e2] at i1
    refine ⟨_, defS_d (L := []) ?_ rfl⟩
    rw [e]
    unfold n_is_kind
    exact seq_rt ((sIf_t (or_t (mNot_of i1))).trans rfl)
end K03
end

set_option Elab.async false
set_option linter.all false
set_option maxRecDepth 100000
set_option maxHeartbeats 4000000
noncomputable section
open Classical
namespace K03
open PySem PySem.Spec PyProof.Rows L2 G Q
theorem sRet_x {m : En → MS → Res MV} {env : En} {μ μ1 : MS} {c : Str} {fs : List (Str × D)} (h : m env μ = .exc c fs μ1) : sRet m env μ = .exc c fs μ1 := by
  unfold sRet
  rw [h]
  rfl
theorem mCons_x {n : En → MS → Res MV} {ns : En → MS → Res (List MV)} {env : En} {μ μ1 : MS} {c : Str} {fs : List (Str × D)} (h : n env μ = .exc c fs μ1) : mCons n ns env μ = .exc c fs μ1 := by
  unfold mCons
  rw [h]
  rfl
theorem mMeth_x {c m c' : Str} {n : Nat} {f : MF} {mo : En → MS → Res MV} {ns : En → MS → Res (List MV)} {env : En} {μ μ1 μ2 : MS} {x : MV} {fs : List (Str × MV)} {fs' : List (Str × D)} (ho : mo env μ = .ok x μ1) (hi : insM μ1 c x = some fs) (hm : fs.lookup m = none) (h : ns env μ1 = .exc c' fs' μ2) : mMeth c m n f mo ns env μ = .exc c' fs' μ2 := by
  unfold mMeth
  rw [ho]
  simp only [Res.bind, hi, hm, h, if_true]
theorem need_bad {sg : List Nat} {ts : List (Nat × Nat)} {v : D} (hv : Pl v) (h : isK sg v = false) : ∃ L, f_need_kind [.d (fD sg ts), .d v] [] = .exc "InvalidKind" [("value", v)] ⟨[], L⟩ := by
  obtain ⟨L1, hk⟩ := is_kind_ok (sg := sg) (ts := ts) hv
  rw [h] at hk
  refine ⟨_, defS_x (L := []) ?_ rfl⟩
  have c1 := mCall_of (n := 2) (f := f_is_kind) (env := [some (.d (fD sg ts)), some (.d v)]) (μ := ⟨[], []⟩) (ns := mCons (mVar 0) (mCons (mVar 1) mNil)) (ms := [.d (fD sg ts), .d v]) (mCons_of (mVar_of rfl) (mCons_of (mVar_of rfl) rfl)) rfl (call_d (xs := [fD sg ts, v]) hk)
  unfold n_need_kind
  refine seq_x ((sIf_t (mNot_of (asB_of c1))).trans ?_)
  unfold sRaise
  rw [mFrz_d (mVar_of (i := 1) rfl)]
  rfl
theorem need_good {sg : List Nat} {ts : List (Nat × Nat)} {x y : Nat} {r : D} (h : isK sg (.str (txs [x, y])) = true) (hn : ∃ L, f_Font_normal [.d (fD sg ts), .d (.str (txs [x, y]))] [] = .ret (.d r) ⟨[], L⟩) :
    ∃ L, f_need_kind [.d (fD sg ts), .d (.str (txs [x, y]))] [] = .ret (.d r) ⟨[], L⟩ := by
  obtain ⟨L1, hk⟩ := is_kind_ok (sg := sg) (ts := ts) (v := .str (txs [x, y])) ⟨⟨_, rfl⟩, fun z e => by cases e; rw [txs_len]; simp⟩
  rw [h] at hk
  obtain ⟨L2, hn⟩ := hn
  refine ⟨_, defS_d (L := []) ?_ rfl⟩
  have c1 := mCall_of (n := 2) (f := f_is_kind) (env := [some (.d (fD sg ts)), some (.d (.str (txs [x, y])))]) (μ := ⟨[], []⟩) (ns := mCons (mVar 0) (mCons (mVar 1) mNil)) (ms := [.d (fD sg ts), .d (.str (txs [x, y]))]) (mCons_of (mVar_of rfl) (mCons_of (mVar_of rfl) rfl)) rfl (call_d (xs := [fD sg ts, .str (txs [x, y])]) hk)
  unfold n_need_kind
  refine (seq_nx ((sIf_f (mNot_of (asB_of c1))).trans rfl)).trans ?_
  exact sRet_of (mMeth_of (mVar_of rfl) ins_font rfl (mCons_of (mVar_of rfl) (ns := mNil) rfl) rfl (call_d (xs := [fD sg ts, .str (txs [x, y])]) hn))
theorem kept_good {sg : List Nat} {ts : List (Nat × Nat)} {v r : D} (h : ∃ L, f_need_kind [.d (fD sg ts), .d v] [] = .ret (.d r) ⟨[], L⟩) : ∃ L, f_Font_kept [.d (fD sg ts), .d v] [] = .ret (.d r) ⟨[], L⟩ := by
  obtain ⟨L1, h⟩ := h
  exact ⟨_, defS_d (L := []) (sRet_of (mCall_of (mCons_of (mVar_of rfl) (mCons_of (mVar_of rfl) (ns := mNil) rfl)) rfl (call_d (xs := [fD sg ts, v]) h))) rfl⟩
theorem kept_bad {sg : List Nat} {ts : List (Nat × Nat)} {v : D} (hv : Pl v) (h : isK sg v = false) : ∃ L, f_Font_kept [.d (fD sg ts), .d v] [] = .exc "InvalidKind" [("value", v)] ⟨[], L⟩ := by
  obtain ⟨L1, h⟩ := need_bad (ts := ts) hv h
  exact ⟨_, defS_x (L := []) (sRet_x (mCall_of (mCons_of (mVar_of rfl) (mCons_of (mVar_of rfl) (ns := mNil) rfl)) rfl (call_x (μ' := ⟨[], L1⟩) (xs := [fD sg ts, v]) h))) rfl⟩
theorem shown_bad {sg : List Nat} {ts : List (Nat × Nat)} {v : D} (hv : Pl v) (h : isK sg v = false) : ∃ L, f_Font_shown [.d (fD sg ts), .d v] [] = .exc "InvalidKind" [("value", v)] ⟨[], L⟩ := by
  obtain ⟨L1, h⟩ := need_bad (ts := ts) hv h
  have c1 := mCall_of (n := 2) (f := f_need_kind) (env := [some (.d (fD sg ts)), some (.d v)]) (μ := ⟨[], []⟩) (ns := mCons (mVar 0) (mCons (mVar 1) mNil)) (mCons_of (mVar_of rfl) (mCons_of (mVar_of rfl) (ns := mNil) rfl)) rfl (call_x (μ := ⟨[], []⟩) (μ' := ⟨[], L1⟩) (xs := [fD sg ts, v]) h)
  refine ⟨_, defS_x (L := []) (sRet_x ?_) rfl⟩
  exact mMeth_x (mVar_of rfl) ins_font rfl (mCons_x c1)
theorem kind_of {sg : List Nat} (hs : Sg sg) {a b : Nat} (ha : a ∈ sg) (hb : b = 45 ∨ (b ∈ sg ∧ sg.idxOf a ≤ sg.idxOf b)) : isK sg (.str (txs [a, b])) = true ∧ isK sg (.str (txs [b, a])) = true := by
  have n45 := no_dash hs ha
  have dd2 : Str.ofString "--" = txs [45, 45] := by decide +kernel
  have hb2 : b = 45 ∨ b ∈ sg := hb.imp id fun h => h.1
  have e1 : ∀ x y : Nat, (x ≠ 45 ∨ y ≠ 45) → ¬ (txs [x, y] = Str.ofString "--") := fun x y h e => by
    rw [dd2] at e
    have := congrArg (fun z : Str => z.cps.toList) e
    simp only [txs_list] at this
    simp at this
    omega
  have l2 : ∀ x y : Nat, (txs [x, y]).length = 2 := fun x y => by rw [txs_len]; rfl
  constructor
  · simp [isK, l2, e1 a b (Or.inl n45), txs_list, ha, hb2]
  · simp [isK, l2, e1 b a (Or.inr n45), txs_list, ha, hb2]
/-- both spellings of a kind are the kind -/
theorem need_kd {sg : List Nat} (hs : Sg sg) {ts : List (Nat × Nat)} {a b : Nat} (ha : a ∈ sg) (hb : b = 45 ∨ (b ∈ sg ∧ sg.idxOf a ≤ sg.idxOf b)) :
    (∃ L, f_need_kind [.d (fD sg ts), .d (.str (txs [a, b]))] [] = .ret (.d (.str (txs [a, b]))) ⟨[], L⟩) ∧ ∃ L, f_need_kind [.d (fD sg ts), .d (.str (txs [b, a]))] [] = .ret (.d (.str (txs [a, b]))) ⟨[], L⟩ := by
  have n45 := no_dash hs ha
  obtain ⟨k1, k2⟩ := kind_of hs ha hb
  have hb2 : b = 45 ∨ b ∈ sg := hb.imp id fun h => h.1
  constructor
  · refine need_good k1 ?_
    have := normal_ok (ts := ts) (Or.inr ha) hb2 (Or.inl n45) hs
    rw [if_neg] at this
    · exact this
    · rintro (z | ⟨z1, z2⟩)
      · exact n45 z
      · rcases hb with z | z
        · exact z1 z
        · omega
  · refine need_good k2 ?_
    have := normal_ok (ts := ts) hb2 (Or.inr ha) (Or.inr n45) hs
    by_cases c : b = 45 ∨ (a ≠ 45 ∧ sg.idxOf a < sg.idxOf b)
    · rw [if_pos c] at this
      exact this
    · rw [if_neg c] at this
      have e : b = a := by
        rcases hb with z | ⟨z1, z2⟩
        · exact absurd (Or.inl z) c
        · have : sg.idxOf a = sg.idxOf b := by
            have : ¬ sg.idxOf a < sg.idxOf b := fun z => c (Or.inr ⟨n45, z⟩)
            omega
          have e1 := List.getElem_idxOf (List.idxOf_lt_length_of_mem ha)
          have e2 := List.getElem_idxOf (List.idxOf_lt_length_of_mem z1)
          rw [← e1, ← e2]
          congr 1
          exact this.symm
      rw [e] at this ⊢
      exact this
end K03
end

set_option Elab.async false
set_option linter.all false
set_option maxRecDepth 100000
set_option maxHeartbeats 4000000
noncomputable section
open Classical
namespace K03
open PySem PySem.Spec PyProof.Rows L2 G Q
def hasK (kvs : List (Key × D)) : D → Bool
  | .str z => (valD kvs (.inr z)).isSome
  | _ => false
def getK (kvs : List (Key × D)) : D → D
  | .str z => (valD kvs (.inr z)).getD .non
  | _ => .non
def hds (kvs : List (Key × D)) (l : List Nat) : List D := ((l.map ch).filter (hasK kvs)).map (getK kvs)
theorem inD_has {kvs : List (Key × D)} {c : Nat} : inD false (ch c) (.dct kvs) = some (.v (.bl (hasK kvs (ch c)))) := by
  simp [inD, ch, keyD, hasK]
theorem ix_has {kvs : List (Key × D)} {c : Nat} {μ : MS} (h : hasK kvs (ch c) = true) : ixM μ (.d (.dct kvs)) (.d (ch c)) = some (.d (getK kvs (ch c))) := by
  have h2 : (valD kvs (ky c)).isSome = true := h
  obtain ⟨d, hd⟩ := Option.isSome_iff_exists.mp h2
  show (match ixD (.dct kvs) (ch c) with | some (.v x) => some (MV.d x) | _ => none) = _
  rw [show ixD (.dct kvs) (ch c) = some (.v d) from by simp [ixD, ch, keyD]; exact hd]
  show some (MV.d d) = some (MV.d ((valD kvs (ky c)).getD .non))
  rw [hd]
  rfl
theorem valM_dmv (kvs : List (Key × D)) (k : Key) : valM (dmv kvs) k = (valD kvs k).map MV.d := by
  unfold valM valD dmv
  rw [List.find?_map]
  rw [Option.map_map, Option.map_map]
  rfl
theorem ix_hasR {kvs : List (Key × D)} {c : Nat} {μ : MS} {p : R} (hp : μ.get p = some (.dct (dmv kvs))) (h : hasK kvs (ch c) = true) : ixM μ (.r p) (.d (ch c)) = some (.d (getK kvs (ch c))) := by
  have h2 : (valD kvs (ky c)).isSome = true := h
  obtain ⟨d, hd⟩ := Option.isSome_iff_exists.mp h2
  unfold ixM
  simp only [hp]
  show (keyD (ch c)).bind _ = _
  rw [show keyD (ch c) = some (ky c) from rfl, Option.bind_some, valM_dmv, hd]
  show some (MV.d d) = some (MV.d ((valD kvs (ky c)).getD .non))
  rw [hd]
  rfl
theorem hds_ch {sg : List Nat} {ts : List (Nat × Nat)} (h : Tn sg ts) : ∀ l : List Nat, ∃ m : List Nat, hds (hk ts) l = m.map ch ∧ m.length ≤ l.length
  | [] => ⟨[], rfl, Nat.le_refl _⟩
  | c :: l => by
    obtain ⟨m, e, hm⟩ := hds_ch h l
    unfold hds at e ⊢
    rw [List.map_cons, List.filter_cons]
    by_cases e2 : hasK (hk ts) (ch c) = true
    · rw [if_pos e2, List.map_cons, e]
      have h2 : (valD (hk ts) (ky c)).isSome = true := e2
      obtain ⟨d, hd⟩ := Option.isSome_iff_exists.mp h2
      obtain ⟨p, hp, q⟩ := (hk_val _ ts rfl h.apart).mp hd
      have e3 : getK (hk ts) (ch c) = d := by
        show (valD (hk ts) (ky c)).getD .non = d
        rw [hd]
        rfl
      rw [e3]
      rcases q with ⟨_, rfl⟩ | ⟨_, rfl⟩
      · exact ⟨p.2 :: m, rfl, by simp; omega⟩
      · exact ⟨p.1 :: m, rfl, by simp; omega⟩
    · rw [if_neg e2]
      exact ⟨m, e, by simp; omega⟩
theorem hds_same {a b : List (Key × D)} (h : ∀ c, valD a (ky c) = valD b (ky c)) (l : List Nat) : hds a l = hds b l := by
  unfold hds
  induction l with
  | nil => rfl
  | cons c l ih =>
    have e1 : hasK a (ch c) = hasK b (ch c) := by show (valD a (ky c)).isSome = (valD b (ky c)).isSome; rw [h]
    have e2 : getK a (ch c) = getK b (ch c) := by show (valD a (ky c)).getD .non = (valD b (ky c)).getD .non; rw [h]
    rw [List.map_cons, List.filter_cons, List.filter_cons, e1]
    split
    · rw [List.map_cons, List.map_cons, ih, e2]
    · exact ih
theorem mem_filt {sg l : List Nat} : ((sg.map ch).filter (fun d => match inList false d (l.map ch) with | some (.v (.bl t)) => t | _ => false)).map id = (sg.filter fun c => decide (c ∈ l)).map ch := by
  rw [List.map_id, List.filter_map]
  congr 1
  refine List.filter_congr fun c _ => ?_
  show (match inList false (ch c) (l.map ch) with | some (.v (.bl t)) => t | _ => false) = _
  rw [inList_ch]
/-- the signs of l, in a font's order -/
theorem join_filt {sg l : List Nat} {env : En} {μ μ1 : MS} {i : Nat} {it mx : En → MS → Res MV} {vs : List Nat} (hl : l.length ≤ 1000) (sl : sg.length ≤ 10) (hi : items it strI env μ = .ok (sg.map ch) μ1) (hvs : vs = [i])
    (hx : ∀ c, mVar i ((wipeE env vs).set i (some (.d (ch c)))) μ1 = .ok (.d (ch c)) μ1) (hm : ∀ c, ∃ m, mx ((wipeE env vs).set i (some (.d (ch c)))) μ1 = .ok m μ1 ∧ vw μ1 m = some (.lst (l.map ch))) :
    ∃ L', mSM fJoin (mC (.str "")) (mComp (items it strI) (gN i) (asB (mOp (inD false) (mVar i) mx)) (mVar i) vs) env μ = .ok (.d (.str (txs (sg.filter fun c => decide (c ∈ l))))) ⟨μ1.B, L'⟩ := by
  have c1 : mComp (items it strI) (gN i) (asB (mOp (inD false) (mVar i) mx)) (mVar i) vs env μ = .ok (.r (.l μ1.L.length)) (μ1.new (.lst (((sg.filter fun c => decide (c ∈ l)).map ch).map MV.d))) := by
    rw [mComp_eq (fun d => match inList false d (l.map ch) with | some (.v (.bl t)) => t | _ => false) id hi (by rw [List.length_map]; omega) fun d hd => ?_]
    · rw [mem_filt]
    · obtain ⟨c, hc, rfl⟩ := List.mem_map.mp hd
      obtain ⟨m, h1, h2⟩ := hm c
      refine ⟨_, rfl, asB_of (mOp_of (hx c) h1 rfl h2 ?_), fun _ => mFrz_d (hx c)⟩
      rw [inList_ch]
      exact inList_ch c l
  refine ⟨_, mSM_of (mo := mC (.str "")) rfl c1 (vw_lst (by simp [MS.get, MS.new])) (fJoin_ch ?_)⟩
  exact Nat.le_trans (List.length_filter_le _ _) (by omega)
theorem asc_ok {sg : List Nat} {ts : List (Nat × Nat)} {l : List Nat} (hs : Sg sg) (hl : l.length ≤ 1000) : ∃ L, f_Font_ascending [.d (fD sg ts), .r (.b 0)] [.lst ((l.map ch).map MV.d)] = .ret (.d (.str (txs (sg.filter fun c => decide (c ∈ l))))) ⟨[.lst ((l.map ch).map MV.d)], L⟩ := by
  obtain ⟨L', h⟩ := join_filt (sg := sg) (l := l) (env := [some (.d (fD sg ts)), some (.r (.b 0)), none]) (μ := ⟨[.lst ((l.map ch).map MV.d)], []⟩) (μ1 := ⟨[.lst ((l.map ch).map MV.d)], []⟩) (i := 2) (it := mFld "Font" "word" (mVar 0)) (mx := mVar 1) (vs := [2]) hl hs.ten (items_txt (mFld_of (mVar_of rfl) ins_font rfl)) rfl (fun c => rfl) (fun c => ⟨_, mVar_of rfl, vw_lst rfl⟩)
  exact ⟨_, defS_d (sRet_of h) (by show moRefs _ ++ [] = []; rw [refs_map]; rfl)⟩
theorem heads_ok {ts : List (Nat × Nat)} (hl : ts.length ≤ 10) : ∃ L, f__law_heads [.d (tD ts)] [] = .ret (.r (.l 0)) ⟨[], L⟩ ∧ L[0]? = some (.dct (dmv (hk ts))) := by
  let I : Nat → En → MS → Prop := fun i env μ => ∃ (e3 e4 : Option MV), env = [some (.d (tD ts)), some (.r (.l 0)), e3, e4] ∧ μ = ⟨[], [.dct (dmv (hk (ts.take i)))]⟩
  obtain ⟨env', μ', hw, e3, e4, rfl, rfl⟩ := sFor_inv (ni := items (mVar 0) lstI) (f := gT (gsC (gN 2) (gsC (gN 3) gsN))) (b := (sSeq (sPut putD (mVar 3) (mVar 1) (mVar 2)) (sPut putD (mVar 2) (mVar 1) (mVar 3)))) (env := [some (.d (tD ts)), some (.r (.l 0)), none, none]) (μ := ⟨[], [.dct []]⟩) (μ1 := ⟨[], [.dct []]⟩) (ds := ts.map fun p => .tup [ch p.1, ch p.2]) I
    (by rw [items, mFrz_d (mVar_of rfl)]; rfl) ⟨none, none, rfl, rfl⟩ (by
    rintro i d env μ hd ⟨e3, e4, rfl, rfl⟩
    rw [List.getElem?_map] at hd
    obtain ⟨p, hp, rfl⟩ := Option.map_eq_some_iff.mp hd
    have l1 := hk_len _ (ts.take i) rfl
    rw [List.length_take] at l1
    have e5 : hk (ts.take (i + 1)) = putKD (putKD (hk (ts.take i)) (ky p.1) (ch p.2)) (ky p.2) (ch p.1) := by
      rw [List.take_add_one, hp]
      exact hk_snoc _ _
    have l2 : (putKD (hk (ts.take i)) (ky p.1) (ch p.2)).length ≤ 1000 := by
      haveI : Tables := ⟨[]⟩
      have := putKD_len (hk (ts.take i)) (ky p.1) (ch p.2)
      omega
    refine ⟨[some (.d (tD ts)), some (.r (.l 0)), some (.d (ch p.1)), some (.d (ch p.2))], rfl, [some (.d (tD ts)), some (.r (.l 0)), some (.d (ch p.1)), some (.d (ch p.2))], _, Or.inl ?_, _, _, rfl, by rw [e5]⟩
    refine (seq_nx (sPut_of (mVar_of (i := 3) rfl) (mVar_of (i := 1) rfl) (mVar_of (i := 2) rfl) (putD_of (μ := ⟨[], [.dct (dmv (hk (ts.take i)))]⟩) (p := .l 0) rfl (by omega)))).trans ?_
    exact sPut_of (mVar_of (i := 2) rfl) (mVar_of (i := 1) rfl) (mVar_of (i := 3) rfl) (putD_of (μ := ⟨[], [.dct (dmv (putKD (hk (ts.take i)) (ky p.1) (ch p.2)))]⟩) (p := .l 0) rfl l2))
  rw [List.length_map, List.take_length] at hw
  have hh : n__law_heads ([MV.d (tD ts)].map some ++ List.replicate (4 - [MV.d (tD ts)].length) none) ⟨[], []⟩ = .rt (.r (.l 0)) ⟨[], [.dct (dmv (hk ts))]⟩ := by
    unfold n__law_heads
    refine (seq_nx (env' := [some (.d (tD ts)), some (.r (.l 0)), none, none]) (μ' := ⟨[], [.dct []]⟩) rfl).trans ?_
    refine (seq_nx hw).trans ?_
    exact sRet_of (mVar_of rfl)
  obtain ⟨L', f1, f2⟩ := defS_r hh rfl rfl (refs_dmv _)
  exact ⟨L', f1, f2⟩
end K03
end

set_option Elab.async false
set_option linter.all false
set_option maxRecDepth 100000
set_option maxHeartbeats 4000000
noncomputable section
open Classical
namespace K03
open PySem PySem.Spec PyProof.Rows L2 G Q
def ndash : D → Bool
  | .str z => !decide (z = "-")
  | _ => false
theorem ndash_ch (c : Nat) : ndash (ch c) = !decide (c = 45) := by
  show (!decide ((⟨#[c]⟩ : Str) = Str.ofString "-")) = _
  rw [decide_eq_decide.mpr (ch_dash c)]
def bsK (a b : Nat) : List Nat := [a, b].filter fun c => !decide (c = 45)
theorem bsK_le (a b : Nat) : (bsK a b).length ≤ 2 := List.length_filter_le _ _
/-- what a kind shows -/
def seenS (sg m : List Nat) (a b : Nat) : Str := txs (sg.filter fun c => decide (c ∈ bsK a b ++ m))
theorem seen_ok {sg m : List Nat} {ts : List (Nat × Nat)} {a b : Nat} (hs : Sg sg) (hm : hds (hk ts) (bsK a b) = m.map ch) (hml : m.length ≤ 2) : ∃ L, f_Font_seen [.d (fD sg ts), .d (.str (txs [a, b]))] [] = .ret (.d (.str (seenS sg m a b))) ⟨[], L⟩ := by
  have b2 := bsK_le a b
  let E : Option MV → Option MV → En := fun x y => [some (.d (fD sg ts)), some (.d (.str (txs [a, b]))), x, y]
  have c1 : mComp (items (mVar 1) strI) (gN 3) (asB (mOp (eqD true) (mVar 3) (mC (.str "-")))) (mVar 3) [3] (E none none) ⟨[], []⟩ = .ok (.r (.l 0)) ⟨[], [.lst (((bsK a b).map ch).map MV.d)]⟩ := by
    have e3 : (([a, b].map ch).filter ndash).map id = (bsK a b).map ch := by
      rw [List.map_id, List.filter_map]
      congr 1
      exact List.filter_congr fun c _ => ndash_ch c
    rw [mComp_eq ndash id (items_txt (mVar_of rfl)) (by simp) fun d hd => ?_]
    · rw [e3]
      rfl
    · obtain ⟨c, hc, rfl⟩ := List.mem_map.mp hd
      refine ⟨E none (some (.d (ch c))), rfl, asB_of (mOp_of (mVar_of rfl) rfl rfl rfl ?_), fun _ => mFrz_d (mVar_of rfl)⟩
      rw [ndash_ch]
      exact (eq_dash true c).trans (by simp)
  let E1 := E (some (.r (.l 0))) none
  have it2 : items (mVar 2) lstI E1 ⟨[], [.lst (((bsK a b).map ch).map MV.d)]⟩ = .ok ((bsK a b).map ch) ⟨[], [.frz (.lst ((bsK a b).map ch))]⟩ := by
    rw [items, mFrz_r (mVar_of (i := 2) rfl) (frzD_lst (p := .l 0) rfl 4)]
    rfl
  have c2 : mComp (items (mVar 2) lstI) (gN 3) (asB (mOp (inD false) (mVar 3) (mFld "Font" "heads" (mVar 0)))) (mIx (mFld "Font" "heads" (mVar 0)) (mVar 3)) [3] E1 ⟨[], [.lst (((bsK a b).map ch).map MV.d)]⟩ = .ok (.r (.l 1)) ⟨[], [.frz (.lst ((bsK a b).map ch)), .lst ((m.map ch).map MV.d)]⟩ := by
    rw [mComp_eq (hasK (hk ts)) (getK (hk ts)) it2 (by rw [List.length_map]; omega) fun d hd => ?_]
    · rw [show ((((bsK a b).map ch).filter (hasK (hk ts))).map (getK (hk ts))) = m.map ch from hm]
      rfl
    · obtain ⟨c, hc, rfl⟩ := List.mem_map.mp hd
      exact ⟨E (some (.r (.l 0))) (some (.d (ch c))), rfl, asB_of (mOp_of (mVar_of rfl) (mFld_of (mVar_of rfl) ins_font rfl) rfl rfl inD_has), fun h => mFrz_d (mIx_of (mFld_of (mVar_of rfl) ins_font rfl) (mVar_of rfl) (ix_has h))⟩
  have c3 : mOp fAdd (mVar 2) (mComp (items (mVar 2) lstI) (gN 3) (asB (mOp (inD false) (mVar 3) (mFld "Font" "heads" (mVar 0)))) (mIx (mFld "Font" "heads" (mVar 0)) (mVar 3)) [3]) E1 ⟨[], [.lst (((bsK a b).map ch).map MV.d)]⟩ = .ok (.r (.l 2)) ⟨[], [.frz (.lst ((bsK a b).map ch)), .lst ((m.map ch).map MV.d), .lst (((bsK a b ++ m).map ch).map MV.d)]⟩ := by
    have h2 : ((bsK a b).map ch).length + (m.map ch).length ≤ sizeLine := sz_big (by rw [List.length_map, List.length_map]; omega)
    refine (mOp_n (mVar_of rfl) c2 (d := .lst ((bsK a b).map ch)) rfl (vw_lst rfl) (o := .lst (((bsK a b ++ m).map ch).map MV.d)) ?_).trans rfl
    unfold fAdd
    simp only [if_pos h2, List.map_append]
  obtain ⟨L5, ha⟩ := asc_ok (ts := ts) (l := bsK a b ++ m) hs (by rw [List.length_append]; omega)
  refine ⟨_, defS_d (L := [.frz (.lst ((bsK a b).map ch)), .lst ((m.map ch).map MV.d), .lst (((bsK a b ++ m).map ch).map MV.d)]) ?_ rfl⟩
  unfold n_Font_seen
  refine (seq_nx (env' := E1) (μ' := ⟨[], [.lst (((bsK a b).map ch).map MV.d)]⟩) (sSet_of c1)).trans ?_
  refine sRet_of (mMeth_of (mVar_of rfl) ins_font rfl (mCons_of c3 (ns := mNil) rfl) rfl ?_)
  exact (call_dp (p := .l 2) (x := fD sg ts) (op_lst rfl) ha (by show (flat (.lst (((bsK a b ++ m).map ch).map MV.d))).isSome = true; rw [flat_lst]; rfl)).trans rfl
theorem shown_good {sg m : List Nat} {ts : List (Nat × Nat)} {a b : Nat} {v : D} (hs : Sg sg) (hn : ∃ L, f_need_kind [.d (fD sg ts), .d v] [] = .ret (.d (.str (txs [a, b]))) ⟨[], L⟩) (hm : hds (hk ts) (bsK a b) = m.map ch) (hml : m.length ≤ 2) :
    ∃ L, f_Font_shown [.d (fD sg ts), .d v] [] = .ret (.d (.str (seenS sg m a b))) ⟨[], L⟩ := by
  obtain ⟨L1, h1⟩ := hn
  obtain ⟨L2, h2⟩ := seen_ok hs hm hml
  have c1 := mCall_of (n := 2) (f := f_need_kind) (env := [some (.d (fD sg ts)), some (.d v)]) (μ := ⟨[], []⟩) (ns := mCons (mVar 0) (mCons (mVar 1) mNil)) (mCons_of (mVar_of rfl) (mCons_of (mVar_of rfl) (ns := mNil) rfl)) rfl (call_d (μ := ⟨[], []⟩) (xs := [fD sg ts, v]) h1)
  exact ⟨_, defS_d (L := []) (sRet_of (mMeth_of (mVar_of rfl) ins_font rfl (mCons_of c1 (ns := mNil) rfl) rfl (call_d (xs := [fD sg ts, .str (txs [a, b])]) h2))) rfl⟩
end K03
end

set_option Elab.async false
set_option linter.all false
set_option maxRecDepth 100000
set_option maxHeartbeats 4000000
noncomputable section
open Classical
namespace K03
open PySem PySem.Spec PyProof.Rows L2 G Q
def inSg (sg : List Nat) : D → Bool
  | .str z => inS z (txs sg)
  | _ => false
theorem inSg_ch (sg : List Nat) (c : Nat) : inSg sg (ch c) = decide (c ∈ sg) := by
  show inS ⟨#[c]⟩ (txs sg) = _
  rw [inS_sign, txs_list]
theorem inD_txt (sg : List Nat) (c : Nat) : inD false (ch c) (.str (txs sg)) = some (.v (.bl (inSg sg (ch c)))) := by
  show some (Out.v (.bl (false ^^ inS ⟨#[c]⟩ (txs sg)))) = some (Out.v (.bl (inS ⟨#[c]⟩ (txs sg))))
  simp
theorem lawseen_ok {sg m : List Nat} {ts : List (Nat × Nat)} {a b : Nat} (hs : Sg sg) (ht : ts.length ≤ 10) (ha : a ∈ sg) (hb : b = 45 ∨ b ∈ sg) (hm : hds (hk ts) (bsK a b) = m.map ch) (hml : m.length ≤ 2) :
    ∃ L, f__law_seen [.d (.tup [.str (txs sg), tD ts]), .d (.str (txs [a, b]))] [] = .ret (.d (.str (seenS sg m a b))) ⟨[], L⟩ := by
  have b2 := bsK_le a b
  have n45 : (45 : Nat) ∉ sg := fun h => no_dash hs h rfl
  obtain ⟨L1, hh, hh2⟩ := heads_ok (ts := ts) ht
  let E : Option MV → Option MV → Option MV → Option MV → En := fun x y z u => [some (.d (.tup [.str (txs sg), tD ts])), some (.d (.str (txs [a, b]))), some (.d (.str (txs sg))), some (.d (tD ts)), x, y, z, u]
  have hc := call_n (xs := [tD ts]) (μ := ⟨[], []⟩) hh hh2 (by show (flat (.dct (dmv (hk ts)))).isSome = true; rw [flat_dmv]; rfl)
  have s2 := mCall_of (n := 1) (f := f__law_heads) (env := E none none none none) (μ := ⟨[], []⟩) (ns := mCons (mVar 3) mNil) (mCons_of (mVar_of rfl) (ns := mNil) rfl) rfl hc
  let E1 := E (some (.r (.l 0))) none none none
  have c1 : mComp (items (mVar 1) strI) (gN 6) (asB (mOp (inD false) (mVar 6) (mVar 2))) (mVar 6) [6] E1 ⟨[], [.dct (dmv (hk ts))]⟩ = .ok (.r (.l 1)) ⟨[], [.dct (dmv (hk ts)), .lst (((bsK a b).map ch).map MV.d)]⟩ := by
    have e3 : (([a, b].map ch).filter (inSg sg)).map id = (bsK a b).map ch := by
      rw [List.map_id, List.filter_map]
      congr 1
      refine List.filter_congr fun c hc => ?_
      show inSg sg (ch c) = _
      rw [inSg_ch]
      have : c = a ∨ c = b := by simpa using hc
      rcases this with rfl | rfl
      · simp [ha, no_dash hs ha]
      · rcases hb with rfl | hb
        · simp [n45]
        · simp [hb, no_dash hs hb]
    rw [mComp_eq (inSg sg) id (items_txt (mVar_of rfl)) (by simp) fun d hd => ?_]
    · rw [e3]
      rfl
    · obtain ⟨c, hc, rfl⟩ := List.mem_map.mp hd
      exact ⟨E (some (.r (.l 0))) none (some (.d (ch c))) none, rfl, asB_of (mOp_of (mVar_of rfl) (mVar_of rfl) rfl rfl (inD_txt sg c)), fun _ => mFrz_d (mVar_of rfl)⟩
  let E2 := E (some (.r (.l 0))) (some (.r (.l 1))) none none
  have it2 : items (mVar 5) lstI E2 ⟨[], [.dct (dmv (hk ts)), .lst (((bsK a b).map ch).map MV.d)]⟩ = .ok ((bsK a b).map ch) ⟨[], [.dct (dmv (hk ts)), .frz (.lst ((bsK a b).map ch))]⟩ := by
    rw [items, mFrz_r (mVar_of (i := 5) rfl) (frzD_lst (p := .l 1) rfl 4)]
    rfl
  have c2 : mComp (items (mVar 5) lstI) (gN 6) (asB (mOp (inD false) (mVar 6) (mVar 4))) (mIx (mVar 4) (mVar 6)) [6] E2 ⟨[], [.dct (dmv (hk ts)), .lst (((bsK a b).map ch).map MV.d)]⟩ = .ok (.r (.l 2)) ⟨[], [.dct (dmv (hk ts)), .frz (.lst ((bsK a b).map ch)), .lst ((m.map ch).map MV.d)]⟩ := by
    rw [mComp_eq (hasK (hk ts)) (getK (hk ts)) it2 (by rw [List.length_map]; omega) fun d hd => ?_]
    · rw [show ((((bsK a b).map ch).filter (hasK (hk ts))).map (getK (hk ts))) = m.map ch from hm]
      rfl
    · obtain ⟨c, hc, rfl⟩ := List.mem_map.mp hd
      exact ⟨E (some (.r (.l 0))) (some (.r (.l 1))) (some (.d (ch c))) none, rfl, asB_of (mOp_of (mVar_of rfl) (mVar_of rfl) rfl (vw_dct rfl) inD_has), fun h => mFrz_d (mIx_of (mVar_of rfl) (mVar_of rfl) (ix_hasR rfl h))⟩
  have c3 : mOp fAdd (mVar 5) (mComp (items (mVar 5) lstI) (gN 6) (asB (mOp (inD false) (mVar 6) (mVar 4))) (mIx (mVar 4) (mVar 6)) [6]) E2 ⟨[], [.dct (dmv (hk ts)), .lst (((bsK a b).map ch).map MV.d)]⟩ = .ok (.r (.l 3)) ⟨[], [.dct (dmv (hk ts)), .frz (.lst ((bsK a b).map ch)), .lst ((m.map ch).map MV.d), .lst (((bsK a b ++ m).map ch).map MV.d)]⟩ := by
    have h2 : ((bsK a b).map ch).length + (m.map ch).length ≤ sizeLine := sz_big (by rw [List.length_map, List.length_map]; omega)
    refine (mOp_n (mVar_of rfl) c2 (d := .lst ((bsK a b).map ch)) rfl (vw_lst rfl) (o := .lst (((bsK a b ++ m).map ch).map MV.d)) ?_).trans rfl
    unfold fAdd
    simp only [if_pos h2, List.map_append]
  let E3 := E (some (.r (.l 0))) (some (.r (.l 3))) none none
  obtain ⟨L', hj⟩ := join_filt (sg := sg) (l := bsK a b ++ m) (env := E3) (μ := ⟨[], [.dct (dmv (hk ts)), .frz (.lst ((bsK a b).map ch)), .lst ((m.map ch).map MV.d), .lst (((bsK a b ++ m).map ch).map MV.d)]⟩) (μ1 := ⟨[], [.dct (dmv (hk ts)), .frz (.lst ((bsK a b).map ch)), .lst ((m.map ch).map MV.d), .lst (((bsK a b ++ m).map ch).map MV.d)]⟩) (i := 7) (it := mVar 2) (mx := mVar 5) (vs := [7]) (by rw [List.length_append]; omega) hs.ten (items_txt (mVar_of rfl)) rfl (fun c => rfl) (fun c => ⟨_, mVar_of rfl, vw_lst rfl⟩)
  refine ⟨_, defS_d (L := L') ?_ rfl⟩
  unfold n__law_seen
  refine (seq_nx (env' := E none none none none) (μ' := ⟨[], []⟩) rfl).trans ?_
  refine (seq_nx (env' := E1) (μ' := ⟨[], [.dct (dmv (hk ts))]⟩) (sSet_of s2)).trans ?_
  refine (seq_nx (env' := E2) (sSet_of c1)).trans ?_
  refine (seq_nx (env' := E3) (sSet_of c3)).trans ?_
  exact sRet_of hj
end K03
end

set_option Elab.async false
set_option linter.all false
set_option maxRecDepth 100000
set_option maxHeartbeats 4000000
noncomputable section
open Classical
namespace K03
open PySem PySem.Spec PyProof.Rows L2 G Q
theorem eqNilF (xs : List D) : eqD false (.lst xs) (.lst []) = some (.v (.bl xs.isEmpty)) := by
  unfold eqD
  simp [toV]
def notK (sg : List Nat) : D → Bool
  | .str z => !decide (z = "-") && !inS z (txs sg)
  | _ => false
theorem notK_ch (sg : List Nat) (c : Nat) : notK sg (ch c) = !(decide (c = 45) || decide (c ∈ sg)) := by
  show (!decide ((⟨#[c]⟩ : Str) = Str.ofString "-") && !inS ⟨#[c]⟩ (txs sg)) = _
  rw [inS_sign, txs_list, Bool.not_or]
  congr 2
  exact decide_eq_decide.mpr (ch_dash c)
theorem lawkind_ok {sg : List Nat} {v : D} (hv : Pl v) : ∃ L, f__law_is_kind [.d (.str (txs sg)), .d v] [] = .ret (.d (.bl (isK sg v))) ⟨[], L⟩ := by
  let E : En := [some (.d (.str (txs sg))), some (.d v), none]
  have i1 := isi_str (env := E) (μ := ⟨[], []⟩) (i := 1) (v := v) rfl hv
  by_cases hs : ∃ z, v = .str z
  · obtain ⟨z, rfl⟩ := hs
    have zl := hv.short z rfl
    have t1 := mNot_of i1
    have t2 : asB (mOp (eqD true) (mCB fLen (mCons (mVar 1) mNil)) (mC (.int 2))) E ⟨[], []⟩ = .ok (!decide ((z.length : Int) = 2)) ⟨[], []⟩ := asB_of (mOp_of (mCB_of (mCons_of (mVar_of rfl) (ns := mNil) rfl) rfl (lenZ zl)) rfl rfl rfl (neI _ _))
    have t3 : asB (mOp (eqD false) (mVar 1) (mC (.str "--"))) E ⟨[], []⟩ = .ok (decide (z = "--")) ⟨[], []⟩ := asB_of (mOp_of (mVar_of rfl) rfl rfl rfl ((strE false).trans (by simp)))
    by_cases l2 : z.length = 2
    · by_cases dd : z = "--"
      · have e : isK sg (.str z) = false := by simp [isK, dd]
        refine ⟨_, defS_d (L := []) ?_ rfl⟩
        rw [e]
        unfold n__law_is_kind
        exact seq_rt ((sIf_t (or_f t1 (or_f (t2.trans (by rw [decide_eq_true (by omega)]; rfl)) (t3.trans (by rw [decide_eq_true dd]))))).trans rfl)
      · have e : isK sg (.str z) = z.cps.toList.all fun c => decide (c = 45) || decide (c ∈ sg) := by simp [isK, dd, l2]
        have c1 : mComp (items (mVar 1) strI) (gN 2) (mAnd (asB (mOp (eqD true) (mVar 2) (mC (.str "-")))) (asB (mOp (inD true) (mVar 2) (mVar 0)))) (mVar 2) [2] E ⟨[], []⟩ = .ok (.r (.l 0)) ⟨[], [.lst ((((z.cps.toList.map ch).filter (notK sg)).map id).map MV.d)]⟩ := by
          rw [mComp_eq (notK sg) id (items_str (mVar_of rfl)) (by rw [List.length_map]; show z.cps.size ≤ _; have : z.length = z.cps.size := rfl; omega) fun d hd => ?_]
          · rfl
          · obtain ⟨c, hc, rfl⟩ := List.mem_map.mp hd
            refine ⟨[some (.d (.str (txs sg))), some (.d (.str z)), some (.d (ch c))], rfl, ?_, fun _ => mFrz_d (mVar_of rfl)⟩
            have u1 : asB (mOp (eqD true) (mVar 2) (mC (.str "-"))) [some (.d (.str (txs sg))), some (.d (.str z)), some (.d (ch c))] ⟨[], []⟩ = .ok (!decide (c = 45)) ⟨[], []⟩ := asB_of (mOp_of (mVar_of rfl) rfl rfl rfl ((eq_dash true c).trans (by simp)))
            have u2 : asB (mOp (inD true) (mVar 2) (mVar 0)) [some (.d (.str (txs sg))), some (.d (.str z)), some (.d (ch c))] ⟨[], []⟩ = .ok (!decide (c ∈ sg)) ⟨[], []⟩ := asB_of (mOp_of (mVar_of rfl) (mVar_of rfl) rfl rfl (by
              show some (Out.v (.bl (true ^^ inS ⟨#[c]⟩ (txs sg)))) = _
              rw [inS_sign, txs_list]
              simp))
            rw [notK_ch]
            by_cases e5 : c = 45
            · rw [decide_eq_true e5] at u1 ⊢
              exact (and_f u1).trans (by simp)
            · rw [decide_eq_false e5] at u1 ⊢
              exact (and_t u1 u2).trans (by simp)
        refine ⟨_, defS_d (L := [.lst ((((z.cps.toList.map ch).filter (notK sg)).map id).map MV.d), .lst []]) ?_ rfl⟩
        unfold n__law_is_kind
        refine (seq_nx (env' := E) (μ' := ⟨[], []⟩) ((sIf_f (or_f t1 (or_f (t2.trans (by rw [decide_eq_true (by omega)]; rfl)) (t3.trans (by rw [decide_eq_false dd]))))).trans rfl)).trans ?_
        refine sRet_of (mOp_of c1 lst_nil (vw_lst rfl) (vw_lst (xs := []) rfl) ?_)
        rw [eqNilF, e]
        congr 3
        rw [List.map_id, Bool.eq_iff_iff, List.isEmpty_iff, List.filter_eq_nil_iff, List.all_eq_true]
        constructor
        · intro h c hc
          have := h (ch c) (List.mem_map.mpr ⟨c, hc, rfl⟩)
          rw [notK_ch] at this
          cases q : (decide (c = 45) || decide (c ∈ sg)) with
          | true => rfl
          | false => rw [q] at this; exact absurd rfl this
        · intro h d hd
          obtain ⟨c, hc, rfl⟩ := List.mem_map.mp hd
          rw [notK_ch, h c hc]
          simp
    · have e : isK sg (.str z) = false := by simp [isK, l2]
      refine ⟨_, defS_d (L := []) ?_ rfl⟩
      rw [e]
      unfold n__law_is_kind
      exact seq_rt ((sIf_t (or_f t1 (or_t (t2.trans (by rw [decide_eq_false (by omega)]; rfl))))).trans rfl)
  · have e : isK sg v = false := by
      cases v <;> first | rfl | exact absurd ⟨_, rfl⟩ hs
    have e2 : isS v = false := by
      cases v <;> first | rfl | exact absurd ⟨_, rfl⟩ hs
    rw [e2] at i1
    refine ⟨_, defS_d (L := []) ?_ rfl⟩
    rw [e]
    unfold n__law_is_kind
    exact seq_rt ((sIf_t (or_t (mNot_of i1))).trans rfl)
end K03
end

set_option Elab.async false
set_option linter.all false
set_option maxRecDepth 100000
set_option maxHeartbeats 4000000
noncomputable section
open Classical
namespace K03
open PySem PySem.Spec PyProof.Rows L2 G Q
/-- what a law asks about, and says -/
structure Vl (v : D) : Prop where
  pl : Pl v
  rp : ∃ s, fRepr [.tup [.str "kind", v]] = some (.v (.str s))
theorem rp_of {v : D} {p : PyData} (h : pyD v = some p) (h1 : p.showable = true) (h2 : p.depth ≤ 50) (h3 : (PyData.tuple [.str "kind", p]).shown.length ≤ sizeLine) : ∃ s, fRepr [.tup [.str "kind", v]] = some (.v (.str s)) := by
  have e : pyD (.tup [.str "kind", v]) = some (.tuple [.str "kind", p]) := by
    rw [pyD, pyL, pyD, pyL, pyL, h]
    rfl
  have e2 : (PyData.tuple [.str "kind", p]).showable = true ∧ (PyData.tuple [.str "kind", p]).depth ≤ 60 ∧ (PyData.tuple [.str "kind", p]).shown.length ≤ sizeLine := by
    refine ⟨?_, ?_, h3⟩
    · simp only [PyData.showable, PyData.showableAll, h1]
      rfl
    · simp only [PyData.depth, PyData.depthAll]
      omega
  refine ⟨(PyData.tuple [.str "kind", p]).shown, ?_⟩
  show (pyD (.tup [.str "kind", v])).bind _ = _
  rw [e, Option.bind_some, if_pos e2]
theorem kind_short : (PyData.str "kind").leavesShort 13 = true := by decide +kernel
theorem rp_leaf {v : D} {p : PyData} (h : pyD v = some p) (h1 : p.showable = true) (h2 : p.depth ≤ 50) (h3 : p.leavesShort 13 = true) (h4 : p.weight ≤ 10000) : ∃ s, fRepr [.tup [.str "kind", v]] = some (.v (.str s)) := by
  refine rp_of h h1 h2 (PyData.shown_fits (B := 13) (by decide) (by decide) ?_ ?_)
  · simp only [PyData.leavesShort, PyData.leavesShortAll, h3]
    have := kind_short
    simp only [PyData.leavesShort] at this
    simp [this]
  · simp only [PyData.weight, PyData.weightAll]
    have : (Str.ofString "kind").cps.size = 4 := by decide +kernel
    have e : (2 : Nat) ^ 20 = 1048576 := by decide
    omega
theorem vl_str {z : Str} (h : z.length ≤ 1000) (hc : ∀ c ∈ z.cps.toList, c < 16 ^ 8) : Vl (.str z) := by
  refine ⟨⟨⟨_, rfl⟩, fun y e => by cases e; exact h⟩, rp_leaf (p := .str z) (by rw [pyD]) rfl (by simp [PyData.depth]) ?_ ?_⟩
  · simp only [PyData.leavesShort]
    exact List.all_eq_true.mpr fun c hc' => decide_eq_true (hc c hc')
  · simp only [PyData.weight]
    have : z.length = z.cps.size := rfl
    omega
def oddL : List D := [.non, .bl true, .bl false, .int 0, .int 1, .int (-1), .int 2, .int 10, .int (10 ^ 30), .int (10 ^ 30 + 1), .int (10 ^ 49 * 10 ^ 50), .str "", .str "a", .str "0", .str "zz", .str "A", .str "-",
  .str "--", .str "a b", .str "a\n", .tup [], .lst [], .dct [], .tup [.str "a"], .lst [.str "a"], .dct [(.inr "a", .int 1)], .tup [.str "a", .str "a"], .tup [.str "0", .int 1], .lst [.tup [.str "0", .int 1]], .str "0123456789a"]
def okR (v : D) : Bool := (tyD v).isSome && ((match v with | .str z => decide (z.length ≤ 1000) | _ => true) && match pyD (.tup [.str "kind", v]) with
  | some p => p.showable && (decide (p.depth ≤ 60) && decide (p.shown.length ≤ sizeLine))
  | none => false)
theorem vl_ok {v : D} (h : okR v = true) : Vl v := by
  unfold okR at h
  rw [Bool.and_eq_true, Bool.and_eq_true] at h
  obtain ⟨h1, h2, h3⟩ := h
  refine ⟨⟨Option.isSome_iff_exists.mp h1, fun z e => by subst e; simpa using h2⟩, ?_⟩
  cases e : pyD (.tup [.str "kind", v]) with
  | none => rw [e] at h3; cases h3
  | some p =>
    rw [e] at h3
    simp only [Bool.and_eq_true, decide_eq_true_eq] at h3
    refine ⟨p.shown, ?_⟩
    show (pyD (.tup [.str "kind", v])).bind _ = _
    rw [e, Option.bind_some, if_pos h3]
theorem odd_vl : ∀ v ∈ oddL, Vl v := fun v hv => vl_ok (List.all_eq_true.mp (show oddL.all okR = true by decide +kernel) v hv)
end K03
end

set_option Elab.async false
set_option linter.all false
set_option maxRecDepth 100000
set_option maxHeartbeats 4000000
noncomputable section
open Classical
namespace K03
open PySem PySem.Spec PyProof.Rows L2 G Q
def odd1 : List D := [.non, .bl true, .bl false, .int 0, .int 1, .int (-1), .int 2, .int 10, .int (10 ^ 30), .int (10 ^ 30 + 1), .int (10 ^ 49 * 10 ^ 50), .str "", .str "a", .str "0", .str "zz", .str "A", .str "-"]
def odd2 : List D := [.str "--", .str "a b", .str "a\n", .tup [], .lst [], .dct [], .tup [.str "a"], .lst [.str "a"], .dct [(.inr "a", .int 1)], .tup [.str "a", .str "a"], .tup [.str "0", .int 1], .lst [.tup [.str "0", .int 1]], .str "0123456789a"]
theorem pow_of {j : Nat} (h : j ≤ 1000) : fPow (.int 10) (.int j) = some (.v (.int (10 ^ j))) := by
  have h2 : CPow 10 (j : Int) := ⟨by omega, by omega, by decide⟩
  show (if CPow 10 (j : Int) then some (Out.v (.int (10 ^ (j : Int).toNat))) else none) = _
  rw [if_pos h2]
  rfl
theorem mPow {j : Nat} {env : En} {μ : MS} (h : j ≤ 1000) : mOp fPow (mC (.int 10)) (mC (.int j)) env μ = .ok (.d (.int (10 ^ j))) μ := mOp_of rfl rfl rfl rfl (pow_of h)
theorem mLst_of {ns : En → MS → Res (List MV)} {env : En} {μ μ1 : MS} {ds : List D} (h : ns env μ = .ok (ds.map MV.d) μ1) (hl : ds.length ≤ 1000) : mLst ns env μ = .ok (.r (.l μ1.L.length)) (μ1.new (.lst (ds.map MV.d))) := by
  have h2 : (ds.map MV.d).length ≤ sizeLine := sz_big (by rw [List.length_map]; exact hl)
  unfold mLst
  rw [h]
  show (if (ds.map MV.d).length ≤ sizeLine then Res.ok _ _ else Res.bad) = _
  rw [if_pos h2]
theorem odd1_ok {env : En} {μ : MS} : (mLst (mCons (mC .non) (mCons (mC (.bl true)) (mCons (mC (.bl false)) (mCons (mC (.int 0)) (mCons (mC (.int 1)) (mCons (mNeg (mC (.int 1))) (mCons (mC (.int 2)) (mCons (mC (.int 10)) (mCons (mOp fPow (mC (.int 10)) (mC (.int 30))) (mCons (mOp fAdd (mOp fPow (mC (.int 10)) (mC (.int 30))) (mC (.int 1))) (mCons (mOp fMulQ (mOp fPow (mC (.int 10)) (mC (.int 49))) (mOp fPow (mC (.int 10)) (mC (.int 50)))) (mCons (mC (.str "")) (mCons (mC (.str "a")) (mCons (mC (.str "0")) (mCons (mC (.str "zz")) (mCons (mC (.str "A")) (mCons (mC (.str "-")) mNil)))))))))))))))))) env μ = .ok (.r (.l μ.L.length)) (μ.new (.lst (odd1.map MV.d))) := by
  refine mLst_of (ds := odd1) ?_ (by decide)
  have p30 := mPow (j := 30) (env := env) (μ := μ) (by decide)
  have p49 := mPow (j := 49) (env := env) (μ := μ) (by decide)
  have p50 := mPow (j := 50) (env := env) (μ := μ) (by decide)
  have m1 : fMulQ (.int (10 ^ 49)) (.int (10 ^ 50)) = some (.v (.int (10 ^ 49 * 10 ^ 50))) := by
    have h2 : CMulW (10 ^ 49) (10 ^ 50) := cmul (by decide +kernel) (by decide +kernel)
    show (if CMulW (10 ^ 49) (10 ^ 50) then some (Out.v (.int (10 ^ 49 * 10 ^ 50))) else none) = _
    rw [if_pos h2]
  refine mCons_of rfl (mCons_of rfl (mCons_of rfl (mCons_of rfl (mCons_of rfl (mCons_of rfl (mCons_of rfl (mCons_of rfl ?_)))))))
  refine mCons_of p30 (mCons_of (mOp_of p30 rfl rfl rfl rfl) (mCons_of (mOp_of p49 p50 rfl rfl m1) ?_))
  rfl
theorem frz_new {n : En → MS → Res MV} {env : En} {μ μ1 : MS} {xs : List D} (h : n env μ = .ok (.r (.l μ1.L.length)) (μ1.new (.lst (xs.map MV.d)))) : mFrz n env μ = .ok (.d (.lst xs)) (μ1.new (.frz (.lst xs))) := by
  refine (mFrz_r h (frzD_lst (xs := xs) (by simp [MS.get, MS.new]) 4)).trans ?_
  simp [MS.set, MS.new]
theorem frz_newD {n : En → MS → Res MV} {env : En} {μ : MS} {xs : List (Key × D)} (h : n env μ = .ok (.r (.l μ.L.length)) (μ.new (.dct (dmv xs)))) : mFrz n env μ = .ok (.d (.dct xs)) (μ.new (.frz (.dct xs))) := by
  refine (mFrz_r h (frzD_dct (xs := xs) (by simp [MS.get, MS.new]) 4)).trans ?_
  simp [MS.set, MS.new]
theorem tup1_of {a : En → MS → Res MV} {env : En} {μ μ1 : MS} {x : D} (ha : a env μ = .ok (.d x) μ1) : mTup (mCons a mNil) env μ = .ok (.d (.tup [x])) μ1 := mTup_of (ds := [x]) (mCons_of ha rfl) (by simp)
theorem odd2_ok {e0 : Option MV} {E : En} {μ : MS} : ∃ es : List MO, (mLst (mCons (mC (.str "--")) (mCons (mC (.str "a b")) (mCons (mC (.str "a\n")) (mCons (mTup mNil) (mCons (mFrz (mLst mNil)) (mCons (mFrz mDNew) (mCons (mTup (mCons (mC (.str "a")) mNil)) (mCons (mFrz (mLst (mCons (mC (.str "a")) mNil))) (mCons (mFrz (mDOne (.inr "a") (.int 1))) (mCons (mTup (mCons (mC (.str "a")) (mCons (mC (.str "a")) mNil))) (mCons (mTup (mCons (mC (.str "0")) (mCons (mC (.int 1)) mNil))) (mCons (mFrz (mLst (mCons (mTup (mCons (mC (.str "0")) (mCons (mC (.int 1)) mNil))) mNil))) (mCons (mC (.str "0123456789a")) mNil)))))))))))))) (e0 :: E) μ = .ok (.r (.l (μ.L ++ es).length)) ⟨μ.B, μ.L ++ es ++ [.lst (odd2.map MV.d)]⟩ := by
  refine ⟨[.frz (.lst []), .frz (.dct []), .frz (.lst [.str "a"]), .frz (.dct [(.inr "a", .int 1)]), .frz (.lst [.tup [.str "0", .int 1]])], ?_⟩
  refine (mLst_of (ds := odd2) (μ1 := ⟨μ.B, μ.L ++ [.frz (.lst []), .frz (.dct []), .frz (.lst [.str "a"]), .frz (.dct [(.inr "a", .int 1)]), .frz (.lst [.tup [.str "0", .int 1]])]⟩) ?_ (by decide)).trans rfl
  refine mCons_of rfl (mCons_of rfl (mCons_of rfl (mCons_of (mTup_of (ds := []) rfl (by simp)) (mCons_of (frz_new lst_nil) (mCons_of (frz_newD (xs := []) rfl) (mCons_of (tup1_of rfl) (mCons_of (frz_new (xs := [.str "a"]) (mLst_of (ds := [.str "a"]) rfl (by simp))) (mCons_of (frz_newD (xs := [(.inr "a", .int 1)]) rfl) ?_))))))))
  refine mCons_of (tup2_of rfl rfl) (mCons_of (tup2_of rfl rfl) (mCons_of (frz_new (xs := [.tup [.str "0", .int 1]]) (mLst_of (ds := [.tup [.str "0", .int 1]]) (mCons_of (tup2_of rfl rfl) (ns := mNil) rfl) (by simp))) (mCons_of rfl (ns := mNil) ?_)))
  simp [MS.new, mNil]
theorem odd_ok {o : MO} {N : Nat} (hp : PenN N o) (hN : N ≤ 10 ^ 5) : ∃ (x : D) (o' : MO) (L : List MO), x ∈ oddL ∧ PenN (N + 6) o' ∧ f__law_odd [.r (.b 0)] [o] = .ret (.d x) ⟨[o'], L⟩ := by
  obtain ⟨es, h2⟩ := odd2_ok (e0 := some (.r (.b 0))) (E := [some (.r (.l 0))]) (μ := ⟨[o], [.lst (odd1.map MV.d)]⟩)
  obtain ⟨L, hL⟩ : ∃ L, L = es ++ [.lst (odd2.map MV.d)] := ⟨_, rfl⟩
  obtain ⟨q, hq⟩ : ∃ q, q = es.length + 2 := ⟨_, rfl⟩
  obtain ⟨x, o', hx, hp2, hpk⟩ := pick_call (μ := ⟨[o], .lst (odd1.map MV.d) :: (L ++ [.lst (oddL.map MV.d)])⟩) (p := .b 0) (q := .l q) (o := o) (xs := oddL) rfl hp hN (by rw [hq, hL]; simp [MS.get]) nofun (by decide) (by decide)
  have c3 := mOp_n (f := fAdd) (a := mVar 1) (env := [some (.r (.b 0)), some (.r (.l 0))]) (μ := ⟨[o], [.lst (odd1.map MV.d)]⟩) (mVar_of rfl) h2 (d := .lst odd1) (d' := .lst odd2) (o := .lst (oddL.map MV.d)) (vw_lst (by simp [MS.get])) (vw_lst (by simp [MS.get])) (by
    have h3 : odd1.length + odd2.length ≤ sizeLine := sz_big (by decide)
    show (if odd1.length + odd2.length ≤ sizeLine then some (Out.n (.lst ((odd1 ++ odd2).map .d))) else none) = _
    rw [if_pos h3]
    rfl)
  have walk : n__law_odd [some (.r (.b 0)), none] ⟨[o], []⟩ = .rt (.d x) ⟨[o'], (.lst (odd1.map MV.d) :: (L ++ [.lst (oddL.map MV.d)])).set q (.lst (oddL.map MV.d))⟩ := by
    unfold n__law_odd
    refine (seq_nx (env' := [some (.r (.b 0)), some (.r (.l 0))]) (μ' := ⟨[o], [.lst (odd1.map MV.d)]⟩) (sSet_of odd1_ok)).trans ?_
    refine (seq_nx (env' := [some (.r (.b 0)), some (.r (.l q))]) (μ' := ⟨[o], .lst (odd1.map MV.d) :: (L ++ [.lst (oddL.map MV.d)])⟩) ((sSet_of c3).trans ?_)).trans ?_
    · rw [hq, hL]
      simp [MS.new]
    exact sRet_of (mCall_of (mCons_of (mVar_of rfl) (mCons_of (mVar_of rfl) (ns := mNil) rfl)) rfl hpk)
  exact ⟨x, o', _, hx, hp2, defS_d walk (by simp [hp2.refs])⟩
end K03
end

set_option Elab.async false
set_option linter.all false
set_option maxRecDepth 100000
set_option maxHeartbeats 4000000
noncomputable section
open Classical
namespace K03
open PySem PySem.Spec PyProof.Rows L2 G Q
theorem told_x (v : D) (μ : MS) : tg__law_told (.exc "InvalidKind" [("value", v)] μ) = .ok (.d (.tup [.str "kind", v])) μ := by
  have h1 : (Str.ofString "InvalidKind") ∈ ([("InvalidKind" : Str)] : List Str) := List.mem_cons_self
  have h2 : ([D.str "kind", v] : List D).length ≤ sizeLine := sz_big (by simp)
  unfold tg__law_told tgR tgX
  simp only [if_pos h1]
  have e : (hSel tl__law_told "InvalidKind").bind (fun h => h [("value", v)]) = some (.tup [.str "kind", v]) := by
    unfold tl__law_told hSel
    simp only [if_true, Option.bind_some]
    show ((hCons _ _ _).bind fun ds => if ds.length ≤ sizeLine then some (D.tup ds) else none) = _
    rw [show hCons (fun _ => some (D.str "kind")) (hCons (fun fs : List (Str × D) => fs.lookup ("value" : Str)) hNil) [("value", v)] = some [D.str "kind", v] from rfl, Option.bind_some, if_pos h2]
  rw [e]
theorem lam_x {mb : En → MS → Res MV} {env : En} {μ : MS} {v : D} (h : mb env μ = .exc "InvalidKind" [("value", v)] μ) : mLam tg__law_told mb env μ = .ok (.d (.tup [.str "kind", v])) μ := by
  unfold mLam
  rw [h, told_x]
  rfl
theorem neS (s : Str) : eqD true (.str s) (.str s) = some (.v (.bl false)) := by
  rw [strE]
  simp
/-- one of the two questions: what was told is what stands -/
theorem ask_ok {mb : En → MS → Res MV} {env : En} {μ : MS} {v : D} (hv : Vl v) (h : mb env μ = .exc "InvalidKind" [("value", v)] μ) (h9 : env[9]? = some (some (.d v))) (r : Mir) :
    sIf (asB (mOp (eqD true) (mCB fRepr (mCons (mLam tg__law_told mb) mNil)) (mCB fRepr (mCons (mTup (mCons (mC (.str "kind")) (mCons (mFrz (mVar 9)) mNil))) mNil)))) r sNext env μ = .nx env μ := by
  obtain ⟨s, hs⟩ := hv.rp
  refine (sIf_f (asB_of (mOp_of (mCB_of (mCons_of (lam_x h) (ns := mNil) rfl) rfl hs) (mCB_of (mCons_of (tup2_of rfl (mFrz_d (mVar_of h9))) (ns := mNil) rfl) rfl hs) rfl rfl (neS s)))).trans rfl
theorem meth_x {m : Str} {f : MF} {env : En} {μ : MS} {sg : List Nat} {us : List (Nat × Nat)} {v : D} (h4 : env[4]? = some (some (.d (fD sg us)))) (h9 : env[9]? = some (some (.d v))) (hm : ([("word", .d (.str (txs sg))), ("ranks", .d (.dct (rk sg))), ("heads", .d (.dct (hk us)))] : List (Str × MV)).lookup m = none)
    (h : ∃ L, f [.d (fD sg us), .d v] [] = .exc "InvalidKind" [("value", v)] ⟨[], L⟩) : mMeth "Font" m 2 f (mVar 4) (mCons (mVar 9) mNil) env μ = .exc "InvalidKind" [("value", v)] μ := by
  obtain ⟨L, h⟩ := h
  exact mMeth_of (mVar_of h4) ins_font hm (mCons_of (mVar_of h9) (ns := mNil) rfl) rfl (call_x (μ' := ⟨[], L⟩) (xs := [fD sg us, v]) h)
theorem seq_ct {a b : Mir} {env env' : En} {μ μ1 : MS} (h : a env μ = .ct env' μ1) : sSeq a b env μ = .ct env' μ1 := by
  unfold sSeq
  rw [h]
theorem vals_ok {sg : List Nat} {us : List (Nat × Nat)} {vs : List D} {ni : En → MS → Res (List D)} {μ μ0 : MS} {e0 e1 e2 e3 e6 e7 e8 e9 : Option MV} (hv : ∀ v ∈ vs, Vl v) {M : Mir}
    (hM : M = (sSeq (sIf (asB (mCall 2 f__law_is_kind (mCons (mVar 5) (mCons (mVar 9) mNil)))) sCont sNext)
  (sSeq (sIf (asB (mOp (eqD true) (mCB fRepr (mCons (mLam tg__law_told (mMeth "Font" "kept" 2 f_Font_kept (mVar 4) (mCons (mVar 9) mNil))) mNil)) (mCB fRepr (mCons (mTup (mCons (mC (.str "kind")) (mCons (mFrz (mVar 9)) mNil))) mNil)))) (sRet (mC (.bl false))) sNext)
  (sIf (asB (mOp (eqD true) (mCB fRepr (mCons (mLam tg__law_told (mMeth "Font" "shown" 2 f_Font_shown (mVar 4) (mCons (mVar 9) mNil))) mNil)) (mCB fRepr (mCons (mTup (mCons (mC (.str "kind")) (mCons (mFrz (mVar 9)) mNil))) mNil)))) (sRet (mC (.bl false))) sNext))))
    (hi : ni [e0, e1, e2, e3, some (.d (fD sg us)), some (.d (.str (txs sg))), e6, e7, e8, e9] μ = .ok vs μ0) :
    ∃ f9, sFor ni (gN 9) M [e0, e1, e2, e3, some (.d (fD sg us)), some (.d (.str (txs sg))), e6, e7, e8, e9] μ = .nx [e0, e1, e2, e3, some (.d (fD sg us)), some (.d (.str (txs sg))), e6, e7, e8, f9] μ0 := by
  let I : Nat → En → MS → Prop := fun i env μ => ∃ f9, env = [e0, e1, e2, e3, some (.d (fD sg us)), some (.d (.str (txs sg))), e6, e7, e8, f9] ∧ μ = μ0
  obtain ⟨env', μ', hw, f9, rfl, rfl⟩ := sFor_inv (b := M) (f := gN 9) I hi ⟨e9, rfl, rfl⟩ (by
    rintro i v env μ hd ⟨f9, rfl, rfl⟩
    have hvl := hv v (List.mem_of_getElem? hd)
    obtain ⟨L, hk⟩ := lawkind_ok (sg := sg) hvl.pl
    refine ⟨[e0, e1, e2, e3, some (.d (fD sg us)), some (.d (.str (txs sg))), e6, e7, e8, some (.d v)], rfl, [e0, e1, e2, e3, some (.d (fD sg us)), some (.d (.str (txs sg))), e6, e7, e8, some (.d v)], μ, ?_, some (.d v), rfl, rfl⟩
    have c1 := asB_of (mCall_of (n := 2) (f := f__law_is_kind) (env := [e0, e1, e2, e3, some (.d (fD sg us)), some (.d (.str (txs sg))), e6, e7, e8, some (.d v)]) (μ := μ) (ns := mCons (mVar 5) (mCons (mVar 9) mNil)) (mCons_of (mVar_of rfl) (mCons_of (mVar_of rfl) (ns := mNil) rfl)) rfl (call_d (xs := [.str (txs sg), v]) hk))
    subst hM
    cases q : isK sg v with
    | true =>
      rw [q] at c1
      refine Or.inr ?_
      exact seq_ct ((sIf_t c1).trans rfl)
    | false =>
      rw [q] at c1
      refine Or.inl ?_
      refine (seq_nx ((sIf_f c1).trans rfl)).trans ?_
      refine (seq_nx (ask_ok hvl (meth_x rfl rfl rfl (kept_bad hvl.pl q)) rfl _)).trans ?_
      exact ask_ok hvl (meth_x rfl rfl rfl (shown_bad hvl.pl q)) rfl _)
  exact ⟨f9, hw⟩
end K03
end

set_option Elab.async false
set_option linter.all false
set_option maxRecDepth 100000
set_option maxHeartbeats 4000000
noncomputable section
open Classical
namespace K03
open PySem PySem.Spec PyProof.Rows L2 G Q
theorem rev_txt (a b : Nat) : fRevU (.str (txs [a, b])) = some (.v (.str (txs [b, a]))) := by
  have h : (txs [a, b]).length ≤ sizeLine := txt_sz (by simp)
  show (if (txs [a, b]).length ≤ sizeLine then some (Out.v (.str (revS (txs [a, b])))) else none) = _
  rw [if_pos h]
  rfl
theorem mRevU_of {m : En → MS → Res MV} {env : En} {μ μ1 : MS} {x : MV} {d e : D} (h : m env μ = .ok x μ1) (hv : vw μ1 x = some d) (hf : fRevU d = some (.v e)) : mRevU m env μ = .ok (.d e) μ1 := by
  unfold mRevU
  rw [h]
  simp only [Res.bind, hv, Option.bind_some, hf, mOut]
theorem kinds_walk {sg : List Nat} {ts us : List (Nat × Nat)} {ks : List D} {ni : En → MS → Res (List D)} {μ μ0 : MS} {e0 e1 e2 e6 e7 e8 e9 : Option MV} (hs : Sg sg) (ht : Tn sg ts) (hu : Tn sg us) (same : ∀ c, valD (hk us) (ky c) = valD (hk ts) (ky c)) (hks : ∀ x ∈ ks, KD sg x) {M : Mir}
    (hM : M = (sFor (items (mTup (mCons (mFrz (mVar 6)) (mCons (mFrz (mRevU (mVar 6))) mNil))) tupI) (gN 7) (sIf (mOr (asB (mOp (eqD true) (mMeth "Font" "kept" 2 f_Font_kept (mVar 4) (mCons (mVar 7) mNil)) (mVar 6))) (asB (mOp (eqD true) (mMeth "Font" "shown" 2 f_Font_shown (mVar 4) (mCons (mVar 7) mNil)) (mCall 2 f__law_seen (mCons (mVar 3) (mCons (mVar 6) mNil)))))) (sRet (mC (.bl false))) sNext)))
    (hi : ni [e0, e1, e2, some (.d (.tup [.str (txs sg), tD ts])), some (.d (fD sg us)), some (.d (.str (txs sg))), e6, e7, e8, e9] μ = .ok ks μ0) :
    ∃ f6 f7, sFor ni (gN 6) M [e0, e1, e2, some (.d (.tup [.str (txs sg), tD ts])), some (.d (fD sg us)), some (.d (.str (txs sg))), e6, e7, e8, e9] μ = .nx [e0, e1, e2, some (.d (.tup [.str (txs sg), tD ts])), some (.d (fD sg us)), some (.d (.str (txs sg))), f6, f7, e8, e9] μ0 := by
  let E : Option MV → Option MV → En := fun x y => [e0, e1, e2, some (.d (.tup [.str (txs sg), tD ts])), some (.d (fD sg us)), some (.d (.str (txs sg))), x, y, e8, e9]
  let I : Nat → En → MS → Prop := fun i env μ => ∃ f6 f7, env = E f6 f7 ∧ μ = μ0
  obtain ⟨env', μ', hw, f6, f7, rfl, rfl⟩ := sFor_inv (b := M) (f := gN 6) I hi ⟨e6, e7, rfl, rfl⟩ (by
    rintro i x env μ hd ⟨f6, f7, rfl, rfl⟩
    obtain ⟨a, b, rfl, ha, hb⟩ := hks x (List.mem_of_getElem? hd)
    obtain ⟨m, hm, hml⟩ := hds_ch hu (bsK a b)
    have hml2 : m.length ≤ 2 := Nat.le_trans hml (bsK_le a b)
    have hm2 : hds (hk ts) (bsK a b) = m.map ch := (hds_same same _).symm.trans hm
    obtain ⟨n1, n2⟩ := need_kd hs (ts := us) ha hb
    obtain ⟨Ls, hls⟩ := lawseen_ok (b := b) hs ht.len ha (hb.imp id fun h => h.1) hm2 hml2
    refine ⟨E (some (.d (.str (txs [a, b])))) f7, rfl, ?_⟩
    let J : Nat → En → MS → Prop := fun i env μ' => ∃ f7, env = E (some (.d (.str (txs [a, b])))) f7 ∧ μ' = μ
    obtain ⟨env2, μ2, hw2, g7, rfl, rfl⟩ := sFor_inv (ni := items (mTup (mCons (mFrz (mVar 6)) (mCons (mFrz (mRevU (mVar 6))) mNil))) tupI) (f := gN 7) (b := (sIf (mOr (asB (mOp (eqD true) (mMeth "Font" "kept" 2 f_Font_kept (mVar 4) (mCons (mVar 7) mNil)) (mVar 6))) (asB (mOp (eqD true) (mMeth "Font" "shown" 2 f_Font_shown (mVar 4) (mCons (mVar 7) mNil)) (mCall 2 f__law_seen (mCons (mVar 3) (mCons (mVar 6) mNil)))))) (sRet (mC (.bl false))) sNext)) (env := E (some (.d (.str (txs [a, b])))) f7) (μ := μ) (μ1 := μ) (ds := [.str (txs [a, b]), .str (txs [b, a])]) J
      (by
        rw [items, mFrz_d (tup2_of (mFrz_d (mVar_of (i := 6) rfl)) (mFrz_d (mRevU_of (mVar_of (i := 6) rfl) rfl (rev_txt a b))))]
        rfl) ⟨f7, rfl, rfl⟩ (by
      rintro j one env μ' hd2 ⟨g7, rfl, rfl⟩
      have hone : ∃ L, f_need_kind [.d (fD sg us), .d one] [] = .ret (.d (.str (txs [a, b]))) ⟨[], L⟩ := by
        have := List.mem_of_getElem? hd2
        simp only [List.mem_cons, List.not_mem_nil, or_false] at this
        rcases this with rfl | rfl
        · exact n1
        · exact n2
      obtain ⟨Lk, hk1⟩ := kept_good hone
      obtain ⟨Lh, hh1⟩ := shown_good hs hone hm hml2
      refine ⟨E (some (.d (.str (txs [a, b])))) (some (.d one)), rfl, _, _, Or.inl ?_, some (.d one), rfl, rfl⟩
      refine (sIf_f (or_f (asB_of (mOp_of (mMeth_of (mVar_of rfl) ins_font rfl (mCons_of (mVar_of rfl) (ns := mNil) rfl) rfl (call_d (xs := [fD sg us, one]) hk1)) (mVar_of rfl) rfl rfl (neS _))) ?_)).trans rfl
      exact asB_of (mOp_of (mMeth_of (mVar_of rfl) ins_font rfl (mCons_of (mVar_of rfl) (ns := mNil) rfl) rfl (call_d (xs := [fD sg us, one]) hh1)) (mCall_of (mCons_of (mVar_of rfl) (mCons_of (mVar_of rfl) (ns := mNil) rfl)) rfl (call_d (xs := [.tup [.str (txs sg), tD ts], .str (txs [a, b])]) hls)) rfl rfl (neS _)))
    subst hM
    exact ⟨_, _, Or.inl hw2, some (.d (.str (txs [a, b]))), g7, rfl, rfl⟩)
  exact ⟨f6, f7, hw⟩
end K03
end

set_option Elab.async false
set_option linter.all false
set_option maxRecDepth 100000
set_option maxHeartbeats 4000000
noncomputable section
open Classical
namespace K03
open PySem PySem.Spec PyProof.Rows L2 G Q
def SG : List Nat := ("0123456789abcdefghijklmnopqrstuvwxyz" : Str).cps.toList
theorem sign_vals : SG.all (fun c => okR (.str (Txt.mul (txs [c]) 3)) && (okR (.str (Txt.upper (txs [c]) ++ ("A" : Str))) && (okR (.str (txs [c])) && (okR (.str (txs [c] ++ ("?" : Str))) && (okR (.str (("?" : Str) ++ txs [c])) && (okR (.str (txs [c] ++ (" " : Str))) &&
  (decide ((Txt.upper (txs [c])).length ≤ 10) && decide (c < 200)))))))) = true := by decide +kernel
theorem mul3 {c : Nat} : MulOk (txs [c]) 3 := by
  unfold MulOk
  have h : (txs [c]).length = 1 := rfl
  rw [h]
  decide +kernel
theorem txt_vals {c : Nat} (hc : c ∈ SG) : Vl (.str (Txt.mul (txs [c]) 3)) ∧ Vl (.str (Txt.upper (txs [c]) ++ ("A" : Str))) ∧ Vl (.str (txs [c])) ∧ Vl (.str (txs [c] ++ ("?" : Str))) ∧ Vl (.str (("?" : Str) ++ txs [c])) ∧ Vl (.str (txs [c] ++ (" " : Str))) ∧ (Txt.upper (txs [c])).length ≤ 10 ∧ c < 200 := by
  have h := List.all_eq_true.mp sign_vals c hc
  simp only [Bool.and_eq_true, decide_eq_true_eq] at h
  obtain ⟨h1, h2, h3, h4, h5, h6, h7, h8⟩ := h
  exact ⟨vl_ok h1, vl_ok h2, vl_ok h3, vl_ok h4, vl_ok h5, vl_ok h6, h7, h8⟩
theorem add_s {x y : Str} (h : x.length + y.length ≤ 1000) : fAdd (.str x) (.str y) = some (.v (.str (x ++ y))) := by
  have h2 : x.length + y.length ≤ sizeLine := sz_big h
  unfold fAdd
  simp only [if_pos h2]
theorem up_of {z : Str} (h : z.length ≤ 1000) : fUpper (.str z) [] = some (.v (.str (Txt.upper z))) := by
  have h2 : z.length ≤ 5592405 := by omega
  unfold fUpper
  simp only [if_pos h2]
theorem mul_of {z : Str} {n : Int} (h : MulOk z n) : fMulQ (.str z) (.int n) = some (.v (.str (Txt.mul z n))) := by
  unfold fMulQ
  simp only [if_pos h]
theorem mSM0_of {f : D → List D → Option Out} {mo : En → MS → Res MV} {env : En} {μ μ1 : MS} {a : Str} {e : D} (ho : mo env μ = .ok (.d (.str a)) μ1) (hf : f (.str a) [] = some (.v e)) : mSM0 f mo env μ = .ok (.d e) μ1 := by
  unfold mSM0
  rw [ho]
  simp only [Res.bind, hf, mOut]
/-- the texts asked about -/
def vals1 (c : Nat) : List D := [.str "--", .str "-", .str "", .str (txs [c]), .str (Txt.mul (txs [c]) 3), .str (txs [c] ++ ("?" : Str)), .str (("?" : Str) ++ txs [c]), .str (txs [c] ++ (" " : Str)), .str "-?", .str (Txt.upper (txs [c]) ++ ("A" : Str))]
theorem vals1_vl {c : Nat} (hc : c ∈ SG) : ∀ v ∈ vals1 c, Vl v := by
  obtain ⟨h1, h2, h3, h4, h5, h6, _⟩ := txt_vals hc
  have k : ∀ v ∈ ([.str "--", .str "-", .str "", .str "-?"] : List D), Vl v := fun v hv => vl_ok (List.all_eq_true.mp (show ([.str "--", .str "-", .str "", .str "-?"] : List D).all okR = true by decide +kernel) v hv)
  intro v hv
  simp only [vals1, List.mem_cons, List.not_mem_nil, or_false] at hv
  rcases hv with rfl | rfl | rfl | rfl | rfl | rfl | rfl | rfl | rfl | rfl
  · exact k _ (by simp)
  · exact k _ (by simp)
  · exact k _ (by simp)
  · exact h3
  · exact h1
  · exact h4
  · exact h5
  · exact h6
  · exact k _ (by simp)
  · exact h2
end K03
end

set_option Elab.async false
set_option linter.all false
set_option maxRecDepth 100000
set_option maxHeartbeats 4000000
noncomputable section
open Classical
namespace K03
open PySem PySem.Spec PyProof.Rows L2 G Q
theorem ix_sign {sg : List Nat} {j : Nat} {env : En} {μ : MS} (hj : j < sg.length) (hl : sg.length ≤ 1000) (h5 : env[5]? = some (some (.d (.str (txs sg))))) : mIx (mVar 5) (mC (.int j)) env μ = .ok (.d (ch sg[j])) μ :=
  mIx_of (mVar_of h5) rfl (by unfold ixM; simp only [ix_txt hj hl])
theorem set1_ok {sg : List Nat} {c : Nat} {env : En} {μ : MS} (hs : Sg sg) (hc : sg[0]? = some c) (h5 : env[5]? = some (some (.d (.str (txs sg))))) :
    (sSet 8 (mLst (mCons (mC (.str "--")) (mCons (mC (.str "-")) (mCons (mC (.str "")) (mCons (mIx (mVar 5) (mC (.int 0))) (mCons (mOp fMulQ (mIx (mVar 5) (mC (.int 0))) (mC (.int 3))) (mCons (mOp fAdd (mIx (mVar 5) (mC (.int 0))) (mC (.str "?"))) (mCons (mOp fAdd (mC (.str "?")) (mIx (mVar 5) (mC (.int 0)))) (mCons (mOp fAdd (mIx (mVar 5) (mC (.int 0))) (mC (.str " "))) (mCons (mC (.str "-?")) (mCons (mOp fAdd (mSM0 fUpper (mIx (mVar 5) (mC (.int 0)))) (mC (.str "A"))) mNil)))))))))))) env μ = .nx (env.set 8 (some (.r (.l μ.L.length)))) (μ.new (.lst ((vals1 c).map MV.d))) := by
  have h2 := hs.two
  have h10 := hs.ten
  obtain ⟨h0, e0⟩ := List.getElem?_eq_some_iff.mp hc
  have ix := ix_sign (μ := μ) h0 (by omega) h5
  rw [e0] at ix
  have ix : mIx (mVar 5) (mC (.int 0)) env μ = .ok (.d (.str (txs [c]))) μ := ix
  have hcs : c ∈ SG := by
    have := hs.lt c (by rw [← e0]; exact List.getElem_mem _)
    exact this
  obtain ⟨_, _, _, _, _, _, hup, _⟩ := txt_vals hcs
  have l1 : (txs [c]).length = 1 := rfl
  have lq : (Str.ofString "?").length = 1 := by decide +kernel
  have lb : (Str.ofString " ").length = 1 := by decide +kernel
  have lA : (Str.ofString "A").length = 1 := by decide +kernel
  refine sSet_of (mLst_of (ds := vals1 c) ?_ (by simp [vals1]))
  refine mCons_of rfl (mCons_of rfl (mCons_of rfl (mCons_of ix (mCons_of (mOp_of ix rfl rfl rfl (mul_of mul3)) (mCons_of (mOp_of ix rfl rfl rfl (add_s (by rw [l1, lq]; omega))) (mCons_of (mOp_of rfl ix rfl rfl (add_s (by rw [l1, lq]; omega))) (mCons_of (mOp_of ix rfl rfl rfl (add_s (by rw [l1, lb]; omega))) (mCons_of rfl (mCons_of (mOp_of (mSM0_of ix (up_of (by rw [l1]; omega))) rfl rfl rfl (add_s (by rw [lA]; omega))) (ns := mNil) rfl)))))))))
/-- the other values asked about -/
def vals2 (sg : List Nat) (a b : Nat) (x y : D) : List D := [.non, .int 0, .lst [], .tup [ch a, ch b], .lst [.str (txs (sg.take 2))], x, y]
theorem vals2_vl {sg : List Nat} (hs : Sg sg) {a b : Nat} (ha : a ∈ sg) (hb : b ∈ sg) {x y : D} (hx : Vl x) (hy : Vl y) : ∀ v ∈ vals2 sg a b x y, Vl v := by
  have lt : ∀ c ∈ sg, c < 16 ^ 8 := fun c hc => by
    have := (txt_vals (show c ∈ SG from hs.lt c hc)).2.2.2.2.2.2.2
    have e : (200 : Nat) < 16 ^ 8 := by decide
    omega
  intro v hv
  simp only [vals2, List.mem_cons, List.not_mem_nil, or_false] at hv
  rcases hv with rfl | rfl | rfl | rfl | rfl | rfl | rfl
  · exact vl_ok (by decide +kernel)
  · exact vl_ok (by decide +kernel)
  · exact vl_ok (by decide +kernel)
  · refine ⟨⟨⟨_, rfl⟩, nofun⟩, rp_leaf (p := .tuple [.str ⟨#[a]⟩, .str ⟨#[b]⟩]) (by rw [pyD, pyL, pyL, pyL]; unfold ch; rw [pyD, pyD]; rfl) rfl (by simp [PyData.depth, PyData.depthAll]) ?_ ?_⟩
    · simp [PyData.leavesShort, PyData.leavesShortAll, lt a ha, lt b hb]
    · simp [PyData.weight, PyData.weightAll]
  · refine ⟨⟨⟨_, rfl⟩, nofun⟩, rp_leaf (p := .list [.str (txs (sg.take 2))]) (by rw [pyD, pyL, pyL, pyD]; rfl) rfl (by simp [PyData.depth, PyData.depthAll]) ?_ ?_⟩
    · simp only [PyData.leavesShort, PyData.leavesShortAll, txs_list, Bool.and_true]
      exact List.all_eq_true.mpr fun c hc => decide_eq_true (lt c (List.mem_of_mem_take hc))
    · simp only [PyData.weight, PyData.weightAll]
      have : (txs (sg.take 2)).cps.size ≤ 2 := by
        show (sg.take 2).toArray.size ≤ 2
        simp
        omega
      omega
  · exact hx
  · exact hy
theorem app_get {R S : List MO} {k : Nat} {o : MO} (h : R[k]? = some o) : (R ++ S)[k]? = some o := by
  rw [List.getElem?_append_left (List.getElem?_eq_some_iff.mp h).1]
  exact h
theorem vals_items {sg : List Nat} {a b c k N : Nat} {env : En} {o : MO} {R : List MO} (hs : Sg sg) (ha : sg[0]? = some a) (hb : sg[1]? = some b) (h1 : env[1]? = some (some (.r (.l 0)))) (h5 : env[5]? = some (some (.d (.str (txs sg))))) (h8 : env[8]? = some (some (.r (.l (k + 1))))) (hR : R[k]? = some (.lst ((vals1 c).map MV.d))) (hp : PenN N o) (hN : N ≤ 90000) :
    ∃ (x y : D) (o' : MO) (R' : List MO), x ∈ oddL ∧ y ∈ oddL ∧ PenN (N + 12) o' ∧ items (mOp fAdd (mVar 8) (mLst (mCons (mC .non) (mCons (mC (.int 0)) (mCons (mFrz (mLst mNil)) (mCons (mTup (mCons (mFrz (mIx (mVar 5) (mC (.int 0)))) (mCons (mFrz (mIx (mVar 5) (mC (.int 1)))) mNil))) (mCons (mFrz (mLst (mCons (mSl (mVar 5) mNoPart (mPart (mC (.int 2)))) mNil))) (mCons (mFrz (mCall 1 f__law_odd (mCons (mVar 1) mNil))) (mCons (mFrz (mCall 1 f__law_odd (mCons (mVar 1) mNil))) mNil))))))))) lstI env ⟨[], o :: R⟩ =
      .ok (vals1 c ++ vals2 sg a b x y) ⟨[], o' :: R'⟩ := by
  have g2 := hs.two
  have g10 := hs.ten
  obtain ⟨i0, e0⟩ := List.getElem?_eq_some_iff.mp ha
  obtain ⟨i1, e1⟩ := List.getElem?_eq_some_iff.mp hb
  obtain ⟨R1, hR1⟩ : ∃ R1, R1 = R ++ [MO.frz (.lst [])] ++ [MO.frz (.lst [.str (txs (sg.take 2))])] := ⟨_, rfl⟩
  obtain ⟨x, o1, L1, hx, hp1, ho1⟩ := odd_ok hp (by omega)
  obtain ⟨y, o2, L2, hy, hp2, ho2⟩ := odd_ok hp1 (by omega)
  have c1 := mCall_of (n := 1) (f := f__law_odd) (env := env) (μ := ⟨[], o :: R1⟩) (ns := mCons (mVar 1) mNil) (mCons_of (mVar_of h1) (ns := mNil) rfl) rfl (call1_d (p := .l 0) (xs := []) (hp.op rfl) ho1 hp1.clD)
  have c2 := mCall_of (n := 1) (f := f__law_odd) (env := env) (μ := ⟨[], o1 :: R1⟩) (ns := mCons (mVar 1) mNil) (mCons_of (mVar_of h1) (ns := mNil) rfl) rfl (call1_d (p := .l 0) (xs := []) (hp1.op rfl) ho2 hp2.clD)
  have x0 : ∀ μ, mIx (mVar 5) (mC (.int 0)) env μ = .ok (.d (ch a)) μ := fun μ => by
    have := ix_sign (μ := μ) i0 (by omega) h5
    rw [e0] at this
    exact this
  have x1 : ∀ μ, mIx (mVar 5) (mC (.int 1)) env μ = .ok (.d (ch b)) μ := fun μ => by
    have := ix_sign (μ := μ) i1 (by omega) h5
    rw [e1] at this
    exact this
  have sl : ∀ μ, mSl (mVar 5) mNoPart (mPart (mC (.int 2))) env μ = .ok (.d (.str (txs (sg.take 2)))) μ := fun μ => by
    have := mSl_s (m := mVar 5) (ml := mNoPart) (mh := mPart (mC (.int 2))) (env := env) (μ := μ) (mVar_of h5) rfl rfl (show sg.length ≤ 1000 by omega)
    rw [show ((2 : Int)) = ((2 : Nat) : Int) from rfl, cutS_to] at this
    exact this
  have lst2 : mLst (mCons (mC .non) (mCons (mC (.int 0)) (mCons (mFrz (mLst mNil)) (mCons (mTup (mCons (mFrz (mIx (mVar 5) (mC (.int 0)))) (mCons (mFrz (mIx (mVar 5) (mC (.int 1)))) mNil))) (mCons (mFrz (mLst (mCons (mSl (mVar 5) mNoPart (mPart (mC (.int 2)))) mNil))) (mCons (mFrz (mCall 1 f__law_odd (mCons (mVar 1) mNil))) (mCons (mFrz (mCall 1 f__law_odd (mCons (mVar 1) mNil))) mNil))))))) env ⟨[], o :: R⟩ =
      .ok (.r (.l (R1.length + 1))) ⟨[], o2 :: (R1 ++ [.lst ((vals2 sg a b x y).map MV.d)])⟩ := by
    refine mLst_of (ds := vals2 sg a b x y) (μ1 := ⟨[], o2 :: R1⟩) ?_ (by simp [vals2])
    refine mCons_of rfl (mCons_of rfl (mCons_of (frz_new lst_nil) (mCons_of (tup2_of (mFrz_d (x0 _)) (mFrz_d (x1 _))) (mCons_of (frz_new (xs := [.str (txs (sg.take 2))]) (mLst_of (ds := [.str (txs (sg.take 2))]) (mCons_of (sl _) (ns := mNil) rfl) (by simp))) (mCons_of (μ1 := ⟨[], o1 :: R1⟩) (mFrz_d ?_) (mCons_of (μ1 := ⟨[], o2 :: R1⟩) (mFrz_d c2) (ns := mNil) rfl))))))
    rw [hR1] at c1 ⊢
    exact c1
  have hk : (R1 ++ [MO.lst ((vals2 sg a b x y).map MV.d)])[k]? = some (.lst ((vals1 c).map MV.d)) := by
    rw [hR1]
    exact app_get (app_get (app_get hR))
  have c3 := mOp_n (f := fAdd) (a := mVar 8) (env := env) (μ := ⟨[], o :: R⟩) (mVar_of h8) lst2 (d := .lst (vals1 c)) (d' := .lst (vals2 sg a b x y)) (o := .lst ((vals1 c ++ vals2 sg a b x y).map MV.d)) (vw_lst hk) (vw_lst (by simp [MS.get])) (by
    have h3 : (vals1 c).length + (vals2 sg a b x y).length ≤ sizeLine := sz_big (by simp [vals1, vals2])
    show (if (vals1 c).length + (vals2 sg a b x y).length ≤ sizeLine then some (Out.n (.lst ((vals1 c ++ vals2 sg a b x y).map .d))) else none) = _
    rw [if_pos h3])
  refine ⟨x, y, o2, R1 ++ [.lst ((vals2 sg a b x y).map MV.d)] ++ [.frz (.lst (vals1 c ++ vals2 sg a b x y))], hx, hy, hp2, ?_⟩
  rw [items, frz_new c3]
  rfl
end K03
end

set_option Elab.async false
set_option linter.all false
set_option maxRecDepth 100000
set_option maxHeartbeats 4000000
noncomputable section
open Classical
namespace K03
open PySem PySem.Spec PyProof.Rows L2 G Q
def most3 : List D := [.int 3, .int 5, .int 10]
def bodyM : Mir := (sSeq (sSet 3 (mCall 2 f__law_font (mCons (mVar 1) (mCons (mCall 2 f__law_pick (mCons (mVar 1) (mCons (mLst (mCons (mC (.int 3)) (mCons (mC (.int 5)) (mCons (mC (.int 10)) mNil)))) mNil))) mNil))))
  (sSeq (sTo (gT (gsC (gN 4) (gsC (gN 5) gsN))) (mTup (mCons (mFrz (mCall 2 f__law_font_made (mCons (mVar 1) (mCons (mVar 3) mNil)))) (mCons (mFrz (mIx (mVar 3) (mC (.int 0)))) mNil))))
  (sSeq (sFor (items (mCall 1 f__law_kinds (mCons (mVar 5) mNil)) lstI) (gN 6) (sFor (items (mTup (mCons (mFrz (mVar 6)) (mCons (mFrz (mRevU (mVar 6))) mNil))) tupI) (gN 7) (sIf (mOr (asB (mOp (eqD true) (mMeth "Font" "kept" 2 f_Font_kept (mVar 4) (mCons (mVar 7) mNil)) (mVar 6))) (asB (mOp (eqD true) (mMeth "Font" "shown" 2 f_Font_shown (mVar 4) (mCons (mVar 7) mNil)) (mCall 2 f__law_seen (mCons (mVar 3) (mCons (mVar 6) mNil)))))) (sRet (mC (.bl false))) sNext)))
  (sSeq (sSet 8 (mLst (mCons (mC (.str "--")) (mCons (mC (.str "-")) (mCons (mC (.str "")) (mCons (mIx (mVar 5) (mC (.int 0))) (mCons (mOp fMulQ (mIx (mVar 5) (mC (.int 0))) (mC (.int 3))) (mCons (mOp fAdd (mIx (mVar 5) (mC (.int 0))) (mC (.str "?"))) (mCons (mOp fAdd (mC (.str "?")) (mIx (mVar 5) (mC (.int 0)))) (mCons (mOp fAdd (mIx (mVar 5) (mC (.int 0))) (mC (.str " "))) (mCons (mC (.str "-?")) (mCons (mOp fAdd (mSM0 fUpper (mIx (mVar 5) (mC (.int 0)))) (mC (.str "A"))) mNil))))))))))))
  (sFor (items (mOp fAdd (mVar 8) (mLst (mCons (mC .non) (mCons (mC (.int 0)) (mCons (mFrz (mLst mNil)) (mCons (mTup (mCons (mFrz (mIx (mVar 5) (mC (.int 0)))) (mCons (mFrz (mIx (mVar 5) (mC (.int 1)))) mNil))) (mCons (mFrz (mLst (mCons (mSl (mVar 5) mNoPart (mPart (mC (.int 2)))) mNil))) (mCons (mFrz (mCall 1 f__law_odd (mCons (mVar 1) mNil))) (mCons (mFrz (mCall 1 f__law_odd (mCons (mVar 1) mNil))) mNil))))))))) lstI) (gN 9) (sSeq (sIf (asB (mCall 2 f__law_is_kind (mCons (mVar 5) (mCons (mVar 9) mNil)))) sCont sNext)
  (sSeq (sIf (asB (mOp (eqD true) (mCB fRepr (mCons (mLam tg__law_told (mMeth "Font" "kept" 2 f_Font_kept (mVar 4) (mCons (mVar 9) mNil))) mNil)) (mCB fRepr (mCons (mTup (mCons (mC (.str "kind")) (mCons (mFrz (mVar 9)) mNil))) mNil)))) (sRet (mC (.bl false))) sNext)
  (sIf (asB (mOp (eqD true) (mCB fRepr (mCons (mLam tg__law_told (mMeth "Font" "shown" 2 f_Font_shown (mVar 4) (mCons (mVar 9) mNil))) mNil)) (mCB fRepr (mCons (mTup (mCons (mC (.str "kind")) (mCons (mFrz (mVar 9)) mNil))) mNil)))) (sRet (mC (.bl false))) sNext))))))))
theorem n_law_eq : n_law = sSeq (sFor (rngI (mCons (mC (.int 6)) mNil) g1) (gN 2) bodyM) (sRet (mC (.bl true))) := rfl
theorem sTo_of {f : Tgt} {m : En → MS → Res MV} {env env' : En} {μ μ1 : MS} {d : D} (h : m env μ = .ok (.d d) μ1) (hf : f d env = some env') : sTo f m env μ = .nx env' μ1 := by
  unfold sTo
  rw [mFrz_d h]
  simp only [wth, hf]
theorem law_turn {o : MO} {N : Nat} {R : List MO} {e2 e3 e4 e5 e6 e7 e8 e9 : Option MV} (hp : PenN N o) (hN : N ≤ 80000) : ∃ (o' : MO) (R' : List MO) (f3 f4 f5 f6 f7 f8 f9 : Option MV), PenN (N + 1000) o' ∧
    bodyM [none, some (.r (.l 0)), e2, e3, e4, e5, e6, e7, e8, e9] ⟨[], o :: R⟩ = .nx [none, some (.r (.l 0)), e2, f3, f4, f5, f6, f7, f8, f9] ⟨[], o' :: R'⟩ := by
  -- the font
  obtain ⟨x, o1, hx, hp1, hpk⟩ := pick_call (μ := ⟨[], o :: (R ++ [.lst (most3.map MV.d)])⟩) (p := .l 0) (q := .l (R.length + 1)) (o := o) (xs := most3) rfl hp (by omega) (by simp [MS.get]) (by intro h; injection h with h; omega) (by decide) (by decide)
  obtain ⟨R1, hR1⟩ : ∃ R1, R1 = (R ++ [MO.lst (most3.map MV.d)]).set R.length (MO.lst (most3.map MV.d)) := ⟨_, rfl⟩
  have hpk : callR f__law_pick [.r (.l 0), .r (.l (R.length + 1))] ⟨[], o :: (R ++ [.lst (most3.map MV.d)])⟩ = .ok (.d x) ⟨[], o1 :: R1⟩ := hpk.trans (by rw [hR1]; rfl)
  obtain ⟨most, rfl, m3, m10⟩ : ∃ most : Nat, x = .int most ∧ 3 ≤ most ∧ most ≤ 10 := by
    simp only [most3, List.mem_cons, List.not_mem_nil, or_false] at hx
    rcases hx with rfl | rfl | rfl
    · exact ⟨3, rfl, by omega, by omega⟩
    · exact ⟨5, rfl, by omega, by omega⟩
    · exact ⟨10, rfl, by omega, by omega⟩
  obtain ⟨sg, ts, o2, L2, hs, ht, hp2, hf⟩ := font_ok hp1 (by omega) m3 m10
  obtain ⟨ts', us, o3, L3, hpm, hfl, hp3, hmd⟩ := made_ok hs ht hp2 (by omega)
  have hu : Tn sg us := (ht.perm hpm).flip hfl
  obtain ⟨L4, ks, hk1, hk2, hkl, hks⟩ := kinds_ok hs
  obtain ⟨R2, hR2⟩ : ∃ R2, R2 = R1 ++ [MO.frz (.lst ks)] := ⟨_, rfl⟩
  obtain ⟨a, ha⟩ : ∃ a, sg[0]? = some a := ⟨sg[0]'(by have := hs.two; omega), by simp⟩
  obtain ⟨b, hb⟩ : ∃ b, sg[1]? = some b := ⟨sg[1]'(by have := hs.two; omega), by simp⟩
  have sA : sSet 3 (mCall 2 f__law_font (mCons (mVar 1) (mCons (mCall 2 f__law_pick (mCons (mVar 1) (mCons (mLst (mCons (mC (.int 3)) (mCons (mC (.int 5)) (mCons (mC (.int 10)) mNil)))) mNil))) mNil))) [none, some (.r (.l 0)), e2, e3, e4, e5, e6, e7, e8, e9] ⟨[], o :: R⟩ =
      .nx [none, some (.r (.l 0)), e2, some (.d (.tup [.str (txs sg), tD ts])), e4, e5, e6, e7, e8, e9] ⟨[], o2 :: R1⟩ := by
    have l3 : mLst (mCons (mC (.int 3)) (mCons (mC (.int 5)) (mCons (mC (.int 10)) mNil))) [none, some (.r (.l 0)), e2, e3, e4, e5, e6, e7, e8, e9] ⟨[], o :: R⟩ = .ok (.r (.l (R.length + 1))) ⟨[], o :: (R ++ [.lst (most3.map MV.d)])⟩ := (mLst_of (ds := most3) rfl (by decide)).trans rfl
    exact sSet_of (mCall_of (mCons_of (mVar_of rfl) (mCons_of (mCall_of (mCons_of (mVar_of rfl) (mCons_of l3 (ns := mNil) rfl)) rfl hpk) (ns := mNil) rfl)) rfl (call1_d (p := .l 0) (xs := [.int most]) (hp1.op rfl) hf hp2.clD))
  have sB : sTo (gT (gsC (gN 4) (gsC (gN 5) gsN))) (mTup (mCons (mFrz (mCall 2 f__law_font_made (mCons (mVar 1) (mCons (mVar 3) mNil)))) (mCons (mFrz (mIx (mVar 3) (mC (.int 0)))) mNil))) [none, some (.r (.l 0)), e2, some (.d (.tup [.str (txs sg), tD ts])), e4, e5, e6, e7, e8, e9] ⟨[], o2 :: R1⟩ =
      .nx [none, some (.r (.l 0)), e2, some (.d (.tup [.str (txs sg), tD ts])), some (.d (fD sg us)), some (.d (.str (txs sg))), e6, e7, e8, e9] ⟨[], o3 :: R1⟩ := by
    refine sTo_of (d := .tup [fD sg us, .str (txs sg)]) (tup2_of (x := fD sg us) (y := .str (txs sg)) (μ1 := ⟨[], o3 :: R1⟩) (μ2 := ⟨[], o3 :: R1⟩) (mFrz_d (mCall_of (mCons_of (mVar_of rfl) (mCons_of (mVar_of rfl) (ns := mNil) rfl)) rfl (call1_d (p := .l 0) (xs := [.tup [.str (txs sg), tD ts]]) (hp2.op rfl) hmd hp3.clD))) (mFrz_d rfl)) rfl
  have iC : items (mCall 1 f__law_kinds (mCons (mVar 5) mNil)) lstI [none, some (.r (.l 0)), e2, some (.d (.tup [.str (txs sg), tD ts])), some (.d (fD sg us)), some (.d (.str (txs sg))), e6, e7, e8, e9] ⟨[], o3 :: R1⟩ = .ok ks ⟨[], o3 :: R2⟩ := by
    have c1 := mCall_of (n := 1) (f := f__law_kinds) (env := [none, some (.r (.l 0)), e2, some (.d (.tup [.str (txs sg), tD ts])), some (.d (fD sg us)), some (.d (.str (txs sg))), e6, e7, e8, e9]) (μ := ⟨[], o3 :: R1⟩) (ns := mCons (mVar 5) mNil) (mCons_of (mVar_of rfl) (ns := mNil) rfl) rfl (call_n (xs := [.str (txs sg)]) hk1 hk2 (by show (flat (.lst (ks.map MV.d))).isSome = true; rw [flat_lst]; rfl))
    rw [items, frz_new c1, hR2]
    rfl
  obtain ⟨f6, f7, sC⟩ := kinds_walk (e0 := none) (e1 := some (.r (.l 0))) (e2 := e2) (e6 := e6) (e7 := e7) (e8 := e8) (e9 := e9) hs ht hu (hk_same ht hpm hfl) hks rfl iC
  have sD := set1_ok (env := [none, some (.r (.l 0)), e2, some (.d (.tup [.str (txs sg), tD ts])), some (.d (fD sg us)), some (.d (.str (txs sg))), f6, f7, e8, e9]) (μ := ⟨[], o3 :: R2⟩) hs ha rfl
  obtain ⟨x, y, o4, R4, hx, hy, hp4, iE⟩ := vals_items (c := a) (k := R2.length) (env := [none, some (.r (.l 0)), e2, some (.d (.tup [.str (txs sg), tD ts])), some (.d (fD sg us)), some (.d (.str (txs sg))), f6, f7, some (.r (.l (R2.length + 1))), e9]) (o := o3) (R := R2 ++ [.lst ((vals1 a).map MV.d)]) hs ha hb rfl rfl rfl (by simp) hp3 (by omega)
  have am : a ∈ sg := List.mem_of_getElem? ha
  have bm : b ∈ sg := List.mem_of_getElem? hb
  have hvs : ∀ v ∈ vals1 a ++ vals2 sg a b x y, Vl v := fun v hv => by
    rcases List.mem_append.mp hv with hv | hv
    · exact vals1_vl (show a ∈ SG from hs.lt a am) v hv
    · exact vals2_vl hs am bm (odd_vl x hx) (odd_vl y hy) v hv
  obtain ⟨f9, sE⟩ := vals_ok (e0 := none) (e1 := some (.r (.l 0))) (e2 := e2) (e3 := some (.d (.tup [.str (txs sg), tD ts]))) (e6 := f6) (e7 := f7) (e8 := some (.r (.l (R2.length + 1)))) (e9 := e9) hvs rfl iE
  refine ⟨o4, R4, some (.d (.tup [.str (txs sg), tD ts])), some (.d (fD sg us)), some (.d (.str (txs sg))), f6, f7, some (.r (.l (R2.length + 1))), f9, hp4.mono (by omega), ?_⟩
  unfold bodyM
  refine (seq_nx sA).trans ((seq_nx sB).trans ((seq_nx sC).trans ((seq_nx sD).trans ?_)))
  exact sE
theorem plain : ∀ zs : List Int, zs.length ≤ 63 → ∃ μ, n_law ((List.replicate 10 none).set 1 (some (.r (.l 0)))) ⟨[], [penO zs 0 0]⟩ = .rt (.d (.bl true)) μ := by
  intro zs hz
  let I : Nat → En → MS → Prop := fun i env μ => ∃ (o : MO) (R : List MO) (e2 e3 e4 e5 e6 e7 e8 e9 : Option MV), env = [none, some (.r (.l 0)), e2, e3, e4, e5, e6, e7, e8, e9] ∧ μ = ⟨[], o :: R⟩ ∧ PenN (1000 * i) o
  obtain ⟨env', μ', hw, _⟩ := sFor_inv (ni := rngI (mCons (mC (.int 6)) mNil) g1) (f := gN 2) (b := bodyM) (env := [none, some (.r (.l 0)), none, none, none, none, none, none, none, none]) (μ := ⟨[], [penO zs 0 0]⟩) (μ1 := ⟨[], [penO zs 0 0]⟩) (ds := (List.range 6).map fun i => D.int (i : Nat)) I
    (rng_of (n := 6) rfl (by decide)) ⟨_, [], none, none, none, none, none, none, none, none, rfl, rfl, ⟨zs, 0, 0, rfl, hz, by omega, by omega, by omega⟩⟩ (by
    rintro i d env μ hd ⟨o, R, e2, e3, e4, e5, e6, e7, e8, e9, rfl, rfl, hp⟩
    have hi := (List.getElem?_eq_some_iff.mp hd).1
    rw [List.length_map, List.length_range] at hi
    obtain ⟨o', R', f3, f4, f5, f6, f7, f8, f9, hp2, hb⟩ := law_turn (e2 := some (.d d)) (e3 := e3) (e4 := e4) (e5 := e5) (e6 := e6) (e7 := e7) (e8 := e8) (e9 := e9) (R := R) hp (by omega)
    exact ⟨_, rfl, _, _, Or.inl hb, o', R', _, _, _, _, _, _, _, _, rfl, rfl, hp2.mono (by omega)⟩)
  refine ⟨μ', ?_⟩
  rw [n_law_eq]
  refine (seq_nx hw).trans ?_
  exact sRet_of rfl
end K03
end

set_option Elab.async false
set_option linter.all false
set_option maxRecDepth 100000
set_option maxHeartbeats 0
noncomputable section
open Classical
namespace K03
open PySem PySem.Spec PyProof.Rows L2 G
theorem txt_of {K : PySem.W.Frag} {h : Heap} {mg : Str → Option Value} (X : K.In h) (G : h.Ns mainGlobals mg) (c : SaysG fbs fns K) : Nonempty (Txt K mg) := by
  obtain ⟨fd__law_draw, F__law_draw⟩ := c.def_ 0 (d := h__law_draw) rfl
  obtain ⟨fd__law_pick, F__law_pick⟩ := c.def_ 1 (d := h__law_pick) rfl
  obtain ⟨fd__law_shuffled, F__law_shuffled⟩ := c.def_ 2 (d := h__law_shuffled) rfl
  obtain ⟨fd__law_font, F__law_font⟩ := c.def_ 3 (d := h__law_font) rfl
  obtain ⟨fd__law_kinds, F__law_kinds⟩ := c.def_ 4 (d := h__law_kinds) rfl
  obtain ⟨fd_is_font_text, F_is_font_text⟩ := c.def_ 5 (d := h_is_font_text) rfl
  obtain ⟨fd_is_list, F_is_list⟩ := c.def_ 6 (d := h_is_list) rfl
  obtain ⟨fd_is_tuple_of, F_is_tuple_of⟩ := c.def_ 7 (d := h_is_tuple_of) rfl
  obtain ⟨fd_are_turns, F_are_turns⟩ := c.def_ 8 (d := h_are_turns) rfl
  obtain ⟨fd_Font_ddinitdd, F_Font_ddinitdd⟩ := c.def_ 9 (d := h_Font_ddinitdd) rfl
  obtain ⟨fd__law_flipped, F__law_flipped⟩ := c.def_ 10 (d := h__law_flipped) rfl
  obtain ⟨fd__law_font_made, F__law_font_made⟩ := c.def_ 11 (d := h__law_font_made) rfl
  obtain ⟨fd__law_is_kind, F__law_is_kind⟩ := c.def_ 12 (d := h__law_is_kind) rfl
  obtain ⟨fd__law_odd, F__law_odd⟩ := c.def_ 13 (d := h__law_odd) rfl
  obtain ⟨fd_Font_normal, F_Font_normal⟩ := c.def_ 14 (d := h_Font_normal) rfl
  obtain ⟨fd_is_kind, F_is_kind⟩ := c.def_ 15 (d := h_is_kind) rfl
  obtain ⟨fd_need_kind, F_need_kind⟩ := c.def_ 16 (d := h_need_kind) rfl
  obtain ⟨fd_Font_kept, F_Font_kept⟩ := c.def_ 17 (d := h_Font_kept) rfl
  obtain ⟨fd_Font_ascending, F_Font_ascending⟩ := c.def_ 18 (d := h_Font_ascending) rfl
  obtain ⟨fd_Font_seen, F_Font_seen⟩ := c.def_ 19 (d := h_Font_seen) rfl
  obtain ⟨fd_Font_shown, F_Font_shown⟩ := c.def_ 20 (d := h_Font_shown) rfl
  obtain ⟨fd__law_heads, F__law_heads⟩ := c.def_ 21 (d := h__law_heads) rfl
  obtain ⟨fd__law_seen, F__law_seen⟩ := c.def_ 22 (d := h__law_seen) rfl
  obtain ⟨fd_law, F_law⟩ := c.def_ 23 (d := h_law) rfl
  obtain ⟨fd__law_pen, F__law_pen⟩ := c.def_ 24 (d := h__law_pen) rfl
  obtain ⟨fd__law_told, F__law_told⟩ := c.def_ 25 (d := h__law_told) rfl
  obtain ⟨fd_InvalidFont_ddinitdd, F_InvalidFont_ddinitdd⟩ := c.def_ 26 (d := h_InvalidFont_ddinitdd) rfl
  obtain ⟨fd_InvalidTurns_ddinitdd, F_InvalidTurns_ddinitdd⟩ := c.def_ 27 (d := h_InvalidTurns_ddinitdd) rfl
  obtain ⟨fd_InvalidKind_ddinitdd, F_InvalidKind_ddinitdd⟩ := c.def_ 28 (d := h_InvalidKind_ddinitdd) rfl
  exact ⟨{
    fd__law_draw := fd__law_draw,
    F__law_draw := F__law_draw,
    g__law_draw := He.glo_ok X G (c.fact 0 (f := (He.Fa.glo "_law_draw").ok) rfl),
    fd__law_pick := fd__law_pick,
    F__law_pick := F__law_pick,
    g__law_pick := He.glo_ok X G (c.fact 1 (f := (He.Fa.glo "_law_pick").ok) rfl),
    fd__law_shuffled := fd__law_shuffled,
    F__law_shuffled := F__law_shuffled,
    g__law_shuffled := He.glo_ok X G (c.fact 2 (f := (He.Fa.glo "_law_shuffled").ok) rfl),
    fd__law_font := fd__law_font,
    F__law_font := F__law_font,
    g__law_font := He.glo_ok X G (c.fact 3 (f := (He.Fa.glo "_law_font").ok) rfl),
    fd__law_kinds := fd__law_kinds,
    F__law_kinds := F__law_kinds,
    g__law_kinds := He.glo_ok X G (c.fact 4 (f := (He.Fa.glo "_law_kinds").ok) rfl),
    fd_is_font_text := fd_is_font_text,
    F_is_font_text := F_is_font_text,
    g_is_font_text := He.glo_ok X G (c.fact 5 (f := (He.Fa.glo "is_font_text").ok) rfl),
    fd_is_list := fd_is_list,
    F_is_list := F_is_list,
    g_is_list := He.glo_ok X G (c.fact 6 (f := (He.Fa.glo "is_list").ok) rfl),
    fd_is_tuple_of := fd_is_tuple_of,
    F_is_tuple_of := F_is_tuple_of,
    g_is_tuple_of := He.glo_ok X G (c.fact 7 (f := (He.Fa.glo "is_tuple_of").ok) rfl),
    fd_are_turns := fd_are_turns,
    F_are_turns := F_are_turns,
    g_are_turns := He.glo_ok X G (c.fact 8 (f := (He.Fa.glo "are_turns").ok) rfl),
    fd_Font_ddinitdd := fd_Font_ddinitdd,
    F_Font_ddinitdd := F_Font_ddinitdd,
    fd__law_flipped := fd__law_flipped,
    F__law_flipped := F__law_flipped,
    g__law_flipped := He.glo_ok X G (c.fact 9 (f := (He.Fa.glo "_law_flipped").ok) rfl),
    fd__law_font_made := fd__law_font_made,
    F__law_font_made := F__law_font_made,
    g__law_font_made := He.glo_ok X G (c.fact 10 (f := (He.Fa.glo "_law_font_made").ok) rfl),
    fd__law_is_kind := fd__law_is_kind,
    F__law_is_kind := F__law_is_kind,
    g__law_is_kind := He.glo_ok X G (c.fact 11 (f := (He.Fa.glo "_law_is_kind").ok) rfl),
    fd__law_odd := fd__law_odd,
    F__law_odd := F__law_odd,
    g__law_odd := He.glo_ok X G (c.fact 12 (f := (He.Fa.glo "_law_odd").ok) rfl),
    fd_Font_normal := fd_Font_normal,
    F_Font_normal := F_Font_normal,
    fd_is_kind := fd_is_kind,
    F_is_kind := F_is_kind,
    g_is_kind := He.glo_ok X G (c.fact 13 (f := (He.Fa.glo "is_kind").ok) rfl),
    fd_need_kind := fd_need_kind,
    F_need_kind := F_need_kind,
    g_need_kind := He.glo_ok X G (c.fact 14 (f := (He.Fa.glo "need_kind").ok) rfl),
    fd_Font_kept := fd_Font_kept,
    F_Font_kept := F_Font_kept,
    fd_Font_ascending := fd_Font_ascending,
    F_Font_ascending := F_Font_ascending,
    fd_Font_seen := fd_Font_seen,
    F_Font_seen := F_Font_seen,
    fd_Font_shown := fd_Font_shown,
    F_Font_shown := F_Font_shown,
    fd__law_heads := fd__law_heads,
    F__law_heads := F__law_heads,
    g__law_heads := He.glo_ok X G (c.fact 15 (f := (He.Fa.glo "_law_heads").ok) rfl),
    fd__law_seen := fd__law_seen,
    F__law_seen := F__law_seen,
    g__law_seen := He.glo_ok X G (c.fact 16 (f := (He.Fa.glo "_law_seen").ok) rfl),
    fd_law := fd_law,
    F_law := F_law,
    g_law := He.glo_ok X G (c.fact 17 (f := (He.Fa.glo "law").ok) rfl),
    fd__law_pen := fd__law_pen,
    F__law_pen := F__law_pen,
    g__law_pen := He.glo_ok X G (c.fact 18 (f := (He.Fa.glo "_law_pen").ok) rfl),
    fd__law_told := fd__law_told,
    F__law_told := F__law_told,
    g__law_told := He.glo_ok X G (c.fact 19 (f := (He.Fa.glo "_law_told").ok) rfl),
    fd_InvalidFont_ddinitdd := fd_InvalidFont_ddinitdd,
    F_InvalidFont_ddinitdd := F_InvalidFont_ddinitdd,
    fd_InvalidTurns_ddinitdd := fd_InvalidTurns_ddinitdd,
    F_InvalidTurns_ddinitdd := F_InvalidTurns_ddinitdd,
    fd_InvalidKind_ddinitdd := fd_InvalidKind_ddinitdd,
    F_InvalidKind_ddinitdd := F_InvalidKind_ddinitdd,
    f_ValueError := He.free_ok X G (c.fact 20 (f := (He.Fa.free "ValueError").ok) rfl),
    f_abs := He.free_ok X G (c.fact 21 (f := (He.Fa.free "abs").ok) rfl),
    f_all := He.free_ok X G (c.fact 22 (f := (He.Fa.free "all").ok) rfl),
    f_enumerate := He.free_ok X G (c.fact 23 (f := (He.Fa.free "enumerate").ok) rfl),
    f_int := He.free_ok X G (c.fact 24 (f := (He.Fa.free "int").ok) rfl),
    f_isinstance := He.free_ok X G (c.fact 25 (f := (He.Fa.free "isinstance").ok) rfl),
    f_len := He.free_ok X G (c.fact 26 (f := (He.Fa.free "len").ok) rfl),
    f_list := He.free_ok X G (c.fact 27 (f := (He.Fa.free "list").ok) rfl),
    f_range := He.free_ok X G (c.fact 28 (f := (He.Fa.free "range").ok) rfl),
    f_repr := He.free_ok X G (c.fact 29 (f := (He.Fa.free "repr").ok) rfl),
    f_str := He.free_ok X G (c.fact 30 (f := (He.Fa.free "str").ok) rfl),
    f_tuple := He.free_ok X G (c.fact 31 (f := (He.Fa.free "tuple").ok) rfl),
    c_BLANK := He.str_ok X G (c.fact 32 (f := (He.Fa.str "BLANK" "-").ok) rfl),
    c_LEAST_SIGNS := He.int_ok X G (c.fact 33 (f := (He.Fa.int "LEAST_SIGNS" (2)).ok) rfl),
    c_SIGNS := He.str_ok X G (c.fact 34 (f := (He.Fa.str "SIGNS" "0123456789abcdefghijklmnopqrstuvwxyz").ok) rfl),
    g_Font := He.glo_ok X G (c.fact 35 (f := (He.Fa.glo "Font").ok) rfl),
    cls_Font := He.cls_ok (c.fact 36 (f := (He.Fa.cls "Font").ok) rfl),
    mk_Font := He.mkr_ok (c.fact 37 (f := (He.Fa.mkr "Font").ok) rfl),
    na_Font_word := He.noat_ok (c.fact 38 (f := (He.Fa.noat "Font" "word").ok) rfl),
    na_Font_ranks := He.noat_ok (c.fact 39 (f := (He.Fa.noat "Font" "ranks").ok) rfl),
    na_Font_heads := He.noat_ok (c.fact 40 (f := (He.Fa.noat "Font" "heads").ok) rfl),
    pr_Font_signs := propB_ok (c.fact 41 (f := (propB "Font" "signs")) rfl),
    me_Font_ascending := He.meth_ok (c.fact 42 (f := (He.Fa.meth "Font" "ascending").ok) rfl),
    me_Font_normal := He.meth_ok (c.fact 43 (f := (He.Fa.meth "Font" "normal").ok) rfl),
    me_Font_seen := He.meth_ok (c.fact 44 (f := (He.Fa.meth "Font" "seen").ok) rfl),
    me_Font_kept := He.meth_ok (c.fact 45 (f := (He.Fa.meth "Font" "kept").ok) rfl),
    me_Font_shown := He.meth_ok (c.fact 46 (f := (He.Fa.meth "Font" "shown").ok) rfl),
    co_Font_MAX_SIGNS := conB_ok (c.fact 47 (f := (conB "Font" "MAX_SIGNS" (.int 10))) rfl),
    g_InvalidKind := He.glo_ok X G (c.fact 48 (f := (He.Fa.glo "InvalidKind").ok) rfl),
    g_InvalidNumber := He.glo_ok X G (c.fact 49 (f := (He.Fa.glo "InvalidNumber").ok) rfl),
    g_TooFew := He.glo_ok X G (c.fact 50 (f := (He.Fa.glo "TooFew").ok) rfl),
    g_TooMany := He.glo_ok X G (c.fact 51 (f := (He.Fa.glo "TooMany").ok) rfl),
    g_OtherFont := He.glo_ok X G (c.fact 52 (f := (He.Fa.glo "OtherFont").ok) rfl),
    g_InvalidSigns := He.glo_ok X G (c.fact 53 (f := (He.Fa.glo "InvalidSigns").ok) rfl),
    g_InvalidFont := He.glo_ok X G (c.fact 54 (f := (He.Fa.glo "InvalidFont").ok) rfl),
    g_InvalidTurns := He.glo_ok X G (c.fact 55 (f := (He.Fa.glo "InvalidTurns").ok) rfl),
    rc_InvalidFont := raiseB_ok (c.fact 56 (f := (raiseB "InvalidFont" "value")) rfl),
    rc_InvalidTurns := raiseB_ok (c.fact 57 (f := (raiseB "InvalidTurns" "value")) rfl),
    rc_InvalidKind := raiseB_ok (c.fact 58 (f := (raiseB "InvalidKind" "value")) rfl),
    vV := veIB_ok (c.fact 59 (f := veIB) rfl),
    sys := sysB_ok (c.fact 60 (f := sysB) rfl),
    ek_InvalidKind := excCB_ok (c.fact 61 (f := (excCB "InvalidKind")) rfl),
    kit_InvalidKind_ValueError := of_decide_eq_true (c.fact 62 (f := (kitB "InvalidKind" (.type "ValueError") true)) rfl),
    exm__law_told := exmsB_ok (c.fact 63 (f := (exmsB ["InvalidKind"] ["InvalidKind", "InvalidNumber", "TooFew", "TooMany", "OtherFont", "InvalidSigns"])) rfl) }⟩
end K03
open PySem PySem.W PySem.Calls PyProof.Rows
theorem PySem.Challenge.cw_hymnplates_k03_kinds_holds : PySem.Challenge.rw_hymnplates_k03_kinds.Holds := by
  w_on; o_law
  refine HandSHeadRun.head_any (r := OpenLaw.row PySem.Challenge.rw_hymnplates_k03_kinds) (q := view (OpenLaw.row PySem.Challenge.rw_hymnplates_k03_kinds).prog [36]) (H := K03.hook) (ob := K03.ob) (M := 20000) (loose := K03.names) (d := HandSHeadRun.topDef (OpenLaw.row PySem.Challenge.rw_hymnplates_k03_kinds).prog 36) (kwd := []) K03.ob_eq
    (by kernel_rfl) (fun s => by kernel_rfl) K03.run (by kernel_rfl) (by kernel_rfl) (by kernel_rfl) (by rfl) (by first | assumption | decide +kernel) (by decide +kernel) ⟨rfl, rfl, rfl, rfl, rfl, by decide +kernel⟩ ?hw ?hc
  case hw => w_witness2
  case hc =>
    refine G.walk_ofT (l := PySem.Challenge.rw_hymnplates_k03_kinds) (n := 63) (k := 14) (x := "_law_script") (CX := fun _ => L2.CX0) rfl (by decide) (by kernel_rfl) ⟨rfl, by decide, by decide⟩ ?F (fun _ _ _ _ _ z => z)
    intro w mg fa h Y G hmg0
    obtain ⟨K, KX, c⟩ := Y
    have hmg : mg ("law" : PySem.Str) = some (.ref fa) := by
      have e : (HandSHeadRun.topDef (OpenLaw.row PySem.Challenge.rw_hymnplates_k03_kinds).prog 36).name = ("law" : PySem.Str) := by kernel_rfl
      rw [← e]
      exact hmg0
    obtain ⟨T⟩ := K03.txt_of KX G c.says
    have e := hmg.symm.trans T.g_law
    cases e
    have b := L2.FunD.bindsA (ps := ["_law_script"]) T.F_law fun _ _ _ _ _ _ us hl => match us, hl with | [_], _ => rfl
    exact ⟨K, T.fd_law, _, K03.cs K, KX, c.tabs, fun s v => b s [v] rfl, fun H a ns hl _ hH hO hS => ⟨a, ns, rfl, hS, hH, hO, fun _ => rfl⟩, fun base _ _ TB => K03.ok_law T TB K03.plain⟩

