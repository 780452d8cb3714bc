import PyProof.Rows.All
import Wide.All
import OpenK.AllK
import Wide.FinOn
import HandS.ForMost
import HandS.Exc
import HandS.ExcInit
import HandS.WordsExc
import HandS.Defaults
import HandS.Property
import HandS.ClsMeth
import HandS.DictComp
import HandS.IsInst
import HandS.Flow
import HandS.Style
import HandS.StrMore
import HandS.SetKeys
import HandS.Wide
import HandS.OwnEq
import HandS.EndBits
import HandS.HeadEnd
import HandS.SlotsOwn
import KE.GoesEnum
import KE.GoesZip
import PyProof.ListRange
import PyProof.StrWalks
import HandS.SetBool
import HandS.Sort
import HandS.Conv
import PyProof.SumWalkG
import PyProof.NeKinds
import HandS.Walk
import HandS.HeadHook2
import HandS.Head2
import PyProof.StrLawsIn
import HandS.Codes
import HandS.Replace
import PyProof.LongRange
import HandS.NoneIn
import HandS.SortInts
import HandS.Star
import PyProof.ReprLen
import PySem.Challenge.RW_hymnplates_k78_whole_counts_by_share
set_option Elab.async false
set_option linter.all false
set_option maxRecDepth 100000
set_option maxHeartbeats 4000000
/-! Defs whose bodies know that no repr is under way around them. -/
namespace G
open PySem PySem.Spec PyProof.Rows L2

/-- a def's promise, called where no repr runs -/
structure FnG (P : Program) (w : World) (K : PySem.W.Frag) (mg : Str → Option Value) (base : Heap) (CX : CXT) (k : Nat) (f : Addr) (fd : FuncData)
    (ps : List Str) (sp : Sp) : Prop where
  len : ∀ vs H Q E, sp vs H Q E → vs.length = ps.length
  run : ∀ (A : Around) (outer : List Env) (s : Shared) (H : Hp) (args : Args) (us : List Value) (vs : List V) (Q : VK) (E : XK),
    A.guards = some [] → Room k A → Env0 P w K mg base A outer s H → BindsTo s fd args (ps.zip us) → Vals vs us → sp vs H Q E →
    codeAny (model P w) A (.call (.ref f) args) (CR CX outer P w H s Q E) s

section
variable {P : Program} {w : World} {K : PySem.W.Frag} {mg : Str → Option Value} {base : Heap} {CX : CXT}
theorem FnG.of {k : Nat} {f : Addr} {fd : FuncData} {ps : List Str} {sp : Sp} (F : FnOk P w K mg base CX k f fd ps sp) : FnG P w K mg base CX k f fd ps sp :=
  ⟨F.len, fun A outer s H args us vs Q E _ => F.run A outer s H args us vs Q E⟩
theorem FnG.mono {j k : Nat} {f : Addr} {fd : FuncData} {ps : List Str} {sp : Sp} (F : FnG P w K mg base CX j f fd ps sp) (h : j ≤ k) : FnG P w K mg base CX k f fd ps sp :=
  ⟨F.len, fun A outer s H args us vs Q E g hr => F.run A outer s H args us vs Q E g (hr.mono h)⟩

theorem fnG_of {x qual : Str} {params : Arguments} {body : List Stmt} {scope : Scope} {dvs : List V} {kws : List (Str × V)} {f : Addr} {fd : FuncData}
    {N ps : List Str} {k : Nat} {sp : Sp} (F : FunD K x qual params body scope dvs kws f fd) (S : FnScope N ps scope)
    (len : ∀ vs H Q E, sp vs H Q E → vs.length = ps.length)
    (hbody : ∀ (cdv : Value) (A : Around) (outer : List Env) (s : Shared) (H : Hp) (vs : List V) (Q : VK) (E : XK),
      (A.deeper (envOfC qual scope s.heap.objs.size f cdv)).guards = some [] → Room k (A.deeper (envOfC qual scope s.heap.objs.size f cdv)) → sp vs H Q E →
      ∃ t, PSs (cxOf CX P w K mg base N qual scope f cdv A outer s H E) body t ∧ t { nx := fun _ H' => Q .non H', rt := Q } (start N vs) H) :
    FnG P w K mg base CX (k + 1) f fd ps sp := by
  obtain ⟨oc, od, dV, kV, doc, pm, an, cdv, ct, osl, rfl, lk, hcd, _, _⟩ := F.ex
  refine ⟨len, ?_⟩
  intro A outer s H args us vs Q E hg hr e0 hb r hsp
  have hl := len _ _ _ _ hsp
  have hin : ∀ b o, base.get? b = some o → s.heap.get? b = some o := fun b o e => (e0.bs b o e).1
  have KX : K.In s.heap := e0.mod.kin.keeps hin
  have lim : s.heap.NoLimit := e0.mod.nolimit.keeps hin
  refine codeAny_call_function hr.depth (KX _ _ lk) rfl S.co S.gen rfl (PySem.W.codeRec_of KX hcd) (hb _ _ _ _ ?_)
  refine wpAny_newFunctionEnv_cells S.kind ?_ ?_
  · rintro ⟨n, v⟩ hy
    have hn := S.par n (List.of_mem_zip hy).1
    rcases hn with q | q
    · exact .inl q
    · exact .inr ⟨q, PySem.W.cellsFrom_some _ _ _ (.inl q)⟩
  · intro env he s1 x
    subst he
    refine ⟨lim.keeps x.toInCall.keep, codeAny_func ?_⟩
    obtain ⟨t, ht, hq⟩ := hbody cdv A outer s H vs Q E hg (hr.deeper _) hsp
    have I := inv_start (CX := CX) (E := E) S hr.hd e0 hl r x
    refine wpAny_mono (ht.run [] s1 (start N vs) H _ I hq) ?_ (fun e s' hs => hs)
    intro fl s' hs
    cases fl with
    | brk => obtain ⟨_, _, _, q⟩ := hs; exact q.elim
    | cont => obtain ⟨_, _, _, q⟩ := hs; exact q.elim
    | next =>
      obtain ⟨σ', H', J, q⟩ := hs
      exact ⟨V.non, H', J.os, J.bare, J.base, J.hok, rfl, q⟩
    | ret u =>
      obtain ⟨v, σ', H', J, rv, q⟩ := hs
      exact ⟨v, H', J.os, J.bare, J.base, J.hok, rv, q⟩
end

section
variable {X : Cx} {CX : CXT} {k : Nat} {f : Addr} {fd : FuncData} {ps : List Str} {sp : Sp} {dvs : List V} {ds : List Value} {E : XK} {x : Str} {p pos : Pos} {e : Expr} {es : List Expr} {t : TA}
theorem run_fnG {pins : List (Addr × Obj)} {σ : L2.St} {H : Hp} {s : Shared} {Q : VK} {us : List Value} {vs : List V} (F : FnG X.prog X.w X.K X.mg X.base CX k f fd ps sp)
    (hg : X.A.guards = some []) (hr : Room k X.A) (hb : Binds X.K fd ps ds) (hd : Vals dvs ds) (hx : Passes CX X E)
    (I : Inv X pins σ H s) (r : Vals vs us) (h : sp (vs ++ dvs) H Q E) : wpAny (model X.prog X.w) X.A (call (.ref f) us) (EP X pins σ Q) X.xe s := by
  have r2 : Vals (vs ++ dvs) (us ++ ds) := r.append hd
  have hl : (us ++ ds).length = ps.length := by
    rw [← r2.length]
    exact F.len _ _ _ _ h
  refine wpAny_call (codeAny_mono (F.run X.A X.stack s H ⟨us, []⟩ (us ++ ds) (vs ++ dvs) Q E hg hr I.env0 (hb s us I.kIn hl) r2 h) ?_)
  intro r s' hq
  cases r with
  | error e => exact hx pins σ H s e s' I hq
  | ok fl =>
    cases fl with
    | ret u => exact I.after hq
    | next => exact hq.elim
    | brk => exact hq.elim
    | cont => exact hq.elim

theorem pe_callG (F : FnG X.prog X.w X.K X.mg X.base CX k f fd ps sp) (gd : X.A.guards = some []) (hr : Room k X.A) (hg : Gl X x) (hm : X.mg x = some (.ref f))
    (hk : PySem.W.keepIn X.K (.ref f) = true) (hb : Binds X.K fd ps ds) (hd : Vals dvs ds) (hx : Passes CX X E) (ha : PA X (e :: es) t)
    (hs : starEach (e :: es) X.env = (false, eval e X.env) :: starEach es X.env := by rfl)
    (hpl : (backTo pos (starEach es X.env)).any (·.1) = false := by rfl) (hdb : (x == ("__debug__" : Str)) = false := by decide) :
    PE X (.Call (.Name x p) (e :: es) [] pos) (tCall sp dvs E t) := by
  refine ⟨fun pins s σ H Q I h => ?_⟩
  refine wpAny_Call_Name_kw (ld_glob I hg hm ?_ hdb)
  refine PySem.W.callWith_K (h₀ := X.base) I.ok.mod.kin hk (thn (ha.run pos pins s σ H _ I h) ?_) hs hpl
  intro us s1 hh
  obtain ⟨vs, H1, I1, r1, q1⟩ := hh
  exact ⟨I1.kIn, run_fnG F gd hr hb hd hx I1 r1 q1⟩
end
end G

set_option Elab.async false
set_option linter.all false
set_option maxRecDepth 100000
set_option maxHeartbeats 4000000
/-! Data in the heap, dicts with flat keys too; repr of it. -/
namespace G
open PySem PySem.Spec PyProof.Rows L2

def kD : Key → PyData
  | .inl i => .int i
  | .inr x => .str x

mutual
/-- v is the data d; as: its lists and dicts -/
inductive Dt (K : PySem.W.Frag) (H : Hp) : V → PyData → List Addr → Prop
  | non : Dt K H .non .none []
  | bl (b : Bool) : Dt K H (.bl b) (.bool b) []
  | int (i : Int) : Dt K H (.int i) (.int i) []
  | str (x : Str) : Dt K H (.str x) (.str x) []
  | lst {a : Addr} {xs : List V} {ds : List PyData} {as : List Addr} : SqL K H a xs → DtAll K H xs ds as → Dt K H (.ref a) (.list ds) (a :: as)
  | tup {a : Addr} {xs : List V} {ds : List PyData} {as : List Addr} : SqT K H a xs → DtAll K H xs ds as → Dt K H (.ref a) (.tuple ds) as
  | dct {a : Addr} {kvs : List (Key × V)} {ds : List PyData} {as : List Addr} : Rd H a (.dK kvs) → DtAll K H (kvs.map (·.2)) ds as →
      Dt K H (.ref a) (.dict ((kvs.map fun q => kD q.1).zip ds)) (a :: as)
inductive DtAll (K : PySem.W.Frag) (H : Hp) : List V → List PyData → List Addr → Prop
  | nil : DtAll K H [] [] []
  | cons {v : V} {vs : List V} {d : PyData} {ds : List PyData} {as bs : List Addr} : Dt K H v d as → DtAll K H vs ds bs → DtAll K H (v :: vs) (d :: ds) (as ++ bs)
end

theorem DtAll.len {K : PySem.W.Frag} {H : Hp} : ∀ {vs : List V} {ds : List PyData} {as : List Addr}, DtAll K H vs ds as → vs.length = ds.length
  | _, _, _, .nil => rfl
  | _, _, _, .cons _ t => congrArg (· + 1) t.len

/-- the module sys.modules is an object of the written part -/
def KSys (K : PySem.W.Frag) : Prop := ∃ o es n, K.lookup sysModules = some o ∧ o.data = .dict es n

section
variable {X : Cx} {pins : List (Addr × Obj)} {σ : L2.St} {H : Hp} {s : Shared}

theorem sys_free (I : Inv X pins σ H s) (hk : KSys X.K) : H sysModules = none := by
  obtain ⟨o, es, n, hl, _⟩ := hk
  exact (I.bs _ _ (I.mod.kin _ _ hl)).2

theorem ns_list (I : Inv X pins σ H s) (hk : KSys X.K) {a : Addr} {xs : List V} (h : SqL X.K H a xs) : a ≠ sysModules := by
  intro e
  subst e
  rcases h with (h | ⟨o, h⟩) | ⟨o, its, n, h, _, _, hd, _⟩
  · rw [sys_free I hk] at h; cases h
  · rw [sys_free I hk] at h; cases h
  · obtain ⟨o2, es, n2, h2, hd2⟩ := hk
    rw [h] at h2; cases h2
    rw [hd] at hd2; cases hd2

theorem keys_read {h : Heap} {P : Program} {w : World} : ∀ {es : List DictEntry} {vs : List (Key × Value)}, Pairs (mixKind P w) es vs → ReadsAll h (es.map (·.key)) (vs.map fun q => kD q.1) []
  | _, _, .nil => .nil
  | e :: es, (k, v) :: r, .cons hp _ ht => by
    have hk : keyIs k e.key = true := hp
    have ih := keys_read (h := h) ht
    rcases keyIs_shape hk with ⟨i, t, rfl, e2⟩ | ⟨x, t, rfl, e2⟩
    · show ReadsAll h (e.key :: es.map (·.key)) (.int i :: r.map fun q => kD q.1) []
      rw [e2]
      exact ReadsAll.cons (Reads.int i t) ih
    · show ReadsAll h (e.key :: es.map (·.key)) (.str x :: r.map fun q => kD q.1) []
      rw [e2]
      exact ReadsAll.cons (Reads.str x t) ih

theorem vals_of_pairs {P : Program} {w : World} : ∀ {es : List DictEntry} {kvs : List (Key × V)} {vs : List (Key × Value)}, Pairs (mixKind P w) es vs → KV kvs vs → Vals (kvs.map (·.2)) (es.map (·.val))
  | _, _, _, .nil, .nil => .nil
  | _, _, _, .cons _ hv ht, .cons hp hr => by
    refine Paired.cons ?_ (vals_of_pairs ht hr)
    show L2.RelV _ _
    dsimp only
    rw [hv]
    exact hp.2
theorem keys_of_kv : ∀ {kvs : List (Key × V)} {vs : List (Key × Value)}, KV kvs vs → (vs.map fun q => kD q.1) = kvs.map fun q => kD q.1
  | _, _, .nil => rfl
  | _, _, .cons hp hr => by
    rw [List.map_cons, List.map_cons, keys_of_kv hr, hp.1]
theorem zip_fst {α β : Type} : ∀ {l : List α} {m : List β}, l.length = m.length → (l.zip m).map (·.1) = l
  | [], [], _ => rfl
  | a :: l, b :: m, h => by
    rw [List.zip_cons_cons, List.map_cons, zip_fst (by simpa using h)]
theorem zip_snd {α β : Type} : ∀ {l : List α} {m : List β}, l.length = m.length → (l.zip m).map (·.2) = m
  | [], [], _ => rfl
  | a :: l, b :: m, h => by
    rw [List.zip_cons_cons, List.map_cons, zip_snd (by simpa using h)]


theorem Dt.reads (I : Inv X pins σ H s) {v : V} {d : PyData} {as : List Addr} (h : Dt X.K H v d as) : ∀ u, RelV v u → Reads s.heap u d as := by
  refine Dt.rec (motive_1 := fun v d as _ => ∀ u, RelV v u → Reads s.heap u d as) (motive_2 := fun vs ds as _ => ∀ us, Vals vs us → ReadsAll s.heap us ds as)
    ?_ ?_ ?_ ?_ ?_ ?_ ?_ ?_ ?_ h
  · intro u r; cases r; exact Reads.none
  · intro b u r; cases r; exact Reads.bool b
  · intro i u r; obtain ⟨t, rfl⟩ := r; exact Reads.int i t
  · intro x u r; obtain ⟨t, rfl⟩ := r; exact Reads.str x t
  · intro a xs ds as hs _ ih u r
    cases r
    obtain ⟨its, rv, ⟨o, n, ho, hc, _, hd⟩, _⟩ := I.list hs
    exact Reads.list ho hc hd (ih its rv)
  · intro a xs ds as hs _ ih u r
    cases r
    obtain ⟨its, rv, ⟨o, ho, hc, n, hd⟩, _⟩ := I.tuple hs
    exact Reads.tuple ho hc hd (ih its rv)
  · intro a kvs ds as hr ha ih u r
    cases r
    obtain ⟨_, _, vs, rel, o, es, ep, ho, hx, hd, _, hp, _⟩ := dk_rd I.hok hr
    have hlen : (kvs.map fun q => kD q.1).length = ds.length := by
      have := ha.len
      rw [List.length_map] at this ⊢
      exact this
    have h1 : ReadsAll s.heap (es.toList.map (·.key)) (((kvs.map fun q => kD q.1).zip ds).map (·.1)) [] := by
      rw [zip_fst hlen, ← keys_of_kv rel]
      exact keys_read hp
    have h2 : ReadsAll s.heap (es.toList.map (·.val)) (((kvs.map fun q => kD q.1).zip ds).map (·.2)) as := by
      rw [zip_snd hlen]
      exact ih _ (vals_of_pairs hp rel)
    have := Reads.dict ho hx.1 hd h1 h2
    simpa using this
  · intro us r; cases r; exact ReadsAll.nil
  · intro v vs d ds as bs _ _ ih1 ih2 us r
    cases r with
    | cons r1 r2 => exact ReadsAll.cons (ih1 _ r1) (ih2 _ r2)

theorem Dt.nosys (I : Inv X pins σ H s) (hk : KSys X.K) {v : V} {d : PyData} {as : List Addr} (h : Dt X.K H v d as) : sysModules ∉ as := by
  refine Dt.rec (motive_1 := fun v d as _ => sysModules ∉ as) (motive_2 := fun vs ds as _ => sysModules ∉ as) ?_ ?_ ?_ ?_ ?_ ?_ ?_ ?_ ?_ h
  · simp
  · simp
  · simp
  · simp
  · intro a xs ds as hs _ ih hm
    rcases List.mem_cons.mp hm with e | e
    · exact ns_list I hk hs e.symm
    · exact ih e
  · intro a xs ds as hs _ ih hm
    exact ih hm
  · intro a kvs ds as hr _ ih hm
    rcases List.mem_cons.mp hm with e | e
    · obtain ⟨_, h2, _⟩ := dk_rd I.hok hr
      rw [← e] at h2
      simp at h2
    · exact ih e
  · simp
  · intro v vs d ds as bs _ _ h1 h2 hm
    rcases List.mem_append.mp hm with e | e
    · exact h1 e
    · exact h2 e
end

section
variable {X : Cx}
/-- repr of data -/
def rRepr (K : PySem.W.Frag) : List V → Hp → VK → Prop := fun xs H Q => ∃ v d as, xs = [v] ∧ Dt K H v d as ∧ d.showable = true ∧ d.depth ≤ 60 ∧ d.shown.length ≤ sizeLine ∧ Q (.str d.shown) H
theorem call_reprD (hg : X.A.guards = some []) (hu : X.A.units + 64 < cLine) (hk : KSys X.K) : CallR X (.builtin "repr") (rRepr X.K) := by
  intro pins s σ H xs us Q I r h
  obtain ⟨v, d, as, rfl, hd, hs, hdp, hsz, q⟩ := h
  obtain ⟨u, rfl, rv⟩ := vals1 r
  have hR := hd.reads I u rv
  have hns := hd.nosys I hk
  cases hR with
  | none =>
    have e : PyData.shown .none = ("None" : Str) := PyData.shown_none
    rw [e] at q
    exact PySem.P.repr_of_none ⟨.str _, H, I.tok _, ⟨_, rfl⟩, q⟩
  | bool b =>
    refine PySem.P.repr_of_bool ⟨.str _, H, I.tok _, ⟨_, rfl⟩, ?_⟩
    rw [PyData.shown_bool] at q
    exact q
  | int i t =>
    refine PySem.P.repr_of_int (by simpa [PyData.showable] using hs) ⟨.str _, H, I.tok _, ⟨_, rfl⟩, ?_⟩
    rw [PyData.shown_int] at q
    exact q
  | str x t =>
    rw [PyData.shown_str] at q hsz
    exact PySem.P.repr_of_str ⟨.str _, H, I.tok _, ⟨_, rfl⟩, q⟩ hsz
  | list h1 h2 h3 h4 =>
    exact repr_of_reads' (Reads.list h1 h2 h3 h4) hs (fun _ => hns) hg (by omega) (fun b o e => e) (fun h' u tk hk' => ⟨.str _, H, I.kept hk', ⟨_, rfl⟩, q⟩) hsz
  | tuple h1 h2 h3 h4 =>
    exact repr_of_reads' (Reads.tuple h1 h2 h3 h4) hs (fun _ => hns) hg (by omega) (fun b o e => e) (fun h' u tk hk' => ⟨.str _, H, I.kept hk', ⟨_, rfl⟩, q⟩) hsz
  | dict h1 h2 h3 h4 h5 =>
    exact repr_of_reads' (Reads.dict h1 h2 h3 h4 h5) hs (fun _ => hns) hg (by omega) (fun b o e => e) (fun h' u tk hk' => ⟨.str _, H, I.kept hk', ⟨_, rfl⟩, q⟩) hsz
end
end G

set_option Elab.async false
set_option linter.all false
set_option maxRecDepth 100000
set_option maxHeartbeats 4000000
/-! The end of a law row, for a law's def that knows no repr runs; the script's bits are told. -/
namespace G
open PySem PySem.Spec PyProof.Rows L2

section
variable {P : Program} {w : World} {K : PySem.W.Frag} {mg mb : Str → Option Value} {CX : CXT} {k : Nat} {fa a : Addr} {fd : FuncData} {x : Str} {sp : Sp} {s₁ : Shared} {vs : List Value} {ns : List Int}

/-- what is wanted of the law's call -/
abbrev LawEnd (s₁ : Shared) : Result → Shared → Prop := fun r s' => r = .ok (.ret (.bool true)) ∧ OldK s₁.heap s'.heap ∧ s'.os = s₁.os ∧ AllBare s'.gens

theorem law_from {H : Hp} (KX : K.In s₁.heap) (hns : s₁.heap.Ns mainGlobals mg) (hb : s₁.heap.Ns builtinsNs mb) (hbb : ∀ x : Str, x ≠ "__name__" → mb x = bootBuiltins x)
    (hlim : s₁.heap.NoLimit) (hg : s₁.gens = #[]) (ha : s₁.heap.get? a = some { cls := .type "list", data := .seq vs.toArray }) (hr : Room k callerA)
    (F : ∀ base : Heap, K.In base → base.Ns mainGlobals mg → FnG P w K mg base CX k fa fd [x] sp) (hbind : ∀ (s : Shared) (u : Value), BindsTo s fd ⟨[u], []⟩ [(x, u)])
    (hsp : sp [.ref a] H (fun v _ => v = .bl true) fun _ _ _ => False) (hCX : ∀ e s', CX [] H s₁ (fun _ _ _ => False) e s' → False)
    (hO : Only H) (hok : HOk P w H s₁.heap) (hA : ∀ b, H b ≠ none → b = a) (hK : H a ≠ none → K.lookup a = none) :
    codeAny (model P w) callerA (.call (.ref fa) ⟨[.ref a], []⟩) (LawEnd s₁) s₁ := by
  have free : ∀ {b : Addr} {o : Obj} {es : Array DictEntry} {ep : Nat}, s₁.heap.get? b = some o → o.data = .dict es ep → H b = none := by
    intro b o es ep e d
    cases q : H b with
    | none => rfl
    | some u =>
      have e' : b = a := hA b (by rw [q]; simp)
      subst e'
      rw [ha] at e
      cases e
      cases (show Data.seq vs.toArray _ = Data.dict es ep from d)
  have nsK : ∀ {b : Addr} {m : Str → Option Value}, s₁.heap.Ns b m → (hidT s₁.heap H).Ns b m := by
    rintro b m ⟨o, es, ep, e, d, r⟩
    exact ⟨o, es, ep, hidT_get e (free e d), d, r⟩
  have hKb : K.In (hidT s₁.heap H) := by
    intro b o e
    refine hidT_get (KX b o e) ?_
    cases q : H b with
    | none => rfl
    | some u =>
      have e' : b = a := hA b (by rw [q]; simp)
      subst e'
      rw [hK (by rw [q]; simp)] at e
      cases e
  have hM : Mod K mg (hidT s₁.heap H) := by
    obtain ⟨mc, h1, h2⟩ := hlim
    exact ⟨hKb, nsK hns, ⟨mb, nsK hb, hbb⟩, ⟨mc, nsK h1, h2⟩⟩
  have e0 : Env0 P w K mg (hidT s₁.heap H) callerA [] s₁ H :=
    ⟨rfl, hM, fun b o e => of_hidT e, Nat.le_of_eq (hidT_size _ _), trivial, (fun b z => (List.not_mem_nil z).elim), hok, .of_eq hg⟩
  refine codeAny_mono ((F _ hKb (nsK hns)).run callerA [] s₁ H ⟨[.ref a], []⟩ [.ref a] [.ref a] _ _ rfl hr e0 (hbind s₁ (.ref a)) (.cons rfl .nil) hsp) ?_
  intro r s' h
  cases r with
  | error e => exact (hCX e s' h).elim
  | ok fl =>
    cases fl with
    | next => exact h.elim
    | brk => exact h.elim
    | cont => exact h.elim
    | ret u =>
      obtain ⟨v, H', os, bare, un, hok', r', q⟩ := h
      cases (show v = .bl true from q)
      obtain rfl : u = Value.bool true := r'
      refine ⟨rfl, OldK.of_keep ?_, os, bare⟩
      intro b o e
      cases q : H b with
      | none => exact un.keep b o e q (by intro z; cases z) (by simp)
      | some u =>
        rcases hO b with z | ⟨ob, xs, z⟩
        · rw [q] at z; cases z
        · obtain ⟨e1, _⟩ := hok b _ z
          obtain ⟨e2, _⟩ := hok' b _ (un.frzs b ob _ z)
          rw [e] at e1
          cases e1
          exact e2

theorem law_callG (KX : K.In s₁.heap) (hns : s₁.heap.Ns mainGlobals mg) (hb : s₁.heap.Ns builtinsNs mb) (hbb : ∀ x : Str, x ≠ "__name__" → mb x = bootBuiltins x)
    (hlim : s₁.heap.NoLimit) (hg : s₁.gens = #[]) (ha : s₁.heap.get? a = some { cls := .type "list", data := .seq vs.toArray }) (hi : IntsAre vs ns) (hl : ns.length ≤ sizeLine) (hr : Room k callerA)
    (F : ∀ base : Heap, K.In base → base.Ns mainGlobals mg → FnG P w K mg base CX k fa fd [x] sp) (hbind : ∀ (s : Shared) (u : Value), BindsTo s fd ⟨[u], []⟩ [(x, u)])
    (hsp : ∀ H : Hp, Only H → SqL K H a (ns.map V.int) → sp [.ref a] H (fun v _ => v = .bl true) fun _ _ _ => False)
    (hCX : ∀ H e s', CX [] H s₁ (fun _ _ _ => False) e s' → False) :
    codeAny (model P w) callerA (.call (.ref fa) ⟨[.ref a], []⟩) (LawEnd s₁) s₁ := by
  have rv := vals_ints hi
  have lenV := hi.length
  have hsz : vs.toArray.size ≤ sizeLine := by
    rw [List.size_toArray, lenV]
    exact hl
  cases hk : K.lookup a with
  | some o =>
    have e := KX a o hk
    rw [ha] at e
    cases e
    have hS : SqL K (fun _ => none) a (ns.map V.int) := .inr ⟨_, vs.toArray, _, hk, rfl, rfl, rfl, hsz, by simpa using rv⟩
    have hO : Only (fun _ => none) := fun _ => .inl rfl
    exact law_from (H := fun _ => none) KX hns hb hbb hlim hg ha hr F hbind (hsp _ hO hS) (hCX _) hO (fun b u z => by cases z) (fun b z => absurd rfl z) fun z => absurd rfl z
  | none =>
    have at_a : (fun b => if b = a then some (HO.frz { cls := .type "list", data := .seq vs.toArray } (.lst (ns.map V.int))) else none : Hp) a = some (.frz { cls := .type "list", data := .seq vs.toArray } (.lst (ns.map V.int))) := if_pos rfl
    have hO : Only (fun b => if b = a then some (HO.frz { cls := .type "list", data := .seq vs.toArray } (.lst (ns.map V.int))) else none) := by
      intro b
      by_cases e : b = a
      · exact .inr ⟨_, _, if_pos e⟩
      · exact .inl (if_neg e)
    refine law_from (H := fun b => if b = a then some (HO.frz { cls := .type "list", data := .seq vs.toArray } (.lst (ns.map V.int))) else none) KX hns hb hbb hlim hg ha hr F hbind
      (hsp _ hO (.inl (.inr ⟨_, at_a⟩))) (hCX _) hO ?_ ?_ (fun _ => hk)
    · intro b u z
      by_cases e : b = a
      · subst e
        rw [at_a] at z
        cases z
        refine ⟨ha, ?_, vs, _, rv, ha⟩
        rw [List.length_map]
        exact hl
      · cases (if_neg e).symm.trans z
    · intro b z
      by_cases e : b = a
      · exact e
      · exact absurd (if_neg e) z
end

/-- the head's last goal, from the promise of the law's def -/
theorem walk_ofG {l : PySem.W.OpenLaw} {n k : Nat} {q : Program} {loose : List Str} {XP : (Str → Option Value) → Heap → Prop} {YP : World → Heap → Prop} {d : DefRec} {CX : World → CXT} {x : Str}
    (hn : l.most = some n) (hn2 : n ≤ sizeLine) (hdf : d.params.defaults = []) (hr : Room k callerA)
    (F : ∀ (w : World) (mg : Str → Option Value) (fa : Addr) (h : Heap), YP w h → h.Ns mainGlobals mg → mg d.name = some (.ref fa) →
      ∃ (K : PySem.W.Frag) (fd : FuncData) (sp : Sp), K.In h ∧ (∀ (s : Shared) (u : Value), BindsTo s fd ⟨[u], []⟩ [(x, u)]) ∧
        (∀ (H : Hp) (a : Addr) (ns : List Int), ns.length ≤ n → (∀ z ∈ ns, Builtin.Int.intBits z ≤ 1048576) → Only H → SqL K H a (ns.map V.int) → sp [.ref a] H (fun v _ => v = .bl true) fun _ _ _ => False) ∧
        ∀ base : Heap, K.In base → base.Ns mainGlobals mg → FnG l.prog w K mg base (CX w) k fa fd [x] sp)
    (hCX : ∀ (w : World) (H : Hp) (s : Shared) (e : Value) (s' : Shared), CX w [] H s (fun _ _ _ => False) e s' → False) :
    PySem.W.WalkO q loose XP YP l.row.toRowW d [] (fun f vs => PySem.call f vs) := by
  refine Att.attach_callB hn hdf ?_
  intro w s₀ s₁ mg mb fa o pm cd doc a vs ns G Y ho hd hcd hmg hobj hints hlen hbits hg
  obtain ⟨K, fd, sp, KX, hb, hsp, hF⟩ := F w mg fa _ Y G.T.g hmg
  exact law_callG KX G.T.g G.T.b G.T.builtins G.T.nolimit hg hobj hints (Nat.le_trans hlen hn2) hr hF hb (fun H hO hS => hsp H a ns hlen hbits hO hS) fun H e s' => hCX w H s₁ e s'
end G

set_option Elab.async false
set_option linter.all false
set_option maxRecDepth 100000
set_option maxHeartbeats 4000000
/-! Own dunder methods of plain instances. -/
namespace G
open PySem PySem.Spec PyProof.Rows L2

section
variable {X : Cx} {pins : List (Addr × Obj)} {σ : L2.St} {H : Hp} {s : Shared} {a C dx f : Addr} {fs : List (Str × V)} {k : Nat} {fd : FuncData} {ps : List Str} {sp : Sp} {E : XK} {CX : CXT}

theorem inst_of (I : Inv X pins σ H s) (h : H a = some (.ins C dx fs)) : ∃ od, PySem.W.InstAt s.heap a (PySem.W.instObj C dx) C (some od) := by
  obtain ⟨mA, O, _⟩ := ins_get I.hok h
  obtain ⟨od, J, _⟩ := O.look
  exact ⟨od, J⟩

/-- a callee run one unit deeper -/
theorem run_in1 {Q : VK} {us : List Value} {vs : List V} (F : FnOk X.prog X.w X.K X.mg X.base CX k f fd ps sp) (hr : Room k X.A.in1) (hb : Binds X.K fd ps []) (hx : Passes CX X E)
    (I : Inv X pins σ H s) (r : Vals vs us) (h : sp vs H Q E) : wpAny (model X.prog X.w) X.A.in1 (call (.ref f) us) (EP X pins σ Q) X.xe s := by
  have hl : (us ++ []).length = ps.length := by
    rw [List.append_nil, ← r.length]
    exact F.len _ _ _ _ h
  refine wpAny_call (codeAny_mono (F.run X.A.in1 X.stack s H ⟨us, []⟩ (us ++ []) vs Q E hr I.env0.in1 (hb s us I.kIn hl) (by rw [List.append_nil]; exact r) h) ?_)
  intro r s' hq
  cases r with
  | error e => exact hx pins σ H s e s' I hq
  | ok fl =>
    cases fl with
    | ret u => exact I.after hq
    | next => exact hq.elim
    | brk => exact hq.elim
    | cont => exact hq.elim

/-- len(o) by an own __len__ -/
def rLenO (C : Addr) (sp : Sp) (E : XK) : List V → Hp → VK → Prop := fun xs H Q => ∃ a dx fs, xs = [V.ref a] ∧ H a = some (.ins C dx fs) ∧
  sp [.ref a] H (fun z H' => ∃ n : Int, z = .int n ∧ (0 ≤ n ∧ n < 2 ^ 63) ∧ Q z H') E
theorem call_lenO (m : Meth X.K C "__len__" f) (F : FnOk X.prog X.w X.K X.mg X.base CX k f fd ps sp) (hr : Room (k + 1) X.A) (hb : Binds X.K fd ps []) (hx : Passes CX X E) :
    CallR X (.builtin "len") (rLenO C sp E) := by
  intro pins s σ H xs us Q I r h
  obtain ⟨a, dx, fs, rfl, ha, q⟩ := h
  obtain ⟨u, rfl, ru⟩ := vals1 r
  cases (show u = Value.ref a from ru)
  obtain ⟨od, J⟩ := inst_of I ha
  obtain ⟨m0, hF⟩ := I.fr
  refine PySem.W.len_K hF I.ok.mod.kin J m.1 m.2 (wpAny_mono (run_in1 (us := [.ref a]) (vs := [.ref a]) F hr.in1 hb hx I (.cons rfl .nil) q) ?_ (fun _ _ z => z))
  rintro w s' ⟨z, H', I', rz, n, rfl, hn, qz⟩
  obtain ⟨t, rfl⟩ := (show ∃ t, w = Value.int n t from rz)
  exact ⟨hn, .int n, H', I'.tok _, ⟨_, rfl⟩, qz⟩

/-- o in instance, by an own __contains__ that gives a bool -/
def rInO (C : Addr) (sp : Sp) (E : XK) (neg : Bool) : R2 := fun x y H Q => ∃ a dx fs, y = V.ref a ∧ H a = some (.ins C dx fs) ∧
  sp [.ref a, x] H (fun z H' => ∃ b, z = .bl b ∧ Q (.bl (if neg then !b else b)) H') E
theorem op_inO (m : Meth X.K C "__contains__" f) (F : FnOk X.prog X.w X.K X.mg X.base CX k f fd ps sp) (hr : Room k X.A) (hb : Binds X.K fd ps []) (hx : Passes CX X E) :
    OpR X (compareOp .In) (rInO C sp E false) := by
  intro pins s σ H x y v u Q I rx ry h
  obtain ⟨a, dx, fs, rfl, ha, q⟩ := h
  cases (show u = Value.ref a from ry)
  obtain ⟨od, J⟩ := inst_of I ha
  obtain ⟨m0, hF⟩ := I.fr
  refine PySem.W.in_K hF I.ok.mod.kin J m.1 m.2 (wpAny_mono (run_fn (us := [.ref a, v]) (vs := [.ref a, x]) (ds := []) (dvs := []) F hr hb .nil hx I (.cons rfl (.cons rx .nil)) q) ?_ (fun _ _ z => z))
  rintro w s' ⟨z, H', I', rz, b, rfl, qz⟩
  cases (show w = Value.bool b from rz)
  exact wpAny_truthy_bool ⟨.bl b, H', I', rfl, qz⟩
theorem op_notInO (m : Meth X.K C "__contains__" f) (F : FnOk X.prog X.w X.K X.mg X.base CX k f fd ps sp) (hr : Room k X.A) (hb : Binds X.K fd ps []) (hx : Passes CX X E) :
    OpR X (compareOp .NotIn) (rInO C sp E true) := by
  intro pins s σ H x y v u Q I rx ry h
  obtain ⟨a, dx, fs, rfl, ha, q⟩ := h
  cases (show u = Value.ref a from ry)
  obtain ⟨od, J⟩ := inst_of I ha
  obtain ⟨m0, hF⟩ := I.fr
  refine PySem.W.notIn_K hF I.ok.mod.kin J m.1 m.2 (wpAny_mono (run_fn (us := [.ref a, v]) (vs := [.ref a, x]) (ds := []) (dvs := []) F hr hb .nil hx I (.cons rfl (.cons rx .nil)) q) ?_ (fun _ _ z => z))
  rintro w s' ⟨z, H', I', rz, b, rfl, qz⟩
  cases (show w = Value.bool b from rz)
  exact wpAny_truthy_bool ⟨.bl (!b), H', I', rfl, qz⟩

/-- x == y, x != y by x's own __eq__, y an instance too -/
def rEqO (K : PySem.W.Frag) (C : Addr) (sp : Sp) (E : XK) (neg : Bool) : R2 := fun x y H Q => ∃ a dx fs b C' dy gs, x = .ref a ∧ y = .ref b ∧ H a = some (.ins C dx fs) ∧ H b = some (.ins C' dy gs) ∧
  PySem.W.notFirst K C (.ref C') = true ∧ sp [x, y] H (fun z H' => ∃ r, z = .bl r ∧ Q (.bl (if neg then !r else r)) H') E
theorem op_eqO (m : Meth X.K C "__eq__" f) (F : FnOk X.prog X.w X.K X.mg X.base CX k f fd ps sp) (hr : Room k X.A) (hb : Binds X.K fd ps []) (hx : Passes CX X E) :
    OpR X (compareOp .Eq) (rEqO X.K C sp E false) := by
  intro pins s σ H x y v u Q I rx ry h
  obtain ⟨a, dx, fs, b, C', dy, gs, rfl, rfl, ha, hb', hn, q⟩ := h
  cases (show v = Value.ref a from rx)
  cases (show u = Value.ref b from ry)
  obtain ⟨od, J⟩ := inst_of I ha
  obtain ⟨od', J'⟩ := inst_of I hb'
  obtain ⟨m0, hF⟩ := I.fr
  show wpAny _ _ (richCompare .Eq (.ref a) (.ref b)) _ _ _
  refine PySem.W.cmp_K (op := .Eq) (tb := .ref C') hr.units0 hF I.ok.mod.kin J J'.type hn m.1 m.2 ?_
  refine wpAny_mono (run_fn (us := [.ref a, .ref b]) (vs := [.ref a, .ref b]) (ds := []) (dvs := []) F hr hb .nil hx I (.cons rfl (.cons rfl .nil)) q) ?_ (fun _ _ z => z)
  rintro w s' ⟨z, H', I', rz, r, rfl, qz⟩
  cases (show w = Value.bool r from rz)
  exact ⟨.bl r, H', I', rfl, qz⟩
end

/-! ### != where the class has an own __eq__ and object's __ne__ -/
section
variable {prog : Program} {w : World} {A : Around} {E : Value → Shared → Prop} {s : Shared} {K : PySem.W.Frag} {x C : Addr} {ox : Obj} {od : Option Obj} {b : Value}
theorem ifBound_ne {M : Model} {args : List Value} {Q : Option Value → Shared → Prop} (X : K.In s.heap) (I : PySem.W.InstAt s.heap x ox C od)
    (hs : PySem.W.findIn K (.ref C) "__ne__" = some (some (.builtin "object.__ne__")))
    (h : wpAny M A (call (.builtin "object.__ne__") (.ref x :: args)) (fun v => Q (some v)) E s) : wpAny M A (callSpecialIfBound? (.ref x) "__ne__" args) Q E s := by
  simp only [callSpecialIfBound?, bindSpecialIfBound?]
  refine wpAny_holding (wpAny_bind (wpAny_bind (wpAny_bind (I.type.here ((PySem.W.looks_findIn X hs).here ?_)))))
  refine wpAny_bind (wpAny_askSetting (wpAny_ite ?_))
  have fin : wpAny M A (call (.builtin "object.__ne__") ([.ref x] ++ args) >>= fun v => pure (some v)) Q E s :=
    wpAny_bind (wpAny_mono h (fun v s' h' => wpAny_pure h') fun _ _ h' => h')
  split
  · exact wpAny_bind (wpAny_of_eq (F.cmp_object.ne.bind _) (wpAny_pure (by exact fin)))
  · exact wpAny_tryCatch (wpAny_bind (wpAny_of_eq (F.cmp_object.ne.bind _) (wpAny_pure (by exact fin))))

theorem ne_own {f : Addr} {tb : Value} {Q : Value → Shared → Prop} (hu : A.units + 1 < cLine) (X : K.In s.heap) (I : PySem.W.InstAt s.heap x ox C od)
    (hb : PySem.W.Looks (model prog w) s.heap (typeOf b) tb) (hn : PySem.W.notFirst K C tb = true) (hm : PySem.W.mroIn K C (.type "object") = some true)
    (hne : PySem.W.findIn K (.ref C) "__ne__" = some (some (.builtin "object.__ne__")))
    (he : PySem.W.findIn K (.ref C) "__eq__" = some (some (.ref f))) (hf : PySem.W.isFn K (.ref f) = true)
    (h : wpAny (model prog w) A.in1 (call (.ref f) [.ref x, b]) (fun v s' => ∃ r, v = .bool r ∧ Q (.bool (!r)) s') E s) :
    wpAny (model prog w) A (richCompare .NotEq (.ref x) b) Q E s := by
  have body : ∀ {R : Fin → Shared → Prop}, (∀ r s', Q (.bool (!r)) s' → R (.done (.ret (.bool (!r)))) s') →
      wpAny (model prog w) A.in1 (Builtin.«object.__ne__» ⟨[.ref x, b], []⟩) R E s := by
    intro R hR
    unfold Builtin.«object.__ne__»
    refine wpAny_bind (wpAny_pure ?_)
    refine wpAny_bind (wpAny_cRoomFor (by show A.units + 1 < cLine; exact hu) ?_)
    refine wpAny_bind (m := callSpecialIfBound? (.ref x) "__eq__" [b]) (PySem.W.ifBound_K X I he hf (wpAny_mono h ?_ (fun _ _ z => z)))
    rintro v s' ⟨r, rfl, q⟩
    exact wpAny_bind (wpAny_truthy_bool (wpAny_pure (hR r s' q)))
  have one : wpAny (model prog w) A (tryCompare (.ref x) "__ne__" b) (fun r s' => ∃ v, r = some v ∧ Q v s') E s := by
    unfold tryCompare
    refine wpAny_bind (ifBound_ne X I hne (wpAny_call (codeAny_call_builtin F.cmp_object.ne.plain F.cmpEntry_ne
      (PySem.W.check_slot F.cmpKind_ne F.cmpSplit_ne (I.type.andThen (PySem.W.looks_mroIn X hm)) (F.cmpArgs_ne _ _) (body ?_)))))
    intro r s' q
    exact wpAny_pure ⟨_, rfl, q⟩
  unfold richCompare
  simp only [oneThing_ref]
  refine wpAny_holding (wpAny_bind (wpAny_cRoomFor (by omega) ?_))
  refine wpAny_bind (I.type.here (wpAny_bind (hb.here ?_)))
  have fin : ∀ r s', (∃ v, r = some v ∧ Q v s') → wpAny (model prog w) A (match r with | some v => pure v | none => unsupported "x") Q E s' := by
    rintro r s' ⟨v, rfl, q⟩
    exact wpAny_pure q
  split
  · rename_i q
    have e : PySem.W.subIn K tb (.ref C) = some false := by
      rcases Bool.or_eq_true_iff.mp hn with e | e
      · rw [beq_iff_eq.mp e] at q; simp at q
      · exact beq_iff_eq.mp e
    refine wpAny_bind ((PySem.W.looks_subIn X e).here ?_)
    simp only [Bool.false_eq_true, if_false]
    refine wpAny_bind (m := tryCompare (.ref x) _ b) (wpAny_mono one ?_ (fun _ _ e => e))
    rintro r s' ⟨v, rfl, hq⟩
    exact wpAny_pure hq
  · refine wpAny_bind (wpAny_pure ?_)
    simp only [Bool.false_eq_true, if_false]
    refine wpAny_bind (m := tryCompare (.ref x) _ b) (wpAny_mono one ?_ (fun _ _ e => e))
    rintro r s' ⟨v, rfl, hq⟩
    exact wpAny_pure hq
end

section
variable {X : Cx} {C f : Addr} {k : Nat} {fd : FuncData} {ps : List Str} {sp : Sp} {E : XK} {CX : CXT}
theorem op_neO (m : Meth X.K C "__eq__" f) (hne : PySem.W.findIn X.K (.ref C) "__ne__" = some (some (.builtin "object.__ne__"))) (hm : PySem.W.mroIn X.K C (.type "object") = some true)
    (F : FnOk X.prog X.w X.K X.mg X.base CX k f fd ps sp) (hr : Room (k + 1) X.A) (hb : Binds X.K fd ps []) (hx : Passes CX X E) :
    OpR X (compareOp .NotEq) (rEqO X.K C sp E true) := by
  intro pins s σ H x y v u Q I rx ry h
  obtain ⟨a, dx, fs, b, C', dy, gs, rfl, rfl, ha, hb', hn, q⟩ := h
  cases (show v = Value.ref a from rx)
  cases (show u = Value.ref b from ry)
  obtain ⟨od, J⟩ := inst_of I ha
  obtain ⟨od', J'⟩ := inst_of I hb'
  show wpAny _ _ (richCompare .NotEq (.ref a) (.ref b)) _ _ _
  refine ne_own (tb := .ref C') (hu_of hr) I.kIn J J'.type hn hm hne m.1 m.2 ?_
  refine wpAny_mono (run_in1 (us := [.ref a, .ref b]) (vs := [.ref a, .ref b]) F hr.in1 hb hx I (.cons rfl (.cons rfl .nil)) q) ?_ (fun _ _ z => z)
  rintro w s' ⟨z, H', I', rz, r, rfl, qz⟩
  cases (show w = Value.bool r from rz)
  exact ⟨r, rfl, .bl (!r), H', I', rfl, qz⟩
end
end G

set_option Elab.async false
set_option linter.all false
set_option maxRecDepth 100000
set_option maxHeartbeats 4000000
/-! Walks that give new tuples: enumerate of a text, zip of texts. -/
namespace G
open PySem PySem.Spec PyProof.Rows L2

/-- n turns, at the i-th a new tuple of the values y i -/
def ItN (n : Nat) (y : Nat → List V) : It :=
  ⟨fun i _ => i < n, fun i H v H' => ∃ T, v = .ref T ∧ H T = none ∧ H' = upd H T (.tup (y i)), fun i _ => n ≤ i⟩

theorem turn_tuples {P : Program} {w : World} {K : PySem.W.Frag} {elts : List Expr} {kk : Nat} {tpos : Pos} {e : Addr} {fp wr : List Addr} {n : Nat} {Pt : Nat → Array Value → Prop}
    {St : Nat → Heap → Prop} {Mid : Nat → Addr → Heap → Prop} (y : Nat → List V)
    (W : ∀ A : Around, A.handled = none → WalksT P w A e fp wr n Pt St Mid) (mem : e ∈ fp)
    (obj : ∀ i h, St i h → ∀ b ∈ fp, ∃ o, h.get? b = some o ∧ ∀ v, o.data ≠ .cell v)
    (hy : ∀ i vals, Pt i vals → Vals (y i) vals.toList) (hz : ∀ i, (y i).length ≤ sizeLine)
    (self : ∀ (A : Around) (i : Nat) (s : Shared) (Q : Value → Shared → Prop) (E : Value → Shared → Prop), St i s.heap → Q (.ref e) s → wpAny (model P w) A (pyIter (.ref e)) Q E s) :
    Turn P w K (.Tuple elts kk tpos) (ItN n y) fp e (fun i h => St i h ∧ i ≤ n) where
  mem := mem
  obj := fun i h st => obj i h st.1
  keep := fun i h h' st k => ⟨(W {} rfl).frame i h h' st.1 k, st.2⟩
  item := by
    intro X hP hw hK hc i pins s σ H E I hf st hg
    subst hP hw hK
    have WW := W X.A (I.ok.hd hc)
    refine WW.item i s _ E hg st.1 ?_
    intro T vals h' tk hp hT ht hm k
    refine ⟨.ref T, rfl, ?_⟩
    refine WW.go elts kk tpos i T { s with heap := h', toks := tk } _ E hm ?_
    intro h'' st'' k2
    have kk2 : ∀ b o, b ∉ wr → s.heap.get? b = some o → h''.get? b = some o := fun b o hb q => k2 b o hb (k b o hb q)
    have hTw := WW.apart i T h' hm
    have fresh : H T = none := I.hok.fresh hT
    have new : ObjOk X.prog X.w (upd H T (.tup (y i))) h'' T (.tup (y i)) := by
      obtain ⟨o, ho, hc', m, hd⟩ := ht
      refine ⟨hz i, vals.toList, hy i vals hp, ?_⟩
      rw [Array.toArray_toList]
      exact ⟨o, k2 T o hTw ho, hc', m, hd⟩
    refine ⟨.ref T, upd H T (.tup (y i)), I.turnedNew (t' := tk) (ch := wr) kk2 (fun b hb => hf b (WW.sub b hb)) hT new, rfl, ⟨T, rfl, fresh, rfl⟩, ⟨st'', hg⟩, ?_⟩
    intro b hb
    obtain ⟨o, ho, _⟩ := obj i _ st.1 b hb
    have hlt : b < s.heap.objs.size := Heap.lt_size ho
    rw [upd_ne (Nat.ne_of_lt (Nat.lt_of_lt_of_le hlt hT))]
    exact (hf b hb).1
  done := by
    intro X hP hw hK hc i pins s σ H E I hf st hg
    subst hP hw hK
    have WW := W X.A (I.ok.hd hc)
    have e : i = n := Nat.le_antisymm st.2 hg
    subst e
    refine WW.done s _ E st.1 ?_
    intro h' tk k
    refine ⟨rfl, ?_⟩
    refine I.step (g' := s.gens) (d' := s.drawn) (ch := wr) (fun b hb => ⟨(hf b (WW.sub b hb)).2.2.2.1, (hf b (WW.sub b hb)).2.1, (hf b (WW.sub b hb)).2.2.2.2.1, (hf b (WW.sub b hb)).2.2.2.2.2⟩)
      (fun b o _ _ hb q _ => k b o hb q) (fun b o _ _ hb q _ => ⟨o.slots, k b o hb q⟩) (fun _ _ _ _ z => z) (fun b o hb q => ⟨o, k b o hb q⟩) (fun _ _ z => z) (fun _ _ _ z => z)
      (fun b ps z => ⟨#[], by rw [z]; simp⟩) ?_ ?_ I.bare
    · rintro m ⟨o, es, ep, ho, r⟩
      exact ⟨o, es, ep, k _ o (fun z => (hf _ (WW.sub _ z)).2.1 rfl) ho, r⟩
    · intro b u q
      refine (I.hok b u q).stay (fun c v hc' z => k c v ?_ z) (fun _ z => z) fun _ _ z => z
      intro hcw
      have hn := (hf c (WW.sub c hcw)).1
      rcases hc' with e | e
      · rw [e, q] at hn; cases hn
      · rw [hn] at e; cases e
  self := fun A i s Q E st h => self A i s Q E st.1 h

/-! ### enumerate of a text -/
/-- the i-th pair of enumerate(x) -/
def enumY (x : Str) (i : Nat) : List V := [.int (i : Nat), .str ⟨#[x.cps.getD i 0]⟩]
def iEnumS (ta : TA) : TI := fun σ H R => ta σ H fun vs H1 => ∃ x : Str, vs = [.str x] ∧ R (ItN x.cps.size (enumY x)) H1
theorem pi_enumS {X : Cx} {e : Expr} {ta : TA} {p pos tpos : Pos} {elts : List Expr} {kk : Nat} (hg : Gl X "enumerate") (hm : X.mg "enumerate" = none) (ha : PA X [e] ta)
    (hs : starEach [e] X.env = [(false, eval e X.env)] := by rfl) : PI X (.Tuple elts kk tpos) (.Call (.Name "enumerate" p) [e] [] pos) (iEnumS ta) := by
  refine ⟨fun pins s σ H R I h => ?_⟩
  refine Call_ (ld_blt I hg hm boot_enumerate (PyProof.Rows.callWith_type1 (thn (ha.run pos pins s σ H _ I h) fun us s1 ⟨vs, H1, I1, r1, q1⟩ => ?_) hs rfl))
  obtain ⟨x, rfl, q⟩ := q1
  obtain ⟨u, rfl, t, rfl⟩ := vals1 r1
  refine call_enumerate_str fun h' he hit _ hk => wpAny_pyIter_enum he ?_
  have I2 : Inv X pins σ H1 { s1 with heap := h' } := I1.kept (t' := s1.toks) hk
  have ne : s1.heap.objs.size + 1 ≠ s1.heap.objs.size := Nat.succ_ne_self _
  have nf : s1.heap.objs.size + 1 ∉ [s1.heap.objs.size] := fun z => ne (List.mem_singleton.mp z)
  have T : Turn X.prog X.w X.K (.Tuple elts kk tpos) (ItN x.cps.size (enumY x)) [s1.heap.objs.size + 1, s1.heap.objs.size] (s1.heap.objs.size + 1)
      (fun i h => ((∃ old, IsEnum h (s1.heap.objs.size + 1) s1.heap.objs.size (0 + (i : Int)) old) ∧ h.IsStrIter s1.heap.objs.size (strIterType x) x t i) ∧ i ≤ x.cps.size) := by
    refine turn_tuples (enumY x) (fun A hA => WalksT.enumFrom 0 (Draws.text (A := A.in1) hA s1.heap.objs.size x t) (s1.heap.objs.size + 1) ne nf (List.mem_singleton.mpr rfl)) (by simp) ?_ ?_ (fun _ => by show 2 ≤ sizeLine; decide) ?_
    · rintro i h ⟨⟨old, he⟩, ⟨o, ho, hc, hd⟩⟩ b hb
      rcases List.mem_cons.mp hb with z | z
      · rw [z]; exact ⟨_, he, fun v q => nomatch q⟩
      · rw [List.mem_singleton.mp z]
        exact ⟨o, ho, fun v q => by rw [hd] at q; cases q⟩
    · rintro i vals ⟨tk, v, ⟨c, u, hc, rfl⟩, rfl⟩
      have e0 : x.cps.getD i 0 = c := by simp [Array.getD_eq_getD_getElem?, hc]
      show Vals [V.int (i : Nat), V.str ⟨#[x.cps.getD i 0]⟩] [Value.int (0 + (i : Int)) tk, Value.str ⟨#[c]⟩ u]
      rw [e0, Int.zero_add]
      exact .cons ⟨_, rfl⟩ (.cons ⟨_, rfl⟩ .nil)
    · rintro A i s Q E ⟨⟨old, he⟩, _⟩ hq
      exact wpAny_pyIter_enum he hq
  refine ⟨s1.heap.objs.size + 1, _, _, _, H1, rfl, I2, T, ⟨⟨⟨.none, he⟩, hit⟩, Nat.zero_le _⟩, fun b hb => ?_, q⟩
  have hle : s1.heap.objs.size ≤ b := by
    rcases List.mem_cons.mp hb with z | z
    · rw [z]; exact Nat.le_add_right _ _
    · rw [List.mem_singleton.mp z]; exact Nat.le_refl _
  exact I1.fpOk hle (I1.hok.fresh hle)
end G

set_option Elab.async false
set_option linter.all false
set_option maxRecDepth 100000
set_option maxHeartbeats 4000000
/-! list of a text. -/
namespace G
open PySem PySem.Spec PyProof.Rows L2
section
variable {prog : Program} {w : World} {A : Around} {E : Value → Shared → Prop} {s : Shared}

theorem hint_str {x : Str} {t : Tok} {Q : Bool → Shared → Prop} (h : Q false s) :
    wpAny (model prog w) A (Builtin.List.listLengthHint (.str x t)) Q E s := by
  unfold Builtin.List.listLengthHint
  refine wpAny_bind (wpAny_specialOf (typeIs_str s x t) F.slot_str_len.lookup ?_)
  generalize hid : ("str.__len__" : String) = id0
  wp_delta
  rw [show splitId id0 = some ("str", "__len__") from by subst hid; decide +kernel]
  subst hid
  refine wpAny_bind (wpAny_isInstance (T := "str") (b := true) (typeIs_str s x t) (by rw [isSubtype_type]; kernel_rfl) ?_)
  refine wpAny_ite_split (fun hab => absurd hab (by decide)) (fun _ => ?_)
  refine wpAny_ite_split (fun _ => ?_) (fun hab => absurd (by decide +kernel) hab)
  exact wpAny_bind (wpAny_typeOf (T := "str") (typeIs_str s x t) (wpAny_pure h))

theorem extend_str {R : Result → Shared → Prop} {x : Str} {t : Tok} (hh : A.handled = none) (hlen : x.length ≤ 2 ^ 24) (S : Addr) (res : Value) (c₀ : Nat) (hS : s.heap.get? S = some { cls := .type "list", data := .seq #[] c₀ })
    (hR : ∀ h' tk acc' c', (∀ b o, b ≠ S → s.heap.get? b = some o → h'.get? b = some o) → h'.get? S = some { cls := .type "list", dict := none, data := .seq acc' c', slots := #[] } →
      ItemsOf (SignAt x) acc' x.cps.size → R (.ok (.ret res)) { s with heap := h', toks := tk }) :
    wpAny (model prog w) A.in1 (Builtin.List.listExtendWith (.ref S) (.str x t) res)
      (fun fin s' => match fin with | .done f => R (.ok f) s' | .again c' => c'.quiet = true ∧ codeAny (model prog w) A c' R s') (fun e s' => R (.error e) s') s := by
  have hSlt : S < s.heap.objs.size := Heap.lt_size hS
  have hSI : S ≠ s.heap.objs.size := Nat.ne_of_lt hSlt
  have hSf : S ∉ [s.heap.objs.size] := fun hm => hSI (List.mem_singleton.mp hm)
  have hlen' : x.cps.size ≤ 2 ^ 24 := hlen
  unfold Builtin.List.listExtendWith
  refine wpAny_bind (wpAny_typeOf (T := "str") (typeIs_str s x t) ?_)
  have h1 : Builtin.List.listSameRef (.ref S) (.str x t) = false := by simp [Builtin.List.listSameRef]
  have h2 : (Value.type "str" == Value.type "list") = false := by decide
  have h3 : (Value.type "str" == Value.type "tuple") = false := by decide
  simp only [h1, h2, h3, Bool.or_false, Bool.false_eq_true, if_false]
  refine wpAny_bind (wpAny_pyIter_str fun o St WW st0 => ?_)
  have W := (WW A.in1 hh).toS
  have key : ∀ (h : Heap) (c₁ tk : Nat), St 0 h → (∀ b o, b ≠ S → s.heap.get? b = some o → h.get? b = some o) →
      h.get? S = some { cls := .type "list", data := .seq #[] c₁ } → codeAny (model prog w) A (.builtin "list.extend.loop" ⟨[.ref S, .ref s.heap.objs.size, res], []⟩) R { s with heap := h, toks := tk } := by
    intro h c₁ tk hit hk hS₁
    refine codeAny_extend_loopS W (by rw [sizeLine_eq]; omega) S hSf res x.cps.size 0 _ #[] c₁ rfl (Nat.zero_le _) hit hS₁ (ItemsOf.nil _) fun s' acc' c' hm hS' hacc => ?_
    rw [Moved.eq_with hm]
    refine hR s'.heap s'.toks acc' c' (fun b o hb e => hm.heap b o (fun hmem => ?_) (hk b o hb e)) hS' hacc
    rcases List.mem_cons.mp hmem with e' | hmem
    · exact hb e'
    · exact absurd (Heap.lt_size e) (by rw [List.mem_singleton.mp hmem]; exact Nat.lt_irrefl _)
  refine wpAny_bind (wpAny_holding (hint_str ?_))
  have hS₁ := Heap.get?_push_of_some o hS
  refine wpAny_ite_split (fun hab => absurd hab (by decide)) (fun _ => wpAny_pure ⟨plainId_quiet F.plain_extend_loop _, key _ c₀ _ st0 (fun b o' _ e => Heap.get?_push_of_some _ e) hS₁⟩)

theorem list_init_str {R : Result → Shared → Prop} {x : Str} {t : Tok} (hh : A.handled = none) (hlen : x.length ≤ 2 ^ 24) (S : Addr) (hS : s.heap.get? S = some { cls := .type "list", data := .seq #[] })
    (hR : ∀ h' tk acc' c', (∀ b o, b ≠ S → s.heap.get? b = some o → h'.get? b = some o) → h'.get? S = some { cls := .type "list", dict := none, data := .seq acc' c', slots := #[] } →
      ItemsOf (SignAt x) acc' x.cps.size → R (.ok (.ret .none)) { s with heap := h', toks := tk }) :
    wpAny (model prog w) A.in1 (Builtin.«list.__init__» ⟨[.ref S, .str x t], []⟩)
      (fun fin s' => match fin with | .done f => R (.ok f) s' | .again c' => c'.quiet = true ∧ codeAny (model prog w) A c' R s') (fun e s' => R (.error e) s') s := by
  show wpAny _ _ (do let old ← Builtin.List.listItems (.ref S); Builtin.List.listUpdate (.ref S) (fun _ => #[]); letGo old.toList.reverse; Builtin.List.listExtendWith (.ref S) (.str x t) .none) _ _ s
  refine wpAny_bind ?_
  unfold Builtin.List.listItems
  refine wpAny_bind (wpAny_seqItems hS rfl (wpAny_pure ?_))
  show wpAny _ _ (updateSeq S (fun _ => #[]) >>= fun _ => letGo (#[] : Array Value).toList.reverse >>= fun _ => Builtin.List.listExtendWith (.ref S) (.str x t) .none) _ _ s
  refine wpAny_bind (wpAny_updateSeq hS rfl ?_)
  have hS₂ := Heap.get?_update_self (Obj.mapSeq (fun _ => (#[] : Array Value))) hS rfl
  have oth : ∀ b o, b ≠ S → s.heap.get? b = some o → (s.heap.update S (Obj.mapSeq (fun _ => (#[] : Array Value)))).get? b = some o :=
    fun b o hb e => (Heap.get?_update_other _ _ (Ne.symm hb)).trans e
  refine wpAny_bind (wpAny_letGo ?_)
  refine extend_str hh hlen S .none _ hS₂ fun h' tk acc' c' hk hS' hacc => ?_
  exact hR h' tk acc' c' (fun b o hb e => hk b o hb (oth b o hb e)) hS' hacc

theorem list_of_str {Q : Value → Shared → Prop} {x : Str} {t : Tok} (hh : A.handled = none) (hlen : x.length ≤ 2 ^ 24)
    (hQ : ∀ h' tk acc' c', (∀ b o, s.heap.get? b = some o → h'.get? b = some o) →
      h'.get? s.heap.objs.size = some { cls := .type "list", dict := none, data := .seq acc' c', slots := #[] } → ItemsOf (SignAt x) acc' x.cps.size → Q (.ref s.heap.objs.size) { s with heap := h', toks := tk }) :
    wpAny (model prog w) A (call (.type "list") [.str x t]) Q E s := by
  refine callType_codes (Q₁ := fun obj s₁ => obj = .ref s.heap.objs.size ∧ s₁ = { s with heap := s.heap.push { cls := .type "list", data := .seq #[] } }) F.called_list (F.typeCall_list_1 _) F.entry_list_init
    (code_list_new _ ⟨rfl, rfl⟩) fun obj s₁ h₁ => ?_
  obtain ⟨rfl, rfl⟩ := h₁
  have hS : (s.heap.push { cls := .type "list", data := .seq #[] }).get? s.heap.objs.size = some { cls := .type "list", data := .seq #[] } := Heap.get?_push_size _ rfl
  refine ⟨⟨_, hS, rfl⟩, F.args_list_init_2 _ _, list_init_str (A := A.in1) hh hlen _ hS fun h' tk acc' c' hk hS' hacc => ?_⟩
  exact ⟨rfl, hQ h' tk acc' c' (fun b o e => hk b o (Nat.ne_of_lt (Heap.lt_size e)) (Heap.get?_push_of_some _ e)) hS' hacc⟩
end

/-- the signs of a text, each a text -/
def signsV (x : Str) : List V := x.cps.toList.map fun c => V.str ⟨#[c]⟩
section
variable {X : Cx}
theorem vals_signs {x : Str} {acc : Array Value} (h : ItemsOf (SignAt x) acc x.cps.size) : Vals (signsV x) acc.toList := by
  obtain ⟨hs, hi⟩ := h
  have key : ∀ (cs : List Nat) (us : List Value), us.length = cs.length → (∀ (j : Nat) (v : Value), us[j]? = some v → ∃ c u, cs[j]? = some c ∧ v = .str ⟨#[c]⟩ u) → Vals (cs.map fun c => V.str ⟨#[c]⟩) us := by
    intro cs
    induction cs with
    | nil =>
      intro us e _
      have : us = [] := List.length_eq_zero_iff.mp e
      subst this
      exact .nil
    | cons c cs ih =>
      intro us e hj
      cases us with
      | nil => exact nomatch e
      | cons u us =>
        obtain ⟨c', t, h1, h2⟩ := hj 0 u rfl
        have e1 : c = c' := Option.some.inj h1
        subst e1
        refine .cons ⟨t, h2⟩ (ih us (by simpa using e) fun j v hv => hj (j + 1) v (by simpa using hv))
  refine key x.cps.toList acc.toList (by simpa using hs) fun j v hv => ?_
  obtain ⟨c, u, h1, h2⟩ := hi j v (by simpa using hv)
  exact ⟨c, u, by simpa using h1, h2⟩
theorem call_list_strG (hc : X.calm = true) : CallR X (.type "list") (fun xs H Q => ∃ x, xs = [.str x] ∧ x.length ≤ 16777216 ∧ ∀ p, H p = none → Q (.ref p) (upd H p (.lst (signsV x)))) := by
  intro pins s σ H xs us Q I r h
  obtain ⟨x, rfl, hz, q⟩ := h
  obtain ⟨u, rfl, t, rfl⟩ := vals1 r
  refine list_of_str (I.ok.hd hc) hz fun h' tk acc' c' hk hS hacc => ?_
  have hn : H s.heap.objs.size = none := I.hok.fresh (Nat.le_refl _)
  refine ⟨.ref s.heap.objs.size, _, I.laid (t' := tk) hk (Nat.le_refl _) (o := .lst (signsV x)) ?_, rfl, q _ hn⟩
  refine ⟨?_, acc'.toList, c', vals_signs hacc, by rw [Array.toArray_toList]; exact hS⟩
  unfold signsV
  rw [List.length_map, Array.length_toList, sizeLine_eq]
  exact hz
end
end G

set_option Elab.async false
set_option linter.all false
set_option maxRecDepth 100000
set_option maxHeartbeats 4000000
/-! Set comprehensions of ints and texts; their len. -/
namespace G
open PySem PySem.Spec PyProof.Rows L2

/-! ### one turn of any comprehension's block -/
/-- what is kept between the turns -/
def BKeep (B : Cx) (τ : L2.St) (fp : List Addr) (tn : Nat → Heap → Prop) (W : Nat → Nat → Hp → Prop) (n : Nat) (s : Shared) : Prop :=
  ∃ i H, Inv B [] τ H s ∧ tn i s.heap ∧ (∀ b ∈ fp, H b = none) ∧ W i n H

section
variable {X : Cx} {s0 : Shared} {H0 : Hp} {scope : Scope} {ce : Env} {fp : List Addr} {J : It} {it : Addr} {tn : Nat → Heap → Prop} {tg : Expr} {ifs : List Expr} {g : TG} {tt : TT} {σ : L2.St} {vs : List Nat}
  {W : Nat → Nat → Hp → Prop} {Qd : Hp → Prop} {Kt : L2.St → Hp → (Hp → Prop) → Prop}

theorem blk_fp {τ : L2.St} {H : Hp} {s : Shared} (I : Inv (X.blk s0 H0 scope ce fp) [] τ H s) (free : ∀ b ∈ fp, H b = none) : ∀ b ∈ fp, FpOk (X.blk s0 H0 scope ce fp) [] H b := by
  intro b hb
  refine ⟨free b hb, (I.ok.exf b hb).1, I.ok.exfs b hb, Or.inl hb, fun x c e => (I.ok.exf b hb).2 x c e, fun p hp => ?_⟩
  exact absurd (show p ∈ ([] : List (Addr × Obj)) ++ [] from hp) (by simp)

theorem blk_turn (T : Turn X.prog X.w X.K tg J fp it tn) (hc : X.calm = true) (pg : PG (X.blk s0 H0 scope ce fp) tg g) (pt : PTs (X.blk s0 H0 scope ce fp) ifs tt)
    (turn : ∀ i m H, W i m H → (J.stop i H ∧ Qd H) ∨ (J.go i H ∧ ∃ Nx : Hp → Prop, (∀ H', Nx H' → ∃ m', m' < m ∧ W (i + 1) m' H') ∧
      ∀ x H', J.yld i H x H' → g x (wipe σ vs) H' fun σ2 H2 => wipe σ2 vs = wipe σ vs ∧ tt σ2 H2 fun b H3 => if b = true then Kt σ2 H3 Nx else Nx H3))
    {n : Nat} {s : Shared} {E : Value → Shared → Prop} (k : BKeep (X.blk s0 H0 scope ce fp) (wipe σ vs) fp tn W n s) :
    wpAny (model X.prog X.w) X.A (pyNext (.ref it)) (fun r s1 => match r with
      | none => ∃ H', Inv (X.blk s0 H0 scope ce fp) [] (wipe σ vs) H' s1 ∧ Qd H'
      | some v => wpAny (model X.prog X.w) X.A (letOwnedTupleGo tg (.ref it) v) (fun _ s2 => wpAny (model X.prog X.w) X.A (assign tg ce v) (fun _ s3 =>
          wpAny (model X.prog X.w) X.A (forIn ifs true fun c r => if r = true then do let ok ← isTrue c ce (eval c ce); pure (ForInStep.yield ok) else pure (ForInStep.yield r)) (fun ok s4 =>
            ∃ (pn : List (Addr × Obj)) (σ4 : L2.St) (H4 : Hp) (Nx : Hp → Prop), Inv (X.blk s0 H0 scope ce fp) pn σ4 H4 s4 ∧ (if ok = true then Kt σ4 H4 Nx else Nx H4) ∧
              ∀ s' H', Inv (X.blk s0 H0 scope ce fp) pn σ4 H' s' → Nx H' → ∃ m, m < n ∧ BKeep (X.blk s0 H0 scope ce fp) (wipe σ vs) fp tn W m s') E s3) E s2) E s1) E s := by
  obtain ⟨i, H, I, st, free, w⟩ := k
  rcases turn i n H w with ⟨stop, q⟩ | ⟨go, Nx, hNx, step⟩
  · refine thnF (T.done (X.blk s0 H0 scope ce fp) rfl rfl rfl hc i [] s _ H (fun _ _ => False) I (blk_fp I free) st stop) fun r s1 hr => ?_
    obtain ⟨rfl, I1⟩ := hr
    exact ⟨H, I1, q⟩
  · refine thnF (T.item (X.blk s0 H0 scope ce fp) rfl rfl rfl hc i [] s _ H (fun _ _ => False) I (blk_fp I free) st go) fun r s1 hr => ?_
    obtain ⟨u, rfl, h1⟩ := hr
    refine thnF h1 fun _ s2 h2 => ?_
    obtain ⟨x, G2, J2, rx, y2, st2, free2⟩ := h2
    have P2 := J2.pinned (blk_fp J2 free2) (T.obj _ _ st2)
    refine thnF (pg.run _ s2 _ G2 x u _ P2 rx (step x G2 y2)) fun _ s3 h3 => ?_
    obtain ⟨σ3, G3, J3, hw, q3⟩ := h3
    refine thnF (pt.run _ s3 σ3 G3 _ J3 q3) fun ok s4 h4 => ?_
    obtain ⟨G4, J4, q4⟩ := h4
    refine ⟨_, σ3, G4, Nx, J4, q4, fun s' H' I' nx => ?_⟩
    obtain ⟨m, hm, w'⟩ := hNx H' nx
    have held : ∀ b ∈ fp, ∀ o, s2.heap.get? b = some o → s'.heap.get? b = some o ∧ H' b = none := by
      intro b hb o e
      have z := I'.pin (b, o) (List.mem_append_right _ (List.mem_append_right _ (mem_pinsAt hb e)))
      exact ⟨z.1, z.2.1⟩
    have len : (wipe σ vs).length = σ3.length := (congrArg List.length hw).symm.trans (wipe_length ..)
    have I'' := I'.unpinned (pins := [])
    refine ⟨m, hm, i + 1, H', I''.weak len (fun j v e => (wipe_some (hw ▸ e)).1), ?_, ?_, w'⟩
    · exact T.keep _ _ _ st2 fun b hb o e => (held b hb o e).1
    · intro b hb
      obtain ⟨o, e, _⟩ := T.obj _ _ st2 b hb
      exact (held b hb o e).2
end

/-! ### set comprehensions -/
def tScK (P : Program) (w : World) (wi : TI) (g : TG) (tt : TT) (te : TE) (vs : List Nat) : TE := fun σ H Q => wi σ H fun J H1 => ∀ D, H1 D = none → ∃ W : Nat → Nat → Hp → Prop,
  (∃ m, W 0 m (upd H1 D (SetK P w D (fun _ => false) 0))) ∧ ∀ i m H, W i m H → (J.stop i H ∧ Q (.ref D) H) ∨ (J.go i H ∧ ∃ Nx : Hp → Prop, (∀ H', Nx H' → ∃ m', m' < m ∧ W (i + 1) m' H') ∧
    ∀ x H', J.yld i H x H' → g x (wipe σ vs) H' fun σ2 H2 => wipe σ2 vs = wipe σ vs ∧ tt σ2 H2 fun b H3 => if b = true then
      te σ2 H3 fun y H4 => ∃ (k : Key) (S : Key → Bool) (n : Nat), y = kV k ∧ H4 D = some (SetK P w D S n) ∧ n + 1 < scanBound ∧ Nx (upd H4 D (SetK P w D (fun j => S j || decide (j = k)) (if S k = true then n else n + 1))) else Nx H3)

section
variable {X : Cx}
/-- the object of a new set -/
def setObj (w : World) : Obj := { cls := .type "set", dict := none, data := .set #[] 0 (.fresh 0 0 (!w.params.followText "set-order")) }
theorem setK_fresh (P : Program) (w : World) (h : Heap) : (h.push (setObj w)).SetOf (mixKind P w) h.objs.size (fun _ => false) 0 := by
  refine ⟨_, #[], 0, _, Heap.get?_push_size _ rfl, ⟨rfl, rfl, rfl⟩, rfl, ?_, ?_, by decide, rfl, rfl⟩
  · intro e he
    simp at he
  · intro k
    simp
theorem pe_scK {elt tg iter : Expr} {ifs : List Expr} {scope : Scope} {own : List (PySem.Str × Nat)} {pos : Pos} {wi : TI} {g : TG} {tt : TT} {te : TE} (hc : X.calm = true) (hN : X.N.Nodup) (hi : PI X tg iter wi) (ok : BlkOk X.N X.env.scope scope own)
    (hg : ∀ s H C cl fp, PG (X.blk s H scope (compEnvC scope cl C X.env) fp) tg g) (ht : ∀ s H C cl fp, PTs (X.blk s H scope (compEnvC scope cl C X.env) fp) ifs tt)
    (he : ∀ s H C cl fp, PE (X.blk s H scope (compEnvC scope cl C X.env) fp) elt te) (hs : ∀ x, foldedSetIterable iter X.env x = pure x := by intro _; rfl) :
    PE X (.SetComp elt [⟨tg, iter, ifs, 0⟩] scope pos) (tScK X.prog X.w wi g tt te (own.map (·.2))) := by
  refine ⟨fun pins s σ H Q I h => ?_⟩
  rw [PpSet.eval_SetComp]
  have hfree : ∀ y ∈ scope.names, y.2 = .free → ∃ c, X.env.cells.lookup y.1 = some c := by
    intro y hy e
    rcases ok.free y hy e with k | k
    · exact I.ok.has _ (Or.inl k)
    · exact I.ok.has _ (Or.inr k)
  refine wpAny_comprehension_free (use := none) rfl hs (closure_ok hfree) ok.kind (fun y hy e => by rw [ok.uniq y hy, e]) ?_
  refine thn (hi.run pins s σ H _ I h) fun xv s1 hx => thn hx fun itv s2 h2 => ?_
  obtain ⟨it, fp, tn, J, H2, rfl, I2, T, st2, f2, q⟩ := h2
  refine PpSet.newSet_ok (newEnv_comp ?_)
  -- the new set, laid
  obtain ⟨D, hD⟩ : ∃ D, D = s2.heap.objs.size := ⟨_, rfl⟩
  obtain ⟨W, ⟨m0, w0⟩, turn⟩ := q D (I2.hok.fresh (Nat.le_of_eq hD.symm))
  have up : ∀ b o, s2.heap.get? b = some o → (s2.heap.push (setObj X.w)).get? b = some o := fun b o e => Heap.get?_push_of_some _ e
  have I3 : Inv X pins σ (upd H2 D (SetK X.prog X.w D (fun _ => false) 0)) { s2 with heap := s2.heap.push (setObj X.w) } := by
    refine I2.laid (t' := s2.toks) up (Nat.le_of_eq hD.symm) ?_
    subst hD
    exact setK_new (setK_fresh X.prog X.w s2.heap)
  have small : ∀ b ∈ fp, b < s2.heap.objs.size := by
    intro b hb
    obtain ⟨o, e, _⟩ := T.obj _ _ st2 b hb
    exact Heap.lt_size e
  have f3 : ∀ b ∈ fp, FpOk X pins (upd H2 D (SetK X.prog X.w D (fun _ => false) 0)) b ∧ b < ({ s2 with heap := s2.heap.push (setObj X.w) } : Shared).heap.objs.size := by
    intro b hb
    have lt := small b hb
    have nd : b ≠ D := by rw [hD]; exact Nat.ne_of_lt lt
    refine ⟨⟨(upd_ne nd).trans (f2 b hb).1, (f2 b hb).2⟩, ?_⟩
    show b < (s2.heap.push (setObj X.w)).objs.size
    rw [Heap.size_push]
    exact Nat.lt_succ_of_lt lt
  obtain ⟨t3, e3⟩ : ∃ t3 : Shared, t3 = { s2 with heap := s2.heap.push (setObj X.w) } := ⟨_, rfl⟩
  rw [← e3] at I3 f3
  have hp : s2.heap.push (setObj X.w) = t3.heap := by rw [e3]
  have bs := block_start I3 ok hN f3
  have free3 : ∀ b ∈ fp, upd H2 D (SetK X.prog X.w D (fun _ => false) 0) b = none := fun b hb => (f3 b hb).1.1
  have st4 : tn 0 (pushCells (t3.heap.push { cls := .type "dict", data := .dict #[] }) scope.names) := by
    refine T.keep _ _ _ st2 fun b _ o e => pushCells_keeps _ _ _ _ (Heap.get?_push_of_some _ ?_)
    rw [← hp]
    exact up b o e
  show codeAny _ _ (.compStart _ 0 (.ref it) (.ref _) (compEnvC scope (cellsFrom ((s2.heap.push (setObj X.w)).objs.size + 1) scope.names (cloFrom X.env.cells scope.names [])) (s2.heap.push (setObj X.w)).objs.size X.env)) (compPost (model X.prog X.w) X.A X.xe none (EP X pins σ Q) (.ref _) (s2.heap.push (setObj X.w)).objs.size)
    { s2 with heap := pushCells ((s2.heap.push (setObj X.w)).push { cls := .type "dict", data := .dict #[] }) scope.names }
  rw [← hD]
  have es : ({ s2 with heap := pushCells ((s2.heap.push (setObj X.w)).push { cls := .type "dict", data := .dict #[] }) scope.names } : Shared) = { t3 with heap := pushCells (t3.heap.push { cls := .type "dict", data := .dict #[] }) scope.names } := by
    rw [e3]
  rw [es, hp]
  have pg := hg t3 (upd H2 D (SetK X.prog X.w D (fun _ => false) 0)) t3.heap.objs.size (cellsFrom (t3.heap.objs.size + 1) scope.names (cloFrom X.env.cells scope.names [])) fp
  have pt := ht t3 (upd H2 D (SetK X.prog X.w D (fun _ => false) 0)) t3.heap.objs.size (cellsFrom (t3.heap.objs.size + 1) scope.names (cloFrom X.env.cells scope.names [])) fp
  have pe := he t3 (upd H2 D (SetK X.prog X.w D (fun _ => false) 0)) t3.heap.objs.size (cellsFrom (t3.heap.objs.size + 1) scope.names (cloFrom X.env.cells scope.names [])) fp
  obtain ⟨ce, hce⟩ : ∃ ce, ce = compEnvC scope (cellsFrom (t3.heap.objs.size + 1) scope.names (cloFrom X.env.cells scope.names [])) t3.heap.objs.size X.env := ⟨_, rfl⟩
  have cl : ce.locals = t3.heap.objs.size := by rw [hce]; rfl
  rw [← hce] at bs pg pt pe ⊢
  have k0 : BKeep (X.blk t3 (upd H2 D (SetK X.prog X.w D (fun _ => false) 0)) scope ce fp) (wipe σ (own.map (·.2))) fp tn W m0 { t3 with heap := pushCells (t3.heap.push { cls := .type "dict", data := .dict #[] }) scope.names } :=
    ⟨0, _, bs, st4, free3, w0⟩
  have loop : codeAny (model X.prog X.w) X.A (.compLoop (.SetComp elt [⟨tg, iter, ifs, 0⟩] scope pos) 0 (.ref it) (.ref D) ce) (compPost (model X.prog X.w) X.A X.xe none (EP X pins σ Q) (.ref D) t3.heap.objs.size)
      { t3 with heap := pushCells (t3.heap.push { cls := .type "dict", data := .dict #[] }) scope.names } := by
    refine PpSet.compLoopS_any (BKeep (X.blk t3 (upd H2 D (SetK X.prog X.w D (fun _ => false) 0)) scope ce fp) (wipe σ (own.map (·.2))) fp tn W) (fun n s5 k5 => ?_) m0 k0
    refine wpAny_mono (blk_turn (E := notedBy (model X.prog X.w) X.A ce fun e s' => compPost (model X.prog X.w) X.A X.xe none (EP X pins σ Q) (.ref D) t3.heap.objs.size (.error e) s') T hc pg pt turn k5) (fun r s6 h6 => ?_) fun _ _ z => z
    cases r with
    | none =>
      obtain ⟨H6, I6, q6⟩ := h6
      have back : Inv X pins σ H6 s6 := I3.call' (ch := fp) I6.os I6.base I6.hok I6.bare fun b hb => ⟨(f3 b hb).1.2.2.2.1, (f3 b hb).1.2.1, (f3 b hb).1.2.2.2.2.1, (f3 b hb).1.2.2.2.2.2⟩
      have nC : H6 t3.heap.objs.size = none := cl ▸ (I6.free : H6 ce.locals = none)
      obtain ⟨m, hn, _⟩ := I6.loc
      refine ⟨m, cl ▸ (hn : s6.heap.Ns ce.locals m), fun h'' sb => ?_⟩
      obtain ⟨f0, f1, f2', f3', f4, f5⟩ := I3.fpOk (Nat.le_refl _) nC
      exact ⟨.ref D, H6, back.turned (t' := s6.toks) (fun b o hb e => (sb.2 b hb).trans e) f0 f1 f3' f4 f5, rfl, q6⟩
    | some v =>
      refine wpAny_mono h6 (fun _ s7 h7 => wpAny_mono h7 (fun _ s8 h8 => wpAny_mono h8 (fun b s9 h9 => ?_) fun _ _ z => z) fun _ _ z => z) fun _ _ z => z
      obtain ⟨pn, σ9, H9, Nx, I9, q9, fin⟩ := h9
      cases b with
      | false => exact fin s9 H9 I9 q9
      | true =>
        refine thnF (pe.run pn s9 σ9 H9 _ I9 q9) fun u s10 h10 => ?_
        obtain ⟨y, H10, I10, ry, k, S, c, rfl, hS, room, nx⟩ := h10
        refine call_set_add (kV_is ry) (key_scan ry) (setK_get (X := X.blk t3 (upd H2 D (SetK X.prog X.w D (fun _ => false) 0)) scope ce fp) I10 hS) room fun h' sb new => ?_
        have hx : ∃ u, h'.get? D = some u := by
          have ⟨o, _, _, _, ho, _⟩ := new
          exact ⟨o, ho⟩
        refine fin _ _ (I10.write (e := D) (t' := s10.toks + 1) (by rw [hS]; trivial) (Or.inl rfl) (fun b u hb hu => (sb.2 b hb).trans hu) hx (setK_new new)) nx
  exact PpSet.codeAny_compStart_set loop (T.self X.A 0 _ _ _ st4 loop)
/-- len of a set of ints and texts -/
theorem call_lenSK : CallR X (.builtin "len") (fun xs H Q => ∃ p S n, xs = [.ref p] ∧ H p = some (SetK X.prog X.w p S n) ∧ Q (.int (n : Nat)) H) := by
  intro pins s σ H xs us Q I r h
  obtain ⟨p, S, n, rfl, hp, q⟩ := h
  obtain ⟨u, rfl, r1⟩ := vals1 r
  cases r1
  obtain ⟨o, es, ep, t, ho, hx, hd, hel, hm, hb, hf, hn⟩ := setK_get I hp
  subst hn
  have hb' : es.size < 4096 := hb
  exact call_len_set ho hx hd hf (by omega) ⟨.int _, H, I.tok _, ⟨_, rfl⟩, q⟩
end
end G

set_option Elab.async false
set_option linter.all false
set_option maxRecDepth 100000
set_option maxHeartbeats 4000000
/-! Rules whose readings simplify by what the heap holds. -/
namespace G
open PySem PySem.Spec PyProof.Rows L2

/-- what was known is kept -/
abbrev Sub (H H' : Hp) : Prop := ∀ a, H a ≠ none → H' a = H a
theorem Sub.refl (H : Hp) : Sub H H := fun _ _ => rfl
theorem Sub.trans {H1 H2 H3 : Hp} (a : Sub H1 H2) (b : Sub H2 H3) : Sub H1 H3 := fun x h => (b x (by rw [a x h]; exact h)).trans (a x h)
theorem Sub.new {H : Hp} {p : Addr} {o : HO} (h : H p = none) : Sub H (upd H p o) := fun a ha => upd_ne fun e => ha (e ▸ h)
theorem upd_dif {H : Hp} {a b : Addr} {o : HO} (h : H a ≠ H b) : upd H b o a = H a := upd_ne fun e => h (e ▸ rfl)
theorem Sub.get {H H' : Hp} (e : Sub H H') {a : Addr} {o : HO} (h : H a = some o) : H' a = some o := (e a (by rw [h]; exact nofun)).trans h

/-- frozen or not -/
def lk : Option HO → Option HO
  | some (.frz _ u) => some u
  | o => o
theorem lk_none : lk none = none := rfl
theorem lk_frz {o : Obj} {u : HO} : lk (some (.frz o u)) = some u := rfl
theorem lk_lst {xs : List V} : lk (some (.lst xs)) = some (.lst xs) := rfl
theorem lk_tup {xs : List V} : lk (some (.tup xs)) = some (.tup xs) := rfl
theorem lk_dK {xs : List (Key × V)} : lk (some (.dK xs)) = some (.dK xs) := rfl
theorem lk_ins {C dx : Addr} {fs : List (Str × V)} : lk (some (.ins C dx fs)) = some (.ins C dx fs) := rfl
theorem rd_lk {H : Hp} {a : Addr} {u : HO} (h : lk (H a) = some u) : Rd H a u := by
  cases e : H a with
  | none => rw [e] at h; cases h
  | some v =>
    rw [e] at h
    cases v with
    | frz o w => cases (Option.some.inj h); exact Or.inr ⟨o, e⟩
    | _ => cases (Option.some.inj h); exact Or.inl e
theorem lk_freeze {H : Hp} {d a : Addr} {od : Obj} {u : HO} (h : H d = some u) (hu : lk (some u) = some u) : lk (upd H d (.frz od u) a) = lk (H a) := by
  by_cases e : a = d
  · subst e
    rw [upd_same, h, hu]
    rfl
  · rw [upd_ne e]

/-- a value as a key -/
theorem kV_str {x : Str} {k : Key} : (V.str x = kV k) ↔ k = Sum.inr x := by
  cases k with
  | inl i => exact ⟨fun h => (nomatch h), fun h => (nomatch h)⟩
  | inr y => exact ⟨fun h => by cases h; rfl, fun h => by cases h; rfl⟩
theorem kV_int {i : Int} {k : Key} : (V.int i = kV k) ↔ k = Sum.inl i := by
  cases k with
  | inr i => exact ⟨fun h => (nomatch h), fun h => (nomatch h)⟩
  | inl y => exact ⟨fun h => by cases h; rfl, fun h => by cases h; rfl⟩
theorem kV_kV {j k : Key} : (kV j = kV k) ↔ k = j := by
  cases j with
  | inl i => exact kV_int
  | inr x => exact kV_str

section
variable {X : Cx}
/-! ### len -/
def rLenU (P : Program) (w : World) (xs : List V) (H : Hp) (Q : VK) : Prop := (∃ z, xs = [.str z] ∧ z.length ≤ sizeLine ∧ Q (.int z.length) H) ∨ (∃ p ys, xs = [.ref p] ∧ lk (H p) = some (.lst ys) ∧ Q (.int ys.length) H) ∨
  (∃ p ys, xs = [.ref p] ∧ lk (H p) = some (.tup ys) ∧ Q (.int ys.length) H) ∨ (∃ p ys, xs = [.ref p] ∧ H p = some (.dK ys) ∧ Q (.int ys.length) H) ∨
  ∃ p S n, xs = [.ref p] ∧ H p = some (SetK P w p S n) ∧ Q (.int (n : Nat)) H
theorem call_lenU : CallR X (.builtin "len") (rLenU X.prog X.w) := by
  intro pins s σ H xs us Q I r h
  rcases h with ⟨z, e, hz, q⟩ | ⟨p, ys, e, hp, q⟩ | ⟨p, ys, e, hp, q⟩ | ⟨p, ys, e, hp, q⟩ | ⟨p, S, n, e, hp, q⟩
  · exact call_len_str pins s σ H xs us Q I r ⟨z, e, hz, q⟩
  · exact call_len_seq pins s σ H xs us Q I r ⟨p, ys, e, Or.inl (Or.inl (rd_lk hp)), q⟩
  · exact call_len_seq pins s σ H xs us Q I r ⟨p, ys, e, Or.inr (Or.inl (rd_lk hp)), q⟩
  · exact call_lenD pins s σ H xs us Q I r ⟨p, ys, e, hp, q⟩
  · exact call_lenSK pins s σ H xs us Q I r ⟨p, S, n, e, hp, q⟩
/-! ### subscripts -/
def rIxU (x : V) (y : V) (H : Hp) (Q : VK) : Prop := (∃ z i c, x = .str z ∧ y = .int i ∧ z.length ≤ sizeLine ∧ atI z.cps.toList i = some c ∧ Q (.str ⟨#[c]⟩) H) ∨ (∃ p xs i v, x = .ref p ∧ y = .int i ∧ lk (H p) = some (.lst xs) ∧ atI xs i = some v ∧ Q v H) ∨
  (∃ p xs i v, x = .ref p ∧ y = .int i ∧ lk (H p) = some (.tup xs) ∧ atI xs i = some v ∧ Q v H) ∨ ∃ p kvs k v, x = .ref p ∧ y = kV k ∧ lk (H p) = some (.dK kvs) ∧ valV kvs k = some v ∧ Q v H
theorem ix_dict (hu : X.A.units + 1 < cLine) : IxR X (fun x y H Q => ∃ p kvs k v, x = .ref p ∧ y = kV k ∧ Rd H p (.dK kvs) ∧ valV kvs k = some v ∧ Q v H) := by
  intro value slice pins s σ H x y v u Q I rx ry h hs
  obtain ⟨p, kvs, k, z, rfl, rfl, hp, hv, q⟩ := h
  cases rx
  have g : DGet H p (kV k) (some z) := Or.inl ⟨kvs, k, hp, rfl, hv.symm⟩
  have hT := dict_typeIs I g
  unfold subscriptTail
  refine wpAny_bind ?_
  rw [getitemInPython_of_ne hT.not_modules]
  refine wpAny_bind (wpAny_specialOf hT PySem.F.slot_dict_getitem.lookup ?_)
  have fin : wpAny (model X.prog X.w) X.A (subscripted slice false (.ref p) u) (fun r s₃ => wpAny (model X.prog X.w) X.A (letTemporaryGo value (.ref p) r >>= fun _ => pure r) (EP X pins σ Q) X.xe s₃) X.xe s := by
    rw [hs]
    exact wpAny_operating (d_getItem hu I g ry fun w' s3 I3 rw' => wpAny_bind (wpAny_letTemporaryGo (wpAny_pure ⟨z, H, I3, rw', q⟩)))
  first
    | exact wpAny_pure (wpAny_bind fin)
    | exact wpAny_bind (wpAny_pure (wpAny_bind fin))
    | exact wpAny_bind fin
theorem ix_U (hu : X.A.units + 1 < cLine) : IxR X rIxU := by
  intro value slice pins s σ H x y v u Q I rx ry h hs
  rcases h with ⟨z, i, c, e1, e2, hz, hc, q⟩ | ⟨p, xs, i, z, e1, e2, hp, hc, q⟩ | ⟨p, xs, i, z, e1, e2, hp, hc, q⟩ | ⟨p, kvs, k, z, e1, e2, hp, hc, q⟩
  · exact ix_str value slice pins s σ H x y v u Q I rx ry ⟨z, i, c, e1, e2, hz, hc, q⟩ hs
  · exact ix_list value slice pins s σ H x y v u Q I rx ry ⟨p, xs, i, z, e1, e2, Or.inl (rd_lk hp), hc, q⟩ hs
  · exact ix_tup value slice pins s σ H x y v u Q I rx ry ⟨p, xs, i, z, e1, e2, Or.inl (rd_lk hp), hc, q⟩ hs
  · exact ix_dict hu value slice pins s σ H x y v u Q I rx ry ⟨p, kvs, k, z, e1, e2, rd_lk hp, hc, q⟩ hs
/-! ### in -/
def inS (x z : Str) : Bool := !(Builtin.Str.occurrences z x 0 z.length 1).isEmpty
theorem inS_sign (c : Nat) (z : Str) : inS ⟨#[c]⟩ z = decide (c ∈ z.cps.toList) := PySem.StrLaws.found_one z c
def rInU (neg : Bool) (x : V) (y : V) (H : Hp) (Q : VK) : Prop := (∃ a z, x = .str a ∧ y = .str z ∧ Q (.bl (neg ^^ inS a z)) H) ∨ (∃ p xs, y = .ref p ∧ lk (H p) = some (.lst xs) ∧ flatV x = true ∧ xs.all flatV = true ∧ Q (.bl (neg ^^ inV x xs)) H) ∨
  (∃ p xs, y = .ref p ∧ lk (H p) = some (.tup xs) ∧ flatV x = true ∧ xs.all flatV = true ∧ Q (.bl (neg ^^ inV x xs)) H) ∨ ∃ p kvs k, x = kV k ∧ y = .ref p ∧ lk (H p) = some (.dK kvs) ∧ Q (.bl (neg ^^ (valV kvs k).isSome)) H
theorem op_inU (hu : X.A.units + 1 < cLine) : OpR X (compareOp .In) (rInU false) := by
  intro pins s σ H x y v u Q I rx ry h
  rcases h with ⟨a, z, e1, e2, q⟩ | ⟨p, xs, e, hp, h1, h2, q⟩ | ⟨p, xs, e, hp, h1, h2, q⟩ | ⟨p, kvs, k, e1, e2, hp, q⟩
  · exact op_in_str pins s σ H x y v u Q I rx ry ⟨a, z, e1, e2, by simpa [inS] using q⟩
  · exact op_in_seq pins s σ H x y v u Q I rx ry ⟨p, xs, e, Or.inl (Or.inl (rd_lk hp)), h1, h2, by simpa using q⟩
  · exact op_in_seq pins s σ H x y v u Q I rx ry ⟨p, xs, e, Or.inr (Or.inl (rd_lk hp)), h1, h2, by simpa using q⟩
  · subst e1 e2
    cases ry
    exact d_in hu I (Or.inl ⟨kvs, k, rd_lk hp, rfl, rfl⟩) rx fun s3 I3 => ⟨.bl (valV kvs k).isSome, H, I3, rfl, by simpa using q⟩
theorem op_notInU (hu : X.A.units + 1 < cLine) : OpR X (compareOp .NotIn) (rInU true) := by
  intro pins s σ H x y v u Q I rx ry h
  rcases h with ⟨a, z, e1, e2, q⟩ | ⟨p, xs, e, hp, h1, h2, q⟩ | ⟨p, xs, e, hp, h1, h2, q⟩ | ⟨p, kvs, k, e1, e2, hp, q⟩
  · exact op_notin_str pins s σ H x y v u Q I rx ry ⟨a, z, e1, e2, by simpa [inS] using q⟩
  · exact op_notIn_seq pins s σ H x y v u Q I rx ry ⟨p, xs, e, Or.inl (Or.inl (rd_lk hp)), h1, h2, by simpa using q⟩
  · exact op_notIn_seq pins s σ H x y v u Q I rx ry ⟨p, xs, e, Or.inr (Or.inl (rd_lk hp)), h1, h2, by simpa using q⟩
  · subst e1 e2
    cases ry
    exact d_notIn hu I (Or.inl ⟨kvs, k, rd_lk hp, rfl, rfl⟩) rx fun s3 I3 => ⟨.bl (!(valV kvs k).isSome), H, I3, rfl, by simpa using q⟩
/-! ### ==, != of scalars, of a list and the empty list -/
theorem ne_nil_raw {a b : Addr} {items items2 : Array Value} {A : Around} {s : Shared} (hl : s.heap.IsList a items) (hb : s.heap.IsList b items2) (e : items2.size = 0) (hu : A.units < cLine) :
    SeqAt.RcNeAt A s (.ref a) (.ref b) (decide (items.size ≠ 0)) := by
  by_cases h : items.size = 0
  · have := SeqAt.RcNeAt.lists (e := fun _ => true) hl hb (by omega) hu (fun j h1 _ => by omega)
    simpa [h] using this
  · have := SeqAt.RcNeAt.lists_lengths hl hb (by simp; omega) hu
    simpa [h] using this
theorem eq_nil_raw {a b : Addr} {items items2 : Array Value} {A : Around} {s : Shared} (hl : s.heap.IsList a items) (hb : s.heap.IsList b items2) (e : items2.size = 0) (hu : A.units < cLine) :
    SeqAt.RcAt A s (.ref a) (.ref b) (decide (items.size = 0)) := by
  by_cases h : items.size = 0
  · have := SeqAt.RcAt.lists (e := fun _ => true) hl hb (by omega) hu (fun j h1 _ => by omega)
    simpa [h] using this
  · have := SeqAt.RcAt.lists_lengths hl hb (by simp; omega) hu
    simpa [h] using this
def rNilU (neg : Bool) (x : V) (y : V) (H : Hp) (Q : VK) : Prop := ∃ a b xs, x = .ref a ∧ y = .ref b ∧ lk (H a) = some (.lst xs) ∧ lk (H b) = some (.lst []) ∧ Q (.bl (neg ^^ decide (xs = []))) H
theorem op_neNil (hu : X.A.units < cLine) : OpR X (compareOp .NotEq) (rNilU true) := by
  intro pins s σ H x y v u Q I rx ry h
  obtain ⟨a, b, xs, rfl, rfl, ha, hb, q⟩ := h
  cases rx
  cases ry
  obtain ⟨its, rv, pl, hz⟩ := I.list (Or.inl (rd_lk ha))
  obtain ⟨its2, rv2, pl2, hz2⟩ := I.list (Or.inl (rd_lk hb))
  cases rv2
  have hl := rv.length
  exact ne_nil_raw pl.isList pl2.isList rfl hu X.prog X.w _ _ ⟨.bl _, H, I, rfl, by
    have e : (true ^^ decide (xs = [])) = decide (its.toArray.size ≠ 0) := by
      rw [List.size_toArray, ← hl]
      cases xs <;> simp
    rw [← e]
    exact q⟩
theorem op_eqNil (hu : X.A.units < cLine) : OpR X (compareOp .Eq) (rNilU false) := by
  intro pins s σ H x y v u Q I rx ry h
  obtain ⟨a, b, xs, rfl, rfl, ha, hb, q⟩ := h
  cases rx
  cases ry
  obtain ⟨its, rv, pl, hz⟩ := I.list (Or.inl (rd_lk ha))
  obtain ⟨its2, rv2, pl2, hz2⟩ := I.list (Or.inl (rd_lk hb))
  cases rv2
  have hl := rv.length
  exact eq_nil_raw pl.isList pl2.isList rfl hu X.prog X.w _ _ ⟨.bl _, H, I, rfl, by
    have e : (false ^^ decide (xs = [])) = decide (its.toArray.size = 0) := by
      rw [List.size_toArray, ← hl]
      cases xs <;> simp
    rw [← e]
    exact q⟩
/-! ### ==, != of dicts with flat values -/
def dEq (ks ls : List (Key × V)) : Bool := ks.length == ls.length && ks.all fun p => match valV ls p.1 with
  | some y => eqV p.2 y
  | none => false
theorem hits_gen {A : Around} {s : Shared} {ls : List (Key × V)} {vb : List (Key × Value)} (rb : KV ls vb) (fb : ∀ p ∈ ls, flatV p.2 = true) : ∀ {ks : List (Key × V)} {va : List (Key × Value)}, KV ks va → (∀ p ∈ ks, flatV p.2 = true) →
    PySem.W.KeqHits A s vb va (ks.all fun p => match valV ls p.1 with
      | some y => eqV p.2 y
      | none => false)
  | _, _, .nil, _ => .nil
  | (k, x) :: ks, (k', v) :: va, .cons h t, f => by
    obtain ⟨rfl, rx⟩ := h
    have ih := hits_gen (A := A) (s := s) rb fb t (fun p hp => f p (List.mem_cons_of_mem _ hp))
    have fx : flatV x = true := f (k, x) List.mem_cons_self
    rw [List.all_cons]
    have rk := rb.val k
    cases e : valV ls k with
    | none =>
      rw [e] at rk
      have hn : valueAt vb k = none := RelO.none_of rk
      simp only [e, Bool.false_and]
      exact .miss hn
    | some y =>
      rw [e] at rk
      obtain ⟨u, hu, ru⟩ := rk.some_of
      have fy : flatV y = true := by
        unfold valV at e
        obtain ⟨q, hq, rfl⟩ := Option.map_eq_some_iff.mp e
        exact fb q (List.mem_of_find?_eq_some hq)
      simp only [e]
      exact .hit hu (eqAt_V rx ru fx fy) ih
def rDEqU (neg : Bool) (x y : V) (H : Hp) (Q : VK) : Prop := ∃ a b ks ls, x = .ref a ∧ y = .ref b ∧ lk (H a) = some (.dK ks) ∧ lk (H b) = some (.dK ls) ∧ (∀ p ∈ ks, flatV p.2 = true) ∧ (∀ p ∈ ls, flatV p.2 = true) ∧ Q (.bl (neg ^^ dEq ks ls)) H
theorem op_eqDict (hu : X.A.units < cLine) : OpR X (compareOp .Eq) (rDEqU false) := by
  intro pins s σ H x y v u Q I rx ry h
  obtain ⟨a, b, ks, ls, rfl, rfl, ea, eb, fa, fb, q⟩ := h
  cases rx
  cases ry
  obtain ⟨_, ya, va, ra, da⟩ := dk_rd I.hok (rd_lk ea)
  obtain ⟨_, yb, vb, rb, db⟩ := dk_rd I.hok (rd_lk eb)
  refine PySem.W.keq_eq (knd := mixKind X.prog X.w) ya yb da db hu (fun _ => hits_gen rb fb ra fa) (fin_bl I q ?_)
  rw [Bool.false_xor, ← KV.length ra, ← KV.length rb]
  rfl
theorem op_neDict (hu : X.A.units < cLine) : OpR X (compareOp .NotEq) (rDEqU true) := by
  intro pins s σ H x y v u Q I rx ry h
  obtain ⟨a, b, ks, ls, rfl, rfl, ea, eb, fa, fb, q⟩ := h
  cases rx
  cases ry
  obtain ⟨_, ya, va, ra, da⟩ := dk_rd I.hok (rd_lk ea)
  obtain ⟨_, yb, vb, rb, db⟩ := dk_rd I.hok (rd_lk eb)
  refine PySem.W.keq_ne (knd := mixKind X.prog X.w) ya yb da db hu (fun _ => hits_gen rb fb ra fa) (fin_bl I q ?_)
  rw [Bool.true_xor, ← KV.length ra, ← KV.length rb]
  rfl
def rEqU (x y : V) (H : Hp) (Q : VK) : Prop := rEq x y H Q ∨ rNilU false x y H Q ∨ rDEqU false x y H Q
def rNeU (x y : V) (H : Hp) (Q : VK) : Prop := rNe x y H Q ∨ rNilU true x y H Q ∨ rDEqU true x y H Q
theorem op_eqU (hu : X.A.units < cLine) : OpR X (compareOp .Eq) rEqU := op_eq.or ((op_eqNil hu).or (op_eqDict hu))
theorem op_neU (hu : X.A.units < cLine) : OpR X (compareOp .NotEq) rNeU := op_ne.or ((op_neNil hu).or (op_neDict hu))
def rMax2U (xs : List V) (H : Hp) (Q : VK) : Prop := ∃ i j, xs = [.int i, .int j] ∧ Q (.int (max i j)) H
def rMin2U (xs : List V) (H : Hp) (Q : VK) : Prop := ∃ i j, xs = [.int i, .int j] ∧ Q (.int (min i j)) H
theorem call_max2U (hc : X.calm = true) : CallR X (.builtin "max") rMax2U := by
  intro pins s σ H xs us Q I r h
  obtain ⟨i, j, e, q⟩ := h
  refine call_max2 hc pins s σ H xs us Q I r ⟨i, j, e, ?_⟩
  have e2 : (if j > i then j else i) = max i j := by split <;> omega
  rw [e2]
  exact q
theorem call_min2U (hc : X.calm = true) : CallR X (.builtin "min") rMin2U := by
  intro pins s σ H xs us Q I r h
  obtain ⟨i, j, e, q⟩ := h
  refine call_min2 hc pins s σ H xs us Q I r ⟨i, j, e, ?_⟩
  have e2 : (if j < i then j else i) = min i j := by split <;> omega
  rw [e2]
  exact q
def rInt1U (xs : List V) (H : Hp) (Q : VK) : Prop := (∃ i, xs = [.int i] ∧ Q (.int i) H) ∨ ∃ k, xs = [.bl k] ∧ Q (.int (if k then 1 else 0)) H
theorem call_int1U : CallR X (.type "int") rInt1U := call_int1
def rAbsU (xs : List V) (H : Hp) (Q : VK) : Prop := ∃ i : Int, xs = [.int i] ∧ Q (.int (i.natAbs : Nat)) H
theorem call_absU : CallR X (.builtin "abs") rAbsU := by
  intro pins s σ H xs us Q I r h
  obtain ⟨i, e, q⟩ := h
  refine call_abs pins s σ H xs us Q I r ⟨i, e, ?_⟩
  have e2 : (if i < 0 then -i else i) = (i.natAbs : Int) := by split <;> omega
  rw [e2]
  exact q
/-! ### +, * -/
def rAddU (x : V) (y : V) (H : Hp) (Q : VK) : Prop := (∃ i j, x = .int i ∧ y = .int j ∧ Q (.int (i + j)) H) ∨ (∃ i j, x = .str i ∧ y = .str j ∧ i.length + j.length ≤ sizeLine ∧ Q (.str (i ++ j)) H) ∨
  ∃ l b xs zs, x = .ref l ∧ y = .ref b ∧ H l = some (.lst xs) ∧ H b = some (.lst zs) ∧ xs.length + zs.length ≤ sizeLine ∧ ∀ p, H p = none → Q (.ref p) (upd H p (.lst (xs ++ zs)))
theorem op_addU : OpR X (binaryOp .Add) rAddU := op_add.or (op_add_str.or op_cat)
def rMulU (x : V) (y : V) (H : Hp) (Q : VK) : Prop := (∃ i j, x = .int i ∧ y = .int j ∧ CMulW i j ∧ Q (.int (i * j)) H) ∨ ∃ l k xs, x = .ref l ∧ y = .int k ∧ H l = some (.lst xs) ∧ -(2 ^ 63) ≤ k ∧ k < 2 ^ 63 ∧ xs.length * k.toNat ≤ sizeLine ∧
    ∀ p, H p = none → Q (.ref p) (upd H p (.lst (List.replicate k.toNat xs).flatten))
theorem op_mulU : OpR X (binaryOp .Mult) rMulU := op_mulW.or op_rep
/-! ### list, tuple, dict of pairs, sum, all, any -/
def rListU (vs : List V) (H : Hp) (Q : VK) : Prop := (∃ x, vs = [.str x] ∧ x.length ≤ 16777216 ∧ ∀ p, H p = none → Q (.ref p) (upd H p (.lst (signsV x)))) ∨ (∃ a xs, vs = [.ref a] ∧ lk (H a) = some (.lst xs) ∧ ∀ p, H p = none → Q (.ref p) (upd H p (.lst xs))) ∨
  (∃ a xs, vs = [.ref a] ∧ lk (H a) = some (.tup xs) ∧ ∀ p, H p = none → Q (.ref p) (upd H p (.lst xs))) ∨
  ∃ a kvs, vs = [.ref a] ∧ lk (H a) = some (.dK kvs) ∧ ∀ p, H p = none → Q (.ref p) (upd H p (.lst (kvs.map fun kv => kV kv.1)))
theorem call_listU (hc : X.calm = true) : CallR X (.type "list") rListU := by
  intro pins s σ H xs us Q I r h
  rcases h with ⟨x, e, hz, q⟩ | ⟨a, ys, e, ha, q⟩ | ⟨a, ys, e, ha, q⟩ | ⟨a, ys, e, ha, q⟩
  · exact call_list_strG hc pins s σ H xs us Q I r ⟨x, e, hz, q⟩
  · exact call_list_of pins s σ H xs us Q I r ⟨a, ys, e, Or.inl (Or.inl (rd_lk ha)), q⟩
  · exact call_list_of pins s σ H xs us Q I r ⟨a, ys, e, Or.inr (Or.inl (rd_lk ha)), q⟩
  · exact call_listD hc pins s σ H xs us Q I r ⟨a, ys, e, rd_lk ha, q⟩
def rTupU (vs : List V) (H : Hp) (Q : VK) : Prop := (∃ a xs, vs = [.ref a] ∧ lk (H a) = some (.lst xs) ∧ ∀ p, H p = none → Q (.ref p) (upd H p (.tup xs))) ∨ ∃ a xs, vs = [.ref a] ∧ lk (H a) = some (.tup xs) ∧ Q (.ref a) H
theorem call_tupU : CallR X (.type "tuple") rTupU := by
  intro pins s σ H xs us Q I r h
  rcases h with ⟨a, ys, e, ha, q⟩ | ⟨a, ys, e, ha, q⟩
  · exact call_tuple_of pins s σ H xs us Q I r ⟨a, ys, e, Or.inl ⟨Or.inl (rd_lk ha), q⟩⟩
  · exact call_tuple_of pins s σ H xs us Q I r ⟨a, ys, e, Or.inr ⟨Or.inl (rd_lk ha), q⟩⟩
def rSumU (vs : List V) (H : Hp) (Q : VK) : Prop := ∃ a xs, vs = [.ref a] ∧ lk (H a) = some (.lst xs) ∧ ∃ ns : List Int, xs = ns.map V.int ∧ Q (.int ns.sum) H
theorem call_sumU (hc : X.calm = true) : CallR X (.builtin "sum") rSumU := by
  intro pins s σ H xs us Q I r h
  obtain ⟨a, ys, e, ha, ns, rfl, q⟩ := h
  exact cr_sum hc pins s σ H xs us Q I r ⟨a, ns, e, Or.inl (rd_lk ha), q⟩
def rAllU (vs : List V) (H : Hp) (Q : VK) : Prop := ∃ a xs, vs = [.ref a] ∧ lk (H a) = some (.lst xs) ∧ ∃ ns : List Bool, xs = ns.map V.bl ∧ Q (.bl (ns.all id)) H
def rAnyU (vs : List V) (H : Hp) (Q : VK) : Prop := ∃ a xs, vs = [.ref a] ∧ lk (H a) = some (.lst xs) ∧ ∃ ns : List Bool, xs = ns.map V.bl ∧ Q (.bl (ns.any id)) H
theorem call_allU (hc : X.calm = true) : CallR X (.builtin "all") rAllU := by
  intro pins s σ H xs us Q I r h
  obtain ⟨a, ys, e, ha, ns, rfl, q⟩ := h
  exact cr_all hc pins s σ H xs us Q I r ⟨a, ns, e, Or.inl (rd_lk ha), q⟩
theorem call_anyU (hc : X.calm = true) : CallR X (.builtin "any") rAnyU := by
  intro pins s σ H xs us Q I r h
  obtain ⟨a, ys, e, ha, ns, rfl, q⟩ := h
  exact cr_any hc pins s σ H xs us Q I r ⟨a, ns, e, Or.inl (rd_lk ha), q⟩
/-- dict([(k, v), ..]) -/
def PairedT (H : Hp) : List V → List (Key × V) → Prop := Paired fun p kv => ∃ t, p = V.ref t ∧ H t = some (.tup [kV kv.1, kv.2])
def rDictU (vs : List V) (H : Hp) (Q : VK) : Prop := ∃ a xs, vs = [.ref a] ∧ lk (H a) = some (.lst xs) ∧ ∃ kvs, PairedT H xs kvs ∧ ∀ p, H p = none → Q (.ref p) (upd H p (.dK (mergeK [] kvs)))
theorem PairedT.split {K : PySem.W.Frag} {H : Hp} : ∀ {xs : List V} {kvs : List (Key × V)}, PairedT H xs kvs → ∃ ps : List Addr, xs = ps.map V.ref ∧ Paired (fun p kv => SqT K H p [kV kv.1, kv.2]) ps kvs
  | _, _, .nil => ⟨[], rfl, .nil⟩
  | _, _, .cons ⟨t, e, h⟩ r => by
    obtain ⟨ps, e2, h2⟩ := PairedT.split r
    exact ⟨t :: ps, by rw [e, e2]; rfl, .cons (Or.inl (Or.inl h)) h2⟩
theorem call_dictU (hc : X.calm = true) : CallR X (.type "dict") rDictU := by
  intro pins s σ H xs us Q I r h
  obtain ⟨a, ys, e, ha, kvs, hp, q⟩ := h
  obtain ⟨ps, rfl, h2⟩ := hp.split (K := X.K)
  exact call_dictP hc pins s σ H xs us Q I r ⟨a, ps, kvs, e, Or.inl (rd_lk ha), h2, q⟩
/-! ### slices -/
def rSlU (x : V) (lo : Option Int) (hi : Option Int) (H : Hp) (Q : VK) : Prop := (∃ a xs, x = .ref a ∧ lk (H a) = some (.lst xs) ∧ ∀ p, H p = none → Q (.ref p) (upd H p (.lst (cutV xs lo hi)))) ∨
  ∃ z, x = .str z ∧ z.length ≤ sizeLine ∧ Q (.str (cutS z lo hi)) H
theorem sl_U : SlR X rSlU := by
  intro pins s σ H x v vl vu lo hi sl Q I rx hs pl pu h
  rcases h with ⟨a, xs, e, ha, q⟩ | ⟨z, e, hz, q⟩
  · exact sl_list pins s σ H x v vl vu lo hi sl Q I rx hs pl pu ⟨a, xs, e, Or.inl (rd_lk ha), q⟩
  · exact sl_str pins s σ H x v vl vu lo hi sl Q I rx hs pl pu ⟨z, e, hz, q⟩
/-! ### isinstance with types of the language -/
def tyO : Option HO → Option String
  | some (.lst _) => some "list" | some (.tup _) => some "tuple" | some (.dK _) => some "dict" | some (.dT _) => some "dict"
  | some (.frz _ (.lst _)) => some "list" | some (.frz _ (.tup _)) => some "tuple" | some (.frz _ (.dK _)) => some "dict" | _ => none
theorem tyO_lst {xs : List V} : tyO (some (.lst xs)) = some "list" := rfl
theorem tyO_tup {xs : List V} : tyO (some (.tup xs)) = some "tuple" := rfl
theorem tyO_dK {xs : List (Key × V)} : tyO (some (.dK xs)) = some "dict" := rfl
theorem tyO_flst {o : Obj} {xs : List V} : tyO (some (.frz o (.lst xs))) = some "list" := rfl
theorem tyO_ftup {o : Obj} {xs : List V} : tyO (some (.frz o (.tup xs))) = some "tuple" := rfl
theorem tyO_fdK {o : Obj} {xs : List (Key × V)} : tyO (some (.frz o (.dK xs))) = some "dict" := rfl
def tyName (H : Hp) : V → Option String
  | .non => some "NoneType" | .bl _ => some "bool" | .int _ => some "int" | .str _ => some "str"
  | .ref a => tyO (H a)
  | _ => none
theorem tyN_non {H : Hp} : tyName H .non = some "NoneType" := rfl
theorem tyN_bl {H : Hp} {b : Bool} : tyName H (.bl b) = some "bool" := rfl
theorem tyN_int {H : Hp} {i : Int} : tyName H (.int i) = some "int" := rfl
theorem tyN_str {H : Hp} {x : Str} : tyName H (.str x) = some "str" := rfl
theorem tyN_ref {H : Hp} {a : Addr} : tyName H (.ref a) = tyO (H a) := rfl
def isT (a b : String) : Bool := a == b || (a == "bool" && b == "int")
def tyNames : List String := ["NoneType", "bool", "int", "str", "list", "tuple", "dict"]
def tyAsk : List String := ["bool", "int", "str", "list", "tuple", "dict"]
theorem isT_kit : ∀ a ∈ tyNames, ∀ b ∈ tyAsk, kitB a b = some (isT a b) := by decide +kernel
theorem tyName_ok {K : PySem.W.Frag} {H : Hp} {x : V} {t : String} (h : tyName H x = some t) : TyX K H x (.type t) ∧ t ∈ tyNames := by
  cases x with
  | non => cases (Option.some.inj h); exact ⟨.base .non, by decide⟩
  | bl b => cases (Option.some.inj h); exact ⟨.base (.bl b), by decide⟩
  | int i => cases (Option.some.inj h); exact ⟨.base (.int i), by decide⟩
  | str z => cases (Option.some.inj h); exact ⟨.base (.str z), by decide⟩
  | ref a =>
    rw [tyN_ref] at h
    unfold tyO at h
    split at h <;> first | (cases h; done) | skip
    all_goals (rename_i e; cases (Option.some.inj h))
    · exact ⟨.base (.lst e), by decide⟩
    · exact ⟨.base (.tup e), by decide⟩
    · exact ⟨.base (.dK e), by decide⟩
    · exact ⟨.base (.dT e), by decide⟩
    · exact ⟨.base (.frz e), by decide⟩
    · exact ⟨.fTuple e, by decide⟩
    · exact ⟨.fDict e, by decide⟩
  | _ => cases h
def rIsiU (vs : List V) (H : Hp) (Q : VK) : Prop := ∃ x n t, vs = [x, .ty n] ∧ tyName H x = some t ∧ n ∈ tyAsk ∧ Q (.bl (isT t n)) H
theorem call_isiU : CallR X (.builtin "isinstance") rIsiU := by
  intro pins s σ H xs us Q I r h
  obtain ⟨x, n, t, e, ht, hn, q⟩ := h
  obtain ⟨h1, h2⟩ := tyName_ok (K := X.K) ht
  exact call_isi pins s σ H xs us Q I r ⟨x, .ty n, .type t, .type n, isT t n, e, .ty n, h1, kit_ty (isT_kit t h2 n hn), q⟩
def tyList : List V → Option (List String)
  | [] => some []
  | .ty n :: r => (tyList r).map (n :: ·)
  | _ :: _ => none
def rIsiTU (vs : List V) (H : Hp) (Q : VK) : Prop := ∃ x tp cs ns t, vs = [x, .ref tp] ∧ H tp = some (.tup cs) ∧ tyList cs = some ns ∧ tyName H x = some t ∧ (∀ n ∈ ns, n ∈ tyAsk) ∧ Q (.bl (ns.any (isT t))) H
theorem tyList_ok {K : PySem.W.Frag} {t : String} (ht : t ∈ tyNames) : ∀ {cs : List V} {ns : List String}, tyList cs = some ns → (∀ n ∈ ns, n ∈ tyAsk) →
    ∃ us, Paired ClsV cs us ∧ PySem.W.kitAny K (.type t) us = some (ns.any (isT t))
  | [], ns, h, _ => by cases (Option.some.inj h); exact ⟨[], .nil, rfl⟩
  | .ty n :: r, ns, h, hn => by
    obtain ⟨ms, h1, rfl⟩ := Option.map_eq_some_iff.mp (show (tyList r).map (n :: ·) = some ns from h)
    obtain ⟨us, p, k⟩ := tyList_ok (K := K) ht h1 fun m hm => hn m (List.mem_cons_of_mem _ hm)
    refine ⟨.type n :: us, .cons (.ty n) p, kitAny_cons (kit_ty (isT_kit t ht n (hn n List.mem_cons_self))) (fun e => ?_) fun e => ?_⟩
    · rw [k, List.any_cons, e, Bool.false_or]
    · rw [List.any_cons, e, Bool.true_or]
  | .non :: _, _, h, _ | .bl _ :: _, _, h, _ | .int _ :: _, _, h, _ | .str _ :: _, _, h, _ | .byt _ :: _, _, h, _ | .flt _ :: _, _, h, _ | .ref _ :: _, _, h, _ => nomatch h
theorem call_isiTU : CallR X (.builtin "isinstance") rIsiTU := by
  intro pins s σ H xs us Q I r h
  obtain ⟨x, tp, cs, ns, t, e, hp, hl, ht, hn, q⟩ := h
  obtain ⟨h1, h2⟩ := tyName_ok (K := X.K) ht
  obtain ⟨ws, p, k⟩ := tyList_ok (K := X.K) h2 hl hn
  exact call_isiT pins s σ H xs us Q I r ⟨x, tp, cs, .type t, ws, _, e, hp, p, h1, k, q⟩
/-! ### methods that read another list -/
def rExtU (x : V) (vs : List V) (H : Hp) (Q : VK) : Prop := ∃ l b xs zs, x = .ref l ∧ vs = [.ref b] ∧ H l = some (.lst xs) ∧ H b = some (.lst zs) ∧ xs.length + zs.length ≤ sizeLine ∧ Q .non (upd H l (.lst (xs ++ zs)))
/-- '..'.join(list of texts) -/
def rJoinU (x : V) (vs : List V) (H : Hp) (Q : VK) : Prop := ∃ a p xs, x = .str a ∧ vs = [.ref p] ∧ lk (H p) = some (.lst xs) ∧ ∃ ys : List Str, xs = ys.map V.str ∧ (ys.map (·.length)).sum + ys.length * a.length ≤ 16777216 ∧ Q (.str (Txt.join a ys)) H
theorem mt_joinU : MtR X "str.join" rJoinU := by
  intro pins s σ H x xs v us Q I rx rv h
  obtain ⟨a, p, xs', e1, e2, hp, ys, rfl, hz, q⟩ := h
  exact mt_join pins s σ H x xs v us Q I rx rv ⟨a, p, ys, e1, e2, Or.inl (Or.inl (rd_lk hp)), hz, q⟩
end

/-! ### sum(d.values()) -/
section
variable {X : Cx} {o : Expr} {p pos apos mpos : Pos} {td : TE}
theorem preSum_getD (is : List Int) : ∀ n, n ≤ is.length → preSum (fun i => is.getD i 0) n = (is.take n).sum
  | 0, _ => by simp [preSum]
  | n + 1, h => by
    have hn : n < is.length := h
    rw [preSum, preSum_getD is n (Nat.le_of_lt hn), List.take_succ_eq_append_getElem hn, List.sum_append]
    simp [List.getD_eq_getElem?_getD, hn]
def tSumVals (td : TE) : TE := fun σ H Q => td σ H fun x H1 => ∃ a kvs, x = V.ref a ∧ H1 a = some (.dK kvs) ∧ ∃ is : List Int, kvs.map (·.2) = is.map V.int ∧ Q (.int is.sum) H1
theorem pe_sumVals (hc : X.calm = true) (hg : Gl X "sum") (hm : X.mg "sum" = none) (hd : PE X o td) (hbase : attributeBase o "values" X.env (eval o X.env) = eval o X.env := by rfl) (hline : (apos.endLine == mpos.line) = true := by rfl)
    (hse : starEach [Expr.Call (.Attribute o "values" apos) [] [] mpos] X.env = [(false, eval (Expr.Call (.Attribute o "values" apos) [] [] mpos) X.env)] := by rfl) :
    PE X (.Call (.Name "sum" p) [.Call (.Attribute o "values" apos) [] [] mpos] [] pos) (tSumVals td) := by
  refine ⟨fun pins s σ H Q I h => ?_⟩
  refine wpAny_Call_Name_kw (ld_blt I hg hm (u := .builtin "sum") (by first | rfl | decide +kernel) ?_ (by first | decide +kernel | decide) (by first | decide +kernel | decide))
  rw [hse]
  refine PySem.callWith_builtin1 (wpAny_Call_method0_late hbase hline (thn (hd.run pins s σ H _ I h) fun v s1 h1 => ?_))
  obtain ⟨x, H1, I1, r1, a, kvs, rfl, ha, is, hv, q⟩ := h1
  obtain rfl : v = Value.ref a := r1
  obtain ⟨_, hsys, vs, rel, dof⟩ := dk_of I1.hok ha
  obtain ⟨ep, dat⟩ := dof.dictAt
  obtain ⟨ob, es, ho, ex, hdat, hko, hpr, hnd⟩ := id dat
  refine ⟨"dict", "dict.values", F.plainAttrs_dict, F.slot_dict_values, F.type_dict_values, ⟨ob, ho, ex.1⟩, fun b e => ?_, Calls.callWith_builtin rfl (PySem.evalArgs_none ?_)⟩
  · cases e
    exact ⟨ob, ho, ex.2.1⟩
  refine call_meetsIn F.slot_dict_values ⟨ob, ho, ex.1⟩ F.entry_dict_values (F.args_dict_values_1 _) (meets_dict_values (mixKind X.prog X.w) a hsys) ⟨⟨vs, dof⟩, ?_⟩
  obtain ⟨vo, hvo⟩ : ∃ vo : Obj, vo = { cls := .type "dict_values", data := .fields #[.ref a] } := ⟨_, rfl⟩
  rw [← hvo]
  have old : ∀ b u, s1.heap.get? b = some u → (s1.heap.push vo).get? b = some u := fun b u e => Heap.get?_push_of_some _ e
  have hlv : vs.length = is.length := by
    have e1 := congrArg List.length hv
    rw [List.length_map, List.length_map] at e1
    exact (KV.length rel).symm.trans e1
  have hval : ∀ (i : Nat) (v : Value), (∃ k, vs[i]? = some (k, v)) → ∃ t, v = Value.int (is.getD i 0) t := by
    rintro i v ⟨k, hk⟩
    obtain ⟨x, h1, h2⟩ := KV.at' rel hk
    have e1 : (kvs.map (·.2))[i]? = some x := by rw [List.getElem?_map, h1]; rfl
    rw [hv, List.getElem?_map] at e1
    obtain ⟨j, hj, rfl⟩ := Option.map_eq_some_iff.mp e1
    obtain ⟨t, rfl⟩ := h2
    exact ⟨t, by rw [List.getD_eq_getElem?_getD, hj]; rfl⟩
  refine call_sum_walkG (wpAny_pyIter_values (v := s1.heap.objs.size) (d := a) ⟨vo, Heap.get?_push_size _ (by rw [hvo]; rfl), by rw [hvo], by rw [hvo]⟩ (dat.keep old) ?_)
  have lt : a < s1.heap.objs.size := Heap.lt_size ho
  have sz : (s1.heap.push vo).objs.size = s1.heap.objs.size + 1 := Heap.size_push _ _
  refine ⟨_, _, _, _, _, _, fun i => is.getD i 0, rfl, Walks.dictValues (knd := mixKind X.prog X.w) (A := X.A.in1) (I.ok.hd hc) (s1.heap.push vo).objs.size a (by rw [sz]; exact Nat.ne_of_lt (Nat.lt_succ_of_lt lt)) vs ep,
    ⟨⟨_, Heap.get?_push_size _ rfl, rfl, rfl⟩, (dat.keep old).keep fun b u e => Heap.get?_push_of_some _ e⟩, fun b hb => ?_, hval, fun h' tk t' hk => ?_⟩
  · show b < ((s1.heap.push vo).push _).objs.size
    rw [Heap.size_push, sz]
    rcases List.mem_cons.mp hb with e | hb
    · rw [e, sz]; exact Nat.lt_succ_self _
    · rw [List.mem_singleton.mp hb]; exact Nat.lt_succ_of_lt (Nat.lt_succ_of_lt lt)
  · refine ⟨.int _, H1, I1.kept (t' := tk) fun b u e => hk b u (fun hmem => ?_) (Heap.get?_push_of_some _ (old b u e)), ⟨t', rfl⟩, ?_⟩
    · have e1 : b = (s1.heap.push vo).objs.size := List.mem_singleton.mp hmem
      have e2 := Heap.lt_size e
      rw [e1, sz] at e2
      exact absurd e2 (Nat.not_lt.mpr (Nat.le_succ _))
    · rw [hlv, preSum_getD is _ (Nat.le_refl _), List.take_length]
      exact q
end
end G

set_option Elab.async false
set_option linter.all false
set_option maxRecDepth 100000
set_option maxHeartbeats 4000000
/-! Loops and comprehensions over a list of items known beforehand. -/
namespace G
open PySem PySem.Spec PyProof.Rows L2

/-! ### what runs, said of the run itself (so that what follows may be weakened) -/
def semE (X : Cx) (e : Expr) : TE := fun σ H Q => ∀ pins s, Inv X pins σ H s → wpAny (model X.prog X.w) X.A (eval e X.env) (EP X pins σ Q) X.xe s
def semI (X : Cx) (tg iter : Expr) : TI := fun σ H R => ∀ pins s, Inv X pins σ H s → wpAny (model X.prog X.w) X.A (eval iter X.env) (fun v s1 => wpAny (model X.prog X.w) X.A (pyIter v) (PIE X pins σ tg R) X.xe s1) X.xe s
def semG (X : Cx) (tg : Expr) : TG := fun x σ H Q => ∀ pins s u, Inv X pins σ H s → RelV x u → wpAny (model X.prog X.w) X.A (assign tg X.env u) (fun _ s' => ∃ σ' H', Inv X pins σ' H' s' ∧ Q σ' H') X.xe s
def semT (X : Cx) (ifs : List Expr) : TT := fun σ H Q => ∀ pins s, Inv X pins σ H s →
  wpAny (model X.prog X.w) X.A (forIn ifs true fun c r => if r = true then do let ok ← isTrue c X.env (eval c X.env); pure (ForInStep.yield ok) else pure (ForInStep.yield r)) (TP X pins σ Q) X.xe s
def semA (X : Cx) (es : List Expr) : TA := fun σ H Q => ∀ pos pins s, Inv X pins σ H s → wpAny (model X.prog X.w) X.A (spliced (backTo pos (starEach es X.env))) (AP X pins σ Q) X.xe s
section
variable {X : Cx} {e iter tg : Expr} {es ifs : List Expr} {σ : L2.St} {H : Hp}
theorem pa_sem : PA X es (semA X es) := ⟨fun pos pins s _ _ _ I h => h pos pins s I⟩
theorem semA.of {t : TA} {Q Q' : List V → Hp → Prop} (h : PA X es t) (q : t σ H Q) (k : ∀ v H', Q v H' → Q' v H') : semA X es σ H Q' := fun pos pins s I =>
  thn (h.run pos pins s σ H Q I q) fun _ _ ⟨v, H', I', r, q'⟩ => ⟨v, H', I', r, k v H' q'⟩
theorem pe_sem : PE X e (semE X e) := ⟨fun pins s _ _ _ I h => h pins s I⟩
theorem pi_sem : PI X tg iter (semI X tg iter) := ⟨fun pins s _ _ _ I h => h pins s I⟩
theorem pg_sem : PG X tg (semG X tg) := ⟨fun pins s _ _ _ u _ I r h => h pins s u I r⟩
theorem pts_sem : PTs X ifs (semT X ifs) := ⟨fun pins s _ _ _ I h => h pins s I⟩
theorem semE.of {t : TE} {Q Q' : VK} (h : PE X e t) (q : t σ H Q) (k : ∀ v H', Q v H' → Q' v H') : semE X e σ H Q' := fun pins s I =>
  thn (h.run pins s σ H Q I q) fun _ _ ⟨v, H', I', r, q'⟩ => ⟨v, H', I', r, k v H' q'⟩
theorem semI.of {t : TI} {R R' : It → Hp → Prop} (h : PI X tg iter t) (q : t σ H R) (k : ∀ J H', R J H' → R' J H') : semI X tg iter σ H R' := fun pins s I =>
  thn (h.run pins s σ H R I q) fun _ _ h1 => thn h1 fun _ _ ⟨it, fp, tn, J, H', e, I', T, st, f, q'⟩ => ⟨it, fp, tn, J, H', e, I', T, st, f, k J H' q'⟩
theorem semG.of {t : TG} {x : V} {Q Q' : L2.St → Hp → Prop} (h : PG X tg t) (q : t x σ H Q) (k : ∀ σ' H', Q σ' H' → Q' σ' H') : semG X tg x σ H Q' := fun pins s u I r =>
  thn (h.run pins s σ H x u Q I r q) fun _ _ ⟨σ', H', I', q'⟩ => ⟨σ', H', I', k σ' H' q'⟩
theorem semT.of {t : TT} {Q Q' : Bool → Hp → Prop} (h : PTs X ifs t) (q : t σ H Q) (k : ∀ b H', Q b H' → Q' b H') : semT X ifs σ H Q' := fun pins s I =>
  thn (h.run pins s σ H Q I q) fun _ _ ⟨H', I', q'⟩ => ⟨H', I', k _ H' q'⟩
end
/-- in a block, wherever it stands -/
abbrev Blks (X : Cx) (scope : Scope) (P : Cx → Prop) : Prop := ∀ (s : Shared) (H : Hp) (C : Addr) (cl : List (PySem.Str × Addr)) (fp : List Addr), P (X.blk s H scope (compEnvC scope cl C X.env) fp)
def bE (X : Cx) (scope : Scope) (e : Expr) : TE := fun σ H Q => Blks X scope fun B => semE B e σ H Q
def bG (X : Cx) (scope : Scope) (tg : Expr) : TG := fun x σ H Q => Blks X scope fun B => semG B tg x σ H Q
def bT (X : Cx) (scope : Scope) (ifs : List Expr) : TT := fun σ H Q => Blks X scope fun B => semT B ifs σ H Q
section
variable {X : Cx} {scope : Scope} {e tg : Expr} {ifs : List Expr} {σ : L2.St} {H : Hp}
theorem pe_b : Blks X scope fun B => PE B e (bE X scope e) := fun s0 H0 C cl fp => ⟨fun pins s _ _ _ I h => h s0 H0 C cl fp pins s I⟩
theorem pg_b : Blks X scope fun B => PG B tg (bG X scope tg) := fun s0 H0 C cl fp => ⟨fun pins s _ _ _ u _ I r h => h s0 H0 C cl fp pins s u I r⟩
theorem pts_b : Blks X scope fun B => PTs B ifs (bT X scope ifs) := fun s0 H0 C cl fp => ⟨fun pins s _ _ _ I h => h s0 H0 C cl fp pins s I⟩
theorem bE.of {t : TE} {Q Q' : VK} (h : Blks X scope fun B => PE B e t) (q : t σ H Q) (k : ∀ v H', Q v H' → Q' v H') : bE X scope e σ H Q' := fun s0 H0 C cl fp => semE.of (h s0 H0 C cl fp) q k
theorem bG.of {t : TG} {x : V} {Q Q' : L2.St → Hp → Prop} (h : Blks X scope fun B => PG B tg t) (q : t x σ H Q) (k : ∀ σ' H', Q σ' H' → Q' σ' H') : bG X scope tg x σ H Q' := fun s0 H0 C cl fp => semG.of (h s0 H0 C cl fp) q k
theorem bT.of {t : TT} {Q Q' : Bool → Hp → Prop} (h : Blks X scope fun B => PTs B ifs t) (q : t σ H Q) (k : ∀ b H', Q b H' → Q' b H') : bT X scope ifs σ H Q' := fun s0 H0 C cl fp => semT.of (h s0 H0 C cl fp) q k
end

/-! ### the items of a walk -/
/-- J walks zs, while Gd stands; at z it gives what R tells -/
structure WZ {α : Type} (J : It) (zs : List α) (Gd : Hp → Prop) (R : α → Hp → V → Hp → Prop) : Prop where
  walk : Walk J zs.length Gd (fun i H x H' => ∃ z, zs[i]? = some z ∧ R z H x H')
def RVal {α : Type} (f : α → V) : α → Hp → V → Hp → Prop := fun z H x H' => H' = H ∧ x = f z
def RTup {α : Type} (f : α → List V) : α → Hp → V → Hp → Prop := fun z H x H' => ∃ T, x = .ref T ∧ H T = none ∧ H' = upd H T (.tup (f z))
abbrev TIZ (α : Type) := L2.St → Hp → (List α → (Hp → Prop) → (α → Hp → V → Hp → Prop) → Hp → Prop) → Prop
def PIZ {α : Type} (X : Cx) (tg iter : Expr) (wz : TIZ α) : Prop := ∀ σ H k, wz σ H k → semI X tg iter σ H fun J H1 => ∃ zs Gd R, WZ J zs Gd R ∧ k zs Gd R H1
section
variable {X : Cx} {tg e : Expr} {te : TE}
def zList (te : TE) : TIZ V := fun σ H k => te σ H fun x H1 => ∃ a xs, x = .ref a ∧ lk (H1 a) = some (.lst xs) ∧ k xs (fun H => lk (H a) = some (.lst xs)) (RVal id) H1
theorem z_list (he : PE X e te) : PIZ X tg e (zList te) := fun σ H k h =>
  semI.of (pi_list pe_sem) (semE.of he h fun v H1 ⟨a, xs, ea, ha, q⟩ => (⟨a, ea, ⟨xs, Or.inl (rd_lk ha)⟩, xs, _, RVal id, ⟨walk_list.mono (fun H hh => Or.inl (rd_lk hh)) fun i H x H' _ _ y => ⟨x, y.2, y.1, rfl⟩⟩, q⟩ : ∃ a, v = .ref a ∧ (∃ xs, SqL X.K H1 a xs) ∧ ∃ zs Gd R, WZ (Itl X.K a) zs Gd R ∧ k zs Gd R H1)) fun _ _ q => q
def zTup (te : TE) : TIZ V := fun σ H k => te σ H fun x H1 => ∃ a xs, x = .ref a ∧ lk (H1 a) = some (.tup xs) ∧ k xs (fun H => lk (H a) = some (.tup xs)) (RVal id) H1
theorem z_tup (he : PE X e te) : PIZ X tg e (zTup te) := fun σ H k h =>
  semI.of (pi_tup pe_sem) (semE.of he h fun v H1 ⟨a, xs, ea, ha, q⟩ => (⟨a, ea, ⟨xs, Or.inl (rd_lk ha)⟩, xs, _, RVal id, ⟨walk_tup.mono (fun H hh => Or.inl (rd_lk hh)) fun i H x H' _ _ y => ⟨x, y.2, y.1, rfl⟩⟩, q⟩ : ∃ a, v = .ref a ∧ (∃ xs, SqT X.K H1 a xs) ∧ ∃ zs Gd R, WZ (Itt X.K a) zs Gd R ∧ k zs Gd R H1)) fun _ _ q => q
/-- the signs of a text -/
def sgn (c : Nat) : V := .str ⟨#[c]⟩
def zStr (te : TE) : TIZ Nat := fun σ H k => te σ H fun v H1 => ∃ x, v = .str x ∧ k x.cps.toList (fun _ => True) (RVal sgn) H1
theorem z_str (he : PE X e te) : PIZ X tg e (zStr te) := fun σ H k h =>
  semI.of (pi_str pe_sem) (semE.of he h fun v H1 ⟨x, ea, q⟩ => (⟨x, ea, x.cps.toList, _, RVal sgn, ⟨by
    have w := walk_str (z := x)
    rw [← Array.length_toList] at w
    exact w.mono (fun _ _ => True.intro) fun i H v H' _ _ ⟨e1, c, hc, e2⟩ => ⟨c, by simpa using hc, e1, e2⟩⟩, q⟩ : ∃ x, v = .str x ∧ ∃ zs Gd R, WZ (Its x) zs Gd R ∧ k zs Gd R H1)) fun _ _ q => q
def intsZ (lo hi : Int) : List Int := (List.range (hi - lo).toNat).map fun i => lo + (i : Nat)
theorem wz_ints (lo : Int) (n : Nat) : WZ (Itr lo n) ((List.range n).map fun i => lo + (i : Nat)) (fun _ => True) (RVal V.int) := ⟨by
  have w := walk_range (lo := lo) (n := n)
  rw [List.length_map, List.length_range]
  exact w.mono (fun _ _ => True.intro) fun i H v H' hi _ ⟨e1, e2⟩ => ⟨lo + (i : Nat), by simp [hi], e1, e2⟩⟩
theorem intsZ_zero (j : Int) : intsZ 0 j = (List.range j.toNat).map fun i => 0 + ((i : Nat) : Int) := by unfold intsZ; rw [Int.sub_zero]
def zRng1 (ta : TA) : TIZ Int := fun σ H k => ta σ H fun vs H1 => ∃ j : Int, vs = [.int j] ∧ -(2 ^ 62) ≤ j ∧ j < 2 ^ 62 ∧ k (intsZ 0 j) (fun _ => True) (RVal V.int) H1
theorem z_rng1 {a : Expr} {ta : TA} {p pos : Pos} (hg : Gl X "range") (hm : X.mg "range" = none) (ha : PA X [a] ta) (hs : starEach [a] X.env = [(false, eval a X.env)] := by rfl) : PIZ X tg (.Call (.Name "range" p) [a] [] pos) (zRng1 ta) := fun σ H k h =>
  semI.of (pi_range1 hg hm pa_sem hs) (semA.of ha h fun v H1 ⟨j, ea, h1, h2, q⟩ => (⟨j, ea, h1, h2, intsZ 0 j, _, RVal V.int, by rw [intsZ_zero]; exact wz_ints 0 j.toNat, q⟩ :
    ∃ j : Int, v = [.int j] ∧ -(2 ^ 62) ≤ j ∧ j < 2 ^ 62 ∧ ∃ zs Gd R, WZ (Itr 0 j.toNat) zs Gd R ∧ k zs Gd R H1)) fun _ _ q => q
def zRng2 (ta : TA) : TIZ Int := fun σ H k => ta σ H fun vs H2 => ∃ i j : Int, vs = [.int i, .int j] ∧ (-(2 ^ 62) ≤ i ∧ i < 2 ^ 62 ∧ -(2 ^ 62) ≤ j ∧ j < 2 ^ 62) ∧ k (intsZ i j) (fun _ => True) (RVal V.int) H2
theorem z_rng2 {a b : Expr} {ta : TA} {p pos : Pos} (hg : Gl X "range") (hm : X.mg "range" = none) (ha : PA X [a, b] ta) (hs : starEach [a, b] X.env = [(false, eval a X.env), (false, eval b X.env)] := by rfl)
    (hs2 : starEach [b] X.env = [(false, eval b X.env)] := by rfl) : PIZ X tg (.Call (.Name "range" p) [a, b] [] pos) (zRng2 ta) := fun σ H k h =>
  semI.of (pi_range2 hg hm pa_sem hs hs2) (semA.of ha h fun v H2 ⟨i, j, ea, hh, q⟩ => (⟨i, j, ea, hh, intsZ i j, _, RVal V.int, wz_ints i _, q⟩ :
    ∃ i j : Int, v = [.int i, .int j] ∧ (-(2 ^ 62) ≤ i ∧ i < 2 ^ 62 ∧ -(2 ^ 62) ≤ j ∧ j < 2 ^ 62) ∧ ∃ zs Gd R, WZ (Itr i (j - i).toNat) zs Gd R ∧ k zs Gd R H2)) fun _ _ q => q
/-- enumerate of a text -/
def zEnumS (ta : TA) : TIZ (Nat × Nat) := fun σ H k => ta σ H fun vs H1 => ∃ x, vs = [.str x] ∧ k x.cps.toList.zipIdx (fun _ => True) (RTup fun z => [.int (z.2 : Nat), sgn z.1]) H1
theorem wz_enumS (x : Str) : WZ (ItN x.cps.size (enumY x)) x.cps.toList.zipIdx (fun _ => True) (RTup fun z => [.int (z.2 : Nat), sgn z.1]) := ⟨by
  rw [List.length_zipIdx, Array.length_toList]
  refine ⟨fun i _ hi _ => hi, fun _ _ => Nat.le_refl _, fun i H v H' hi _ ⟨T, e1, h1, e2⟩ => ⟨(x.cps.getD i 0, i), ?_, T, e1, h1, e2⟩⟩
  simp [List.getElem?_zipIdx, hi]⟩
theorem z_enumS {elts : List Expr} {kk : Nat} {p pos tpos : Pos} (hg : Gl X "enumerate") (hm : X.mg "enumerate" = none) {ta : TA} (ha : PA X [e] ta) (hs : starEach [e] X.env = [(false, eval e X.env)] := by rfl) :
    PIZ X (.Tuple elts kk tpos) (.Call (.Name "enumerate" p) [e] [] pos) (zEnumS ta) := fun σ H k h =>
  semI.of (pi_enumS hg hm pa_sem hs) (semA.of ha h fun v H1 ⟨x, ea, q⟩ => (⟨x, ea, _, _, _, wz_enumS x, q⟩ : ∃ x : Str, v = [.str x] ∧ ∃ zs Gd R, WZ (ItN x.cps.size (enumY x)) zs Gd R ∧ k zs Gd R H1)) fun _ _ q => q
/-- enumerate of a list -/
def zEnumL (ta : TA) : TIZ (V × Nat) := fun σ H k => ta σ H fun vs H1 => ∃ a xs, vs = [.ref a] ∧ lk (H1 a) = some (.lst xs) ∧ k xs.zipIdx (fun H => lk (H a) = some (.lst xs)) (RTup fun z => [.int (z.2 : Nat), z.1]) H1
theorem wz_enumL {K : PySem.W.Frag} (a : Addr) (xs : List V) : WZ (Ite K a) xs.zipIdx (fun H => lk (H a) = some (.lst xs)) (RTup fun z => [.int (z.2 : Nat), z.1]) := ⟨by
  rw [List.length_zipIdx]
  refine walk_enum.mono (fun H hh => Or.inl (rd_lk hh)) fun i H v H' hi _ ⟨T, x, y, e1, h1, e2, hx, hy⟩ => ⟨(y, i), ?_, T, e1, h1, ?_⟩
  · simp [List.getElem?_zipIdx, hy]
  · cases hx; exact e2⟩
theorem z_enumL {elts : List Expr} {kk : Nat} {p pos tpos : Pos} (hg : Gl X "enumerate") (hm : X.mg "enumerate" = none) {ta : TA} (ha : PA X [e] ta) (hs : starEach [e] X.env = [(false, eval e X.env)] := by rfl) :
    PIZ X (.Tuple elts kk tpos) (.Call (.Name "enumerate" p) [e] [] pos) (zEnumL ta) := fun σ H k h =>
  semI.of (pi_enum hg hm pa_sem hs) (semA.of ha h fun v H1 ⟨a, xs, ea, ha, q⟩ => (⟨a, xs, ea, Or.inl (rd_lk ha), _, _, _, wz_enumL a xs, q⟩ : ∃ a xs, v = [.ref a] ∧ SqL X.K H1 a xs ∧ ∃ zs Gd R, WZ (Ite X.K a) zs Gd R ∧ k zs Gd R H1)) fun _ _ q => q
/-- a dict that stands frozen: its keys, its values, both -/
def FrzD (H : Hp) (d : Addr) (kvs : List (Key × V)) : Prop := ∃ o, H d = some (.frz o (.dK kvs))
def zKeys (te : TE) : TIZ (Key × V) := fun σ H k => te σ H fun v H1 => ∃ d o kvs, v = .ref d ∧ H1 d = some (.frz o (.dK kvs)) ∧ k kvs (fun H => H d = some (.frz o (.dK kvs))) (RVal fun kv => kV kv.1) H1
theorem z_keys (he : PE X e te) : PIZ X tg e (zKeys te) := fun σ H k h =>
  semI.of (pi_keys pe_sem) (semE.of he h fun v H1 ⟨d, o, kvs, ea, ha, q⟩ => (⟨d, o, ea, Or.inl ⟨kvs, ha, kvs, _, _, ⟨walk_keys.mono (fun _ hh => hh) fun i H x H' _ _ ⟨e1, k, v, h1, e2⟩ => ⟨(k, v), h1, e1, e2⟩⟩, q⟩⟩ :
    ∃ d o, v = .ref d ∧ ((∃ kvs, H1 d = some (.frz o (.dK kvs)) ∧ ∃ zs Gd R, WZ (Itk d o kvs) zs Gd R ∧ k zs Gd R H1) ∨ ∃ kvs, H1 d = some (.frz o (.dT kvs)) ∧ ∃ zs Gd R, WZ (Itkt d o kvs) zs Gd R ∧ k zs Gd R H1))) fun _ _ q => q
def zVals (te : TE) : TIZ (Key × V) := fun σ H k => te σ H fun v H1 => ∃ d o kvs, v = .ref d ∧ H1 d = some (.frz o (.dK kvs)) ∧ k kvs (fun H => H d = some (.frz o (.dK kvs))) (RVal fun kv => kv.2) H1
theorem z_vals {apos cpos : Pos} (he : PE X e te) (hbase : attributeBase e "values" X.env (eval e X.env) = eval e X.env := by rfl) (hline : (apos.endLine == cpos.line) = true := by rfl) :
    PIZ X tg (.Call (.Attribute e "values" apos) [] [] cpos) (zVals te) := fun σ H k h =>
  semI.of (pi_values pe_sem hbase hline) (semE.of he h fun v H1 ⟨d, o, kvs, ea, ha, q⟩ => (⟨d, o, kvs, ea, ha, kvs, _, _, ⟨walk_values.mono (fun _ hh => hh) fun i H x H' _ _ ⟨e1, k, h1⟩ => ⟨(k, x), h1, e1, rfl⟩⟩, q⟩ :
    ∃ d o kvs, v = .ref d ∧ H1 d = some (.frz o (.dK kvs)) ∧ ∃ zs Gd R, WZ (Itd d o kvs) zs Gd R ∧ k zs Gd R H1)) fun _ _ q => q
def zItems (te : TE) : TIZ (Key × V) := fun σ H k => te σ H fun v H1 => ∃ d o kvs, v = .ref d ∧ H1 d = some (.frz o (.dK kvs)) ∧ k kvs (fun H => H d = some (.frz o (.dK kvs))) (RTup fun kv => [kV kv.1, kv.2]) H1
theorem z_items {elts : List Expr} {kk : Nat} {apos cpos tpos : Pos} (he : PE X e te) (hbase : attributeBase e "items" X.env (eval e X.env) = eval e X.env := by rfl) (hline : (apos.endLine == cpos.line) = true := by rfl) :
    PIZ X (.Tuple elts kk tpos) (.Call (.Attribute e "items" apos) [] [] cpos) (zItems te) := fun σ H k h =>
  semI.of (pi_items pe_sem hbase hline) (semE.of he h fun v H1 ⟨d, o, kvs, ea, ha, q⟩ => (⟨d, o, kvs, ea, ha, kvs, _, _, ⟨walk_items.mono (fun _ hh => hh) fun i H x H' hi _ ⟨T, a, b, e1, h1, e2, ha, hb⟩ => by
      have hk : kvs[i]? = some kvs[i] := by simp [hi]
      have ea : some (kV kvs[i].1) = some a := by rw [← ha]; simp [hk]
      have eb : some kvs[i].2 = some b := by rw [← hb]; simp [hk]
      cases (Option.some.inj ea)
      cases (Option.some.inj eb)
      exact ⟨kvs[i], hk, T, e1, h1, e2⟩⟩, q⟩ :
    ∃ d o kvs, v = .ref d ∧ H1 d = some (.frz o (.dK kvs)) ∧ ∃ zs Gd R, WZ (Iti d o kvs) zs Gd R ∧ k zs Gd R H1)) fun _ _ q => q
end

theorem split_at {α : Type} {zs : List α} {i : Nat} {z : α} (h : zs[i]? = some z) : zs = zs.take i ++ z :: zs.drop (i + 1) := by
  have hi : i < zs.length := (List.getElem?_eq_some_iff.mp h).1
  have e : zs[i] = z := (List.getElem?_eq_some_iff.mp h).2
  rw [← e, ← List.drop_eq_getElem_cons hi, List.take_append_drop]
theorem take_at {α : Type} {zs : List α} {i : Nat} {z : α} (h : zs[i]? = some z) : zs.take (i + 1) = zs.take i ++ [z] := by
  rw [List.take_succ, h]
  rfl

/-! ### for -/
/-- Pv: what stands before each turn, by the items behind and the items ahead -/
def LoopZ {α : Type} (zs : List α) (Gd : Hp → Prop) (R : α → Hp → V → Hp → Prop) (g : TG) (tb : TS) : TS := fun D σ H => ∃ Pv : List α → List α → L2.St → Hp → Prop,
  Pv [] zs σ H ∧ (∀ done rest σ H, done ++ rest = zs → Pv done rest σ H → Gd H) ∧
  (∀ done z rest σ H x H', done ++ z :: rest = zs → Pv done (z :: rest) σ H → R z H x H' → g x σ H' fun σ2 H2 => tb { D with nx := Pv (done ++ [z]) rest, ct := Pv (done ++ [z]) rest, bk := D.nx } σ2 H2) ∧
  ∀ σ H, Pv zs [] σ H → D.nx σ H
def tForZ {α : Type} (wz : TIZ α) (g : TG) (tb : TS) : TS := fun D σ H => wz σ H fun zs Gd R H1 => LoopZ zs Gd R g tb D σ H1
section
variable {X : Cx}
theorem ps_forZ {α : Type} {tg iter : Expr} {body : List Stmt} {wz : TIZ α} {g : TG} {tb : TS} {pos : Pos} (hp : PassesOwn (model X.prog X.w) X.A X.env X.xe) (hc : X.calm = true) (hi : PIZ X tg iter wz) (hg : PG X tg g) (hb : PSs X body tb)
    (hs : ∀ x, foldedSetIterable iter X.env x = pure x := by intro _; rfl) : PS X (.For tg iter body [] pos) (tForZ wz g tb) := by
  refine ⟨fun pins s σ H D I h => (ps_for hp hc pi_sem hg hb hs).run pins s σ H D I ?_⟩
  have h1 := hi σ H _ h
  refine semI.of pi_sem h1 fun J H1 ⟨zs, Gd, R, W, Pv, p0, hG, hstep, hend⟩ => ?_
  refine for_it W.walk (fun i σ H => Pv (zs.take i) (zs.drop i) σ H) (by simpa using p0) (fun i σ H hi p => hG _ _ σ H (List.take_append_drop i zs) p) ?_ ?_
  · intro i x σ H H' hi p hy
    obtain ⟨z, hz, r⟩ := hy
    have e := split_at hz
    have p' : Pv (zs.take i) (z :: zs.drop (i + 1)) σ H := by
      have e2 : zs.drop i = z :: zs.drop (i + 1) := by
        have hlt : i < zs.length := (List.getElem?_eq_some_iff.mp hz).1
        rw [List.drop_eq_getElem_cons hlt, (List.getElem?_eq_some_iff.mp hz).2]
      rw [← e2]; exact p
    have q := hstep (zs.take i) z (zs.drop (i + 1)) σ H x H' e.symm p' r
    show g x σ H' fun σ2 H2 => tb { D with nx := fun σ H => Pv (zs.take (i + 1)) (zs.drop (i + 1)) σ H, ct := fun σ H => Pv (zs.take (i + 1)) (zs.drop (i + 1)) σ H, bk := D.nx } σ2 H2
    rw [take_at hz]
    exact q
  · intro σ H p
    exact hend σ H (by simpa using p)

/-! ### comprehensions whose block changes nothing -/
theorem sub_upd {H1 H : Hp} {D : Addr} {o : HO} (s : Sub H1 H) (h : H1 D = none) : Sub H1 (upd H D o) := fun a ha => by
  rw [upd_ne fun e => ha (by rw [e]; exact h)]
  exact s a ha
/-- what was known but at D is kept -/
abbrev SubX (D : Addr) (H H' : Hp) : Prop := ∀ a, a ≠ D → H a ≠ none → H' a = H a
theorem pair_filter {α : Type} {c : α → Bool} {zs : List α} {i : Nat} {z : α} (hz : zs[i]? = some z) : (zs.take (i + 1)).filter c = (zs.take i).filter c ++ if c z = true then [z] else [] := by
  rw [take_at hz, List.filter_append]
  by_cases h : c z = true
  · rw [List.filter_cons_of_pos h, if_pos h]; rfl
  · rw [List.filter_cons_of_neg h, if_neg h]; rfl
/-- c: which items are taken; Pz: what their values are; D the new object -/
def CompZ {α : Type} (zs : List α) (Gd : Hp → Prop) (R : α → Hp → V → Hp → Prop) (g : TG) (tt : TT) (te : TE) (vs : List Nat) (σ : L2.St) (H1 : Hp) (D : Addr) (c : α → Bool) (Pz : α → V → Hp → Prop) : Prop :=
  zs.length ≤ 16777216 ∧ (∀ H', Sub H1 H' → Gd H') ∧ (∀ z v H H', SubX D H H' → Pz z v H → Pz z v H') ∧
  ∀ z ∈ zs, ∀ H x H', Sub H1 H → H D ≠ none → R z H x H' → g x (wipe σ vs) H' fun σ2 H2 => wipe σ2 vs = wipe σ vs ∧ tt σ2 H2 fun b H3 => b = c z ∧ if c z = true then te σ2 H3 fun y H4 => Sub H H4 ∧ Pz z y H4 else Sub H H3
def LcZ {α : Type} (zs : List α) (Gd : Hp → Prop) (R : α → Hp → V → Hp → Prop) (g : TG) (tt : TT) (te : TE) (vs : List Nat) (σ : L2.St) (H1 : Hp) (Q : VK) : Prop := ∀ D, H1 D = none → ∃ (c : α → Bool) (Pz : α → V → Hp → Prop), CompZ zs Gd R g tt te vs σ H1 D c Pz ∧
  ∀ ys H', Sub H1 H' → H' D = some (.lst ys) → Paired (fun z y => Pz z y H') (zs.filter c) ys → Q (.ref D) H'
def tLcZ {α : Type} (wz : TIZ α) (g : TG) (tt : TT) (te : TE) (vs : List Nat) : TE := fun σ H Q => wz σ H fun zs Gd R H1 => LcZ zs Gd R g tt te vs σ H1 Q
theorem lcZ_out {α : Type} {elt tg iter : Expr} {ifs : List Expr} {scope : Scope} {vs : List Nat} {wz : TIZ α} {g : TG} {tt : TT} {te : TE} {σ : L2.St} {H : Hp} {Q : VK} (hi : PIZ X tg iter wz)
    (hg : Blks X scope fun B => PG B tg g) (ht : Blks X scope fun B => PTs B ifs tt) (he : Blks X scope fun B => PE B elt te) (h : tLcZ wz g tt te vs σ H Q) :
    tLc (semI X tg iter) (bG X scope tg) (bT X scope ifs) (bE X scope elt) vs σ H Q := by
  refine semI.of pi_sem (hi σ H _ h) fun J H1 ⟨zs, Gd, R, W, hall⟩ => ?_
  intro D hD
  obtain ⟨c, Pz, ⟨hz, hG, hP, hel⟩, hend⟩ := hall D hD
  refine lc_it W.walk (fun i H => Sub H1 H ∧ ∃ ys, H D = some (.lst ys) ∧ ys.length ≤ i ∧ Paired (fun z y => Pz z y H) ((zs.take i).filter c) ys) ⟨Sub.new hD, [], upd_same, Nat.le_refl _, by simpa using Paired.nil⟩ (fun i H _ p => hG H p.1) ?_ ?_
  · rintro i x H H' hi ⟨s1, ys, hy, hl, pp⟩ ⟨z, hzi, r⟩
    have hm : z ∈ zs := List.mem_of_getElem? hzi
    refine bG.of hg (hel z hm H x H' s1 (by rw [hy]; exact nofun) r) fun σ2 H2 ⟨hw, q⟩ => ⟨hw, bT.of ht q fun b H3 ⟨eb, q3⟩ => ?_⟩
    subst eb
    have pf := pair_filter (c := c) hzi
    by_cases hcz : c z = true
    · rw [if_pos hcz] at q3 pf ⊢
      refine bE.of he q3 fun y H4 ⟨s4, p4⟩ => ⟨ys, s4.get hy, by rw [sizeLine_eq]; omega, ?_⟩
      refine ⟨sub_upd (s1.trans s4) hD, ys ++ [y], upd_same, by rw [List.length_append]; simp; omega, ?_⟩
      rw [pf]
      have sx : SubX D H4 (upd H4 D (.lst (ys ++ [y]))) := fun a ha _ => upd_ne ha
      refine Paired.snoc (Paired.mapP pp fun a b p => hP a b _ _ ?_ p) (hP z y _ _ sx p4)
      intro a ha hn
      rw [upd_ne ha]
      exact s4 a hn
    · rw [if_neg hcz] at q3 pf ⊢
      refine ⟨s1.trans q3, ys, q3.get hy, by omega, ?_⟩
      rw [pf, List.append_nil]
      exact Paired.mapP pp fun a b p => hP a b _ _ (fun x _ hn => q3 x hn) p
  · rintro H ⟨s1, ys, hy, _, pp⟩
    rw [List.take_length] at pp
    exact hend ys H s1 hy pp
theorem pe_lcZ {α : Type} {elt tg iter : Expr} {ifs : List Expr} {scope : Scope} {own : List (PySem.Str × Nat)} {pos : Pos} {wz : TIZ α} {g : TG} {tt : TT} {te : TE} (hc : X.calm = true) (hN : X.N.Nodup) (hi : PIZ X tg iter wz) (ok : BlkOk X.N X.env.scope scope own)
    (hg : Blks X scope fun B => PG B tg g) (ht : Blks X scope fun B => PTs B ifs tt) (he : Blks X scope fun B => PE B elt te) (hs : ∀ x, foldedSetIterable iter X.env x = pure x := by intro _; rfl) :
    PE X (.ListComp elt [⟨tg, iter, ifs, 0⟩] scope pos) (tLcZ wz g tt te (own.map (·.2))) :=
  ⟨fun pins s σ H Q I h => (pe_lc hc hN pi_sem ok pg_b pts_b pe_b hs).run pins s σ H Q I (lcZ_out hi hg ht he h)⟩
/-- the values are known outright -/
theorem paired_map {α : Type} {f : α → V} : ∀ {l : List α} {ys : List V}, Paired (fun z y => y = f z) l ys → ys = l.map f
  | _, _, .nil => rfl
  | _, _, .cons h t => by rw [List.map_cons, h, paired_map t]
theorem lc_val {α : Type} {zs : List α} {Gd : Hp → Prop} {R : α → Hp → V → Hp → Prop} {g : TG} {tt : TT} {te : TE} {vs : List Nat} {σ : L2.St} {H1 : Hp} {Q : VK} (c : α → Bool) (f : α → V) (hz : zs.length ≤ 16777216) (hG : ∀ H', Sub H1 H' → Gd H')
    (hel : ∀ z ∈ zs, ∀ H x H', Sub H1 H → R z H x H' → g x (wipe σ vs) H' fun σ2 H2 => wipe σ2 vs = wipe σ vs ∧ tt σ2 H2 fun b H3 => b = c z ∧ if c z = true then te σ2 H3 fun y H4 => Sub H H4 ∧ y = f z else Sub H H3)
    (hend : ∀ D H', H1 D = none → Sub H1 H' → H' D = some (.lst ((zs.filter c).map f)) → Q (.ref D) H') :
    ∀ D, H1 D = none → ∃ (c : α → Bool) (Pz : α → V → Hp → Prop), CompZ zs Gd R g tt te vs σ H1 D c Pz ∧ ∀ ys H', Sub H1 H' → H' D = some (.lst ys) → Paired (fun z y => Pz z y H') (zs.filter c) ys → Q (.ref D) H' := fun D hD =>
  ⟨c, fun z y _ => y = f z, ⟨hz, hG, fun _ _ _ _ _ h => h, fun z hm H x H' s _ r => hel z hm H x H' s r⟩, fun ys H' s hy pp => hend D H' hD s (by rw [hy, paired_map pp])⟩

/-! ### dict comprehensions: keys and values known outright -/
def DcV {α : Type} (zs : List α) (Gd : Hp → Prop) (R : α → Hp → V → Hp → Prop) (g : TG) (tt : TT) (tk tv : TE) (vs : List Nat) (σ : L2.St) (H1 : Hp) (Q : VK) : Prop := ∃ (c : α → Bool) (k : α → Key) (f : α → V), (zs.length ≤ 16777216 ∧ (∀ H', Sub H1 H' → Gd H') ∧
    ∀ z ∈ zs, ∀ H x H', Sub H1 H → R z H x H' → g x (wipe σ vs) H' fun σ2 H2 => wipe σ2 vs = wipe σ vs ∧ tt σ2 H2 fun b H3 => b = c z ∧ if c z = true then tk σ2 H3 fun y H4 => tv σ2 H4 fun v H5 => Sub H H5 ∧ y = kV (k z) ∧ v = f z else Sub H H3) ∧
  ∀ D H', H1 D = none → Sub H1 H' → H' D = some (.dK (mergeK [] ((zs.filter c).map fun z => (k z, f z)))) → Q (.ref D) H'
def tDcZ {α : Type} (wz : TIZ α) (g : TG) (tt : TT) (tk tv : TE) (vs : List Nat) : TE := fun σ H Q => wz σ H fun zs Gd R H1 => DcV zs Gd R g tt tk tv vs σ H1 Q
theorem dcv {α : Type} {zs : List α} {Gd : Hp → Prop} {R : α → Hp → V → Hp → Prop} {g : TG} {tt : TT} {tk tv : TE} {vs : List Nat} {σ : L2.St} {H1 : Hp} {Q : VK} (c : α → Bool) (k : α → Key) (f : α → V) (hz : zs.length ≤ 16777216) (hG : ∀ H', Sub H1 H' → Gd H')
    (hel : ∀ z ∈ zs, ∀ H x H', Sub H1 H → R z H x H' → g x (wipe σ vs) H' fun σ2 H2 => wipe σ2 vs = wipe σ vs ∧ tt σ2 H2 fun b H3 => b = c z ∧ if c z = true then tk σ2 H3 fun y H4 => tv σ2 H4 fun v H5 => Sub H H5 ∧ y = kV (k z) ∧ v = f z else Sub H H3)
    (hend : ∀ D H', H1 D = none → Sub H1 H' → H' D = some (.dK (mergeK [] ((zs.filter c).map fun z => (k z, f z)))) → Q (.ref D) H') : DcV zs Gd R g tt tk tv vs σ H1 Q := ⟨c, k, f, ⟨hz, hG, hel⟩, hend⟩
theorem mergeK_snoc {l : List (Key × V)} {m : List (Key × V)} {k : Key} {v : V} : mergeK l (m ++ [(k, v)]) = putK (mergeK l m) k v := by
  unfold mergeK
  rw [List.foldl_append]
  rfl
theorem dc_it {J : It} {n : Nat} {G : Hp → Prop} {Y : Nat → Hp → V → Hp → Prop} (w : Walk J n G Y) {g : TG} {tt : TT} {tk tv : TE} {vs : List Nat} {σ : L2.St} {H1 : Hp} {D : Addr} {Qd : Hp → Prop} (Pv : Nat → Hp → Prop) (h0 : Pv 0 (upd H1 D (.dK []))) (hG : ∀ i H, i ≤ n → Pv i H → G H)
    (hs : ∀ i x H H', i < n → Pv i H → Y i H x H' → g x (wipe σ vs) H' fun σ2 H2 => wipe σ2 vs = wipe σ vs ∧ tt σ2 H2 fun b H3 =>
      if b = true then tk σ2 H3 fun y H4 => tv σ2 H4 fun z H5 => ∃ kvs k, y = kV k ∧ H5 D = some (.dK kvs) ∧ kvs.length < sizeLine ∧ Pv (i + 1) (upd H5 D (.dK (putK kvs k z))) else Pv (i + 1) H3) (hd : ∀ H, Pv n H → Qd H) :
    ∃ W : Nat → Nat → Hp → Prop, (∃ m, W 0 m (upd H1 D (.dK []))) ∧ ∀ i m H, W i m H →
      (J.stop i H ∧ Qd H) ∨ (J.go i H ∧ ∃ Nx : Hp → Prop, (∀ H', Nx H' → ∃ m', m' < m ∧ W (i + 1) m' H') ∧ ∀ x H', J.yld i H x H' → g x (wipe σ vs) H' fun σ2 H2 => wipe σ2 vs = wipe σ vs ∧ tt σ2 H2 fun b H3 =>
        if b = true then tk σ2 H3 fun y H4 => tv σ2 H4 fun z H5 => ∃ kvs k, y = kV k ∧ H5 D = some (.dK kvs) ∧ kvs.length < sizeLine ∧ Nx (upd H5 D (.dK (putK kvs k z))) else Nx H3) := by
  refine ⟨fun i m H => m = n - i ∧ i ≤ n ∧ Pv i H, ⟨n, by simp, Nat.zero_le _, h0⟩, ?_⟩
  intro i m H hh
  obtain ⟨rfl, hi, p⟩ := hh
  by_cases hlt : i < n
  · exact Or.inr ⟨w.goes i H hlt (hG i H hi p), Pv (i + 1), fun H' p' => ⟨n - (i + 1), by omega, rfl, hlt, p'⟩, fun x H' y => hs i x H H' hlt p (w.yields i H x H' hlt (hG i H hi p) y)⟩
  · obtain rfl : i = n := by omega
    exact Or.inl ⟨w.stops H (hG i H hi p), hd H p⟩
theorem pe_dcZ {α : Type} {kx vx tg iter : Expr} {ifs : List Expr} {scope : Scope} {own : List (PySem.Str × Nat)} {pos : Pos} {wz : TIZ α} {g : TG} {tt : TT} {tk tv : TE} (hc : X.calm = true) (hN : X.N.Nodup) (hi : PIZ X tg iter wz) (ok : BlkOk X.N X.env.scope scope own)
    (hg : Blks X scope fun B => PG B tg g) (ht : Blks X scope fun B => PTs B ifs tt) (hk : Blks X scope fun B => PE B kx tk) (he : Blks X scope fun B => PE B vx tv) (hs : ∀ x, foldedSetIterable iter X.env x = pure x := by intro _; rfl) :
    PE X (.DictComp kx vx [⟨tg, iter, ifs, 0⟩] scope pos) (tDcZ wz g tt tk tv (own.map (·.2))) := by
  refine ⟨fun pins s σ H Q I h => (pe_dc hc hN pi_sem ok pg_b pts_b pe_b pe_b hs).run pins s σ H Q I ?_⟩
  refine semI.of pi_sem (hi σ H _ h) fun J H1 ⟨zs, Gd, R, W, c, k, f, ⟨hz, hG, hel⟩, hend⟩ => ?_
  intro D hD
  refine dc_it W.walk (fun i H => Sub H1 H ∧ H D = some (.dK (mergeK [] (((zs.take i).filter c).map fun z => (k z, f z)))) ∧ (mergeK [] (((zs.take i).filter c).map fun z => (k z, f z))).length ≤ i) ⟨Sub.new hD, upd_same, Nat.le_refl _⟩ (fun i H _ p => hG H p.1) ?_ ?_
  · rintro i x H H' hi ⟨s1, hy, hl⟩ ⟨z, hzi, r⟩
    have hm : z ∈ zs := List.mem_of_getElem? hzi
    refine bG.of hg (hel z hm H x H' s1 r) fun σ2 H2 ⟨hw, q⟩ => ⟨hw, bT.of ht q fun b H3 ⟨eb, q3⟩ => ?_⟩
    subst eb
    have pf := pair_filter (c := c) hzi
    by_cases hcz : c z = true
    · rw [if_pos hcz] at q3 pf ⊢
      refine bE.of hk q3 fun y H4 q4 => bE.of he q4 fun v H5 ⟨s5, ey, ev⟩ => ⟨_, k z, ey, s5.get hy, by rw [sizeLine_eq]; omega, ?_⟩
      subst ev
      have e : mergeK [] (((zs.take (i + 1)).filter c).map fun z => (k z, f z)) = putK (mergeK [] (((zs.take i).filter c).map fun z => (k z, f z))) (k z) (f z) := by
        rw [pf, List.map_append]
        exact mergeK_snoc
      refine ⟨sub_upd (s1.trans s5) hD, by rw [e]; exact upd_same, ?_⟩
      rw [e]
      have := length_putK (mergeK [] (((zs.take i).filter c).map fun z => (k z, f z))) (k z) (f z)
      omega
    · rw [if_neg hcz] at q3 pf ⊢
      rw [pf, List.append_nil]
      exact ⟨s1.trans q3, q3.get hy, by omega⟩
  · rintro H ⟨s1, hy, _⟩
    rw [List.take_length] at hy
    exact hend D H hD s1 hy

/-! ### set comprehensions: the members known outright -/
def ScV {α : Type} (P : Program) (w : World) (zs : List α) (Gd : Hp → Prop) (R : α → Hp → V → Hp → Prop) (g : TG) (tt : TT) (te : TE) (vs : List Nat) (σ : L2.St) (H1 : Hp) (Q : VK) : Prop := ∃ (c : α → Bool) (k : α → Key), (zs.length < 4000 ∧ (∀ H', Sub H1 H' → Gd H') ∧
    ∀ z ∈ zs, ∀ H x H', Sub H1 H → R z H x H' → g x (wipe σ vs) H' fun σ2 H2 => wipe σ2 vs = wipe σ vs ∧ tt σ2 H2 fun b H3 => b = c z ∧ if c z = true then te σ2 H3 fun y H4 => Sub H H4 ∧ y = kV (k z) else Sub H H3) ∧
  ∀ D H' S n, H1 D = none → Sub H1 H' → H' D = some (SetK P w D S n) → (∀ j, S j = true ↔ j ∈ (zs.filter c).map k) → (n = ((zs.filter c).map k).length ↔ ((zs.filter c).map k).Nodup) → Q (.ref D) H'
def tScZ {α : Type} (P : Program) (w : World) (wz : TIZ α) (g : TG) (tt : TT) (te : TE) (vs : List Nat) : TE := fun σ H Q => wz σ H fun zs Gd R H1 => ScV P w zs Gd R g tt te vs σ H1 Q
theorem scv {α : Type} {P : Program} {w : World} {zs : List α} {Gd : Hp → Prop} {R : α → Hp → V → Hp → Prop} {g : TG} {tt : TT} {te : TE} {vs : List Nat} {σ : L2.St} {H1 : Hp} {Q : VK} (c : α → Bool) (k : α → Key) (hz : zs.length < 4000) (hG : ∀ H', Sub H1 H' → Gd H')
    (hel : ∀ z ∈ zs, ∀ H x H', Sub H1 H → R z H x H' → g x (wipe σ vs) H' fun σ2 H2 => wipe σ2 vs = wipe σ vs ∧ tt σ2 H2 fun b H3 => b = c z ∧ if c z = true then te σ2 H3 fun y H4 => Sub H H4 ∧ y = kV (k z) else Sub H H3)
    (hend : ∀ D H' S n, H1 D = none → Sub H1 H' → H' D = some (SetK P w D S n) → (∀ j, S j = true ↔ j ∈ (zs.filter c).map k) → (n = ((zs.filter c).map k).length ↔ ((zs.filter c).map k).Nodup) → Q (.ref D) H') : ScV P w zs Gd R g tt te vs σ H1 Q := ⟨c, k, ⟨hz, hG, hel⟩, hend⟩
theorem sc_it {P : Program} {w : World} {J : It} {n : Nat} {G : Hp → Prop} {Y : Nat → Hp → V → Hp → Prop} (wk : Walk J n G Y) {g : TG} {tt : TT} {te : TE} {vs : List Nat} {σ : L2.St} {H1 : Hp} {D : Addr} {Qd : Hp → Prop} (Pv : Nat → Hp → Prop) (h0 : Pv 0 (upd H1 D (SetK P w D (fun _ => false) 0))) (hG : ∀ i H, i ≤ n → Pv i H → G H)
    (hs : ∀ i x H H', i < n → Pv i H → Y i H x H' → g x (wipe σ vs) H' fun σ2 H2 => wipe σ2 vs = wipe σ vs ∧ tt σ2 H2 fun b H3 =>
      if b = true then te σ2 H3 fun y H4 => ∃ (k : Key) (S : Key → Bool) (m : Nat), y = kV k ∧ H4 D = some (SetK P w D S m) ∧ m + 1 < scanBound ∧ Pv (i + 1) (upd H4 D (SetK P w D (fun j => S j || decide (j = k)) (if S k = true then m else m + 1))) else Pv (i + 1) H3) (hd : ∀ H, Pv n H → Qd H) :
    ∃ W : Nat → Nat → Hp → Prop, (∃ m, W 0 m (upd H1 D (SetK P w D (fun _ => false) 0))) ∧ ∀ i m H, W i m H →
      (J.stop i H ∧ Qd H) ∨ (J.go i H ∧ ∃ Nx : Hp → Prop, (∀ H', Nx H' → ∃ m', m' < m ∧ W (i + 1) m' H') ∧ ∀ x H', J.yld i H x H' → g x (wipe σ vs) H' fun σ2 H2 => wipe σ2 vs = wipe σ vs ∧ tt σ2 H2 fun b H3 => if b = true then
        te σ2 H3 fun y H4 => ∃ (k : Key) (S : Key → Bool) (n : Nat), y = kV k ∧ H4 D = some (SetK P w D S n) ∧ n + 1 < scanBound ∧ Nx (upd H4 D (SetK P w D (fun j => S j || decide (j = k)) (if S k = true then n else n + 1))) else Nx H3) := by
  refine ⟨fun i m H => m = n - i ∧ i ≤ n ∧ Pv i H, ⟨n, by simp, Nat.zero_le _, h0⟩, ?_⟩
  intro i m H hh
  obtain ⟨rfl, hi, p⟩ := hh
  by_cases hlt : i < n
  · exact Or.inr ⟨wk.goes i H hlt (hG i H hi p), Pv (i + 1), fun H' p' => ⟨n - (i + 1), by omega, rfl, hlt, p'⟩, fun x H' y => hs i x H H' hlt p (wk.yields i H x H' hlt (hG i H hi p) y)⟩
  · obtain rfl : i = n := by omega
    exact Or.inl ⟨wk.stops H (hG i H hi p), hd H p⟩
theorem nodup_snoc {α : Type} {l : List α} {x : α} : (l ++ [x]).Nodup ↔ l.Nodup ∧ x ∉ l := by
  rw [List.nodup_append]
  constructor
  · rintro ⟨h1, _, h3⟩
    exact ⟨h1, fun hx => h3 x hx x List.mem_cons_self rfl⟩
  · rintro ⟨h1, h2⟩
    refine ⟨h1, by simp, fun a ha b hb => ?_⟩
    rw [List.mem_singleton.mp hb]
    intro e
    exact h2 (e ▸ ha)
theorem pe_scZ {α : Type} {elt tg iter : Expr} {ifs : List Expr} {scope : Scope} {own : List (PySem.Str × Nat)} {pos : Pos} {wz : TIZ α} {g : TG} {tt : TT} {te : TE} (hc : X.calm = true) (hN : X.N.Nodup) (hi : PIZ X tg iter wz) (ok : BlkOk X.N X.env.scope scope own)
    (hg : Blks X scope fun B => PG B tg g) (ht : Blks X scope fun B => PTs B ifs tt) (he : Blks X scope fun B => PE B elt te) (hs : ∀ x, foldedSetIterable iter X.env x = pure x := by intro _; rfl) :
    PE X (.SetComp elt [⟨tg, iter, ifs, 0⟩] scope pos) (tScZ X.prog X.w wz g tt te (own.map (·.2))) := by
  refine ⟨fun pins s σ H Q I h => (pe_scK hc hN pi_sem ok pg_b pts_b pe_b hs).run pins s σ H Q I ?_⟩
  refine semI.of pi_sem (hi σ H _ h) fun J H1 ⟨zs, Gd, R, W, c, k, ⟨hz, hG, hel⟩, hend⟩ => ?_
  intro D hD
  refine sc_it W.walk (fun i H => Sub H1 H ∧ ∃ S m, H D = some (SetK X.prog X.w D S m) ∧ m ≤ ((zs.take i).filter c).length ∧ ((zs.take i).filter c).length ≤ i ∧ (∀ j, S j = true ↔ j ∈ ((zs.take i).filter c).map k) ∧ (m = (((zs.take i).filter c).map k).length ↔ (((zs.take i).filter c).map k).Nodup))
    ⟨Sub.new hD, _, _, upd_same, Nat.le_refl _, Nat.le_refl _, fun j => by simp, by simp⟩ (fun i H _ p => hG H p.1) ?_ ?_
  · rintro i x H H' hi ⟨s1, S, m, hy, hl, hl2, hS, hn⟩ ⟨z, hzi, r⟩
    have hm : z ∈ zs := List.mem_of_getElem? hzi
    refine bG.of hg (hel z hm H x H' s1 r) fun σ2 H2 ⟨hw, q⟩ => ⟨hw, bT.of ht q fun b H3 ⟨eb, q3⟩ => ?_⟩
    subst eb
    have pf := pair_filter (c := c) hzi
    by_cases hcz : c z = true
    · rw [if_pos hcz] at q3 pf ⊢
      have hlz : i < zs.length := hi
      refine bE.of he q3 fun y H4 ⟨s4, ey⟩ => ⟨k z, S, m, ey, s4.get hy, by show m + 1 < 4096; omega, sub_upd (s1.trans s4) hD, _, _, upd_same, ?_⟩
      rw [pf, List.map_append, List.length_append]
      have e1 : ([z].map k) = [k z] := rfl
      have hb := hS (k z)
      rw [e1]
      refine ⟨?_, ?_, fun j => ?_, ?_⟩
      · show (if S (k z) = true then m else m + 1) ≤ _ + 1
        split <;> omega
      · show _ + 1 ≤ _
        omega
      · rw [Bool.or_eq_true, hS j, decide_eq_true_eq, List.mem_append, List.mem_singleton]
      · rw [List.length_append, List.length_map, nodup_snoc]
        rw [List.length_map] at hn
        show (if S (k z) = true then m else m + 1) = _ + 1 ↔ _
        cases hin : S (k z) with
        | true =>
          rw [if_pos rfl]
          exact ⟨fun e => by omega, fun e => absurd (hb.1 hin) e.2⟩
        | false =>
          have hin : k z ∉ ((zs.take i).filter c).map k := fun q => by rw [hb.2 q] at hin; cases hin
          rw [if_neg Bool.false_ne_true]
          exact ⟨fun e => ⟨hn.1 (by omega), hin⟩, fun e => by rw [hn.2 e.1]⟩
    · rw [if_neg hcz] at q3 pf ⊢
      rw [pf, List.append_nil]
      exact ⟨s1.trans q3, S, m, q3.get hy, hl, by omega, hS, hn⟩
  · rintro H ⟨s1, S, m, hy, _, _, hS, hn⟩
    rw [List.take_length] at hS hn
    exact hend D H S m hD s1 hy hS hn
end
end G

set_option Elab.async false
set_option linter.all false
set_option maxRecDepth 100000
set_option maxHeartbeats 4000000
/-! Small things that the walks name. -/
namespace G
open PySem PySem.Spec PyProof.Rows L2

theorem hu0 {A : Around} {k : Nat} (hr : Room k A) : A.units < cLine := hr.units0
theorem hu64 {A : Around} {k : Nat} (hr : Room k A) : A.units + 64 < cLine := hr.units
/-- the getter of a property -/
def gAd (K : PySem.W.Frag) (C : Addr) (f : Str) : Addr := match PySem.W.recIn K (He.ma K C f) "property" with
  | some (.ref g :: _) => g
  | _ => 0
section
variable {X : Cx}
/-- e.f, a field of an instance of the class at C -/
def tFldU (C : Addr) (ta : TE) (f : Str) : TE := fun σ H Q => ta σ H fun x H1 => ∃ a dx fs v, x = .ref a ∧ H1 a = some (.ins C dx fs) ∧ fs.lookup f = some v ∧ Q v H1
theorem pe_fldU {C : Addr} {e : Expr} {f : Str} {pos : Pos} {ta : TE} (c : Cls X.K C) (n : NoAttr X.K C f) (he : PE X e ta) (hb : attributeBase e f X.env (eval e X.env) = eval e X.env) : PE X (.Attribute e f pos) (tFldU C ta f) := by
  refine ⟨fun pins s σ H Q I h => (pe_fld pe_sem hb).run pins s σ H Q I ?_⟩
  exact semE.of he h fun v H1 ⟨a, dx, fs, w, e1, e2, e3, q⟩ => ⟨a, C, dx, fs, w, e1, e2, c, n, e3, q⟩
/-- e.f, a constant of the class -/
def tConU (C : Addr) (v : V) (ta : TE) (f : Str) : TE := fun σ H Q => ta σ H fun x H1 => ∃ a dx fs, x = .ref a ∧ H1 a = some (.ins C dx fs) ∧ fs.lookup f = none ∧ Q v H1
theorem pe_conU {C : Addr} {v : V} {e : Expr} {f : Str} {pos : Pos} {ta : TE} (c : Cls X.K C) (k : ∃ u, Con X.K C f v u) (he : PE X e ta) (hb : attributeBase e f X.env (eval e X.env) = eval e X.env) : PE X (.Attribute e f pos) (tConU C v ta f) := by
  obtain ⟨u, k⟩ := k
  refine ⟨fun pins s σ H Q I h => (pe_con pe_sem hb).run pins s σ H Q I ?_⟩
  exact semE.of he h fun w H1 ⟨a, dx, fs, e1, e2, e3, q⟩ => ⟨a, C, dx, fs, v, u, e1, e2, c, k, e3, q⟩
/-- e.f = v -/
def sFldU (C : Addr) (ta tv : TE) (f : Str) : TS := fun D σ H => tv σ H fun y H1 => ta σ H1 fun x H2 => ∃ a dx fs, x = .ref a ∧ H2 a = some (.ins C dx fs) ∧ fs.length < 1000 ∧ D.nx σ (upd H2 a (.ins C dx (putF f y fs)))
theorem ps_fldU {C : Addr} {o value : Expr} {f : Str} {pos pos' : Pos} {ta tv : TE} (c : Cls X.K C) (n : NoAttr X.K C f) (ha : PE X o ta) (hv : PE X value tv) (hs : swapsWith value (some (.Attribute o f pos')) pos.line X.env = pure false) :
    PS X (.Assign [.Attribute o f pos'] value pos) (sFldU C ta tv f) := by
  refine ⟨fun pins s σ H D I h => (ps_fld (ta := semE X o) (tv := semE X value) pe_sem pe_sem hs).run pins s σ H D I ?_⟩
  exact semE.of hv h fun y H1 h1 => semE.of ha h1 fun x H2 ⟨a, dx, fs, e1, e2, e3, q⟩ => ⟨a, C, dx, fs, e1, e2, c, n, e3, q⟩
/-- a list's method -/
def tBML0 (r : V → List V → Hp → VK → Prop) (to : TE) : TE := fun σ H Q => to σ H fun x H1 => (∃ a xs, x = .ref a ∧ lk (H1 a) = some (.lst xs)) ∧ r x [] H1 Q
def tBML (r : V → List V → Hp → VK → Prop) (to : TE) (t : TA) : TE := fun σ H Q => to σ H fun x H1 => (∃ a xs, x = .ref a ∧ lk (H1 a) = some (.lst xs)) ∧ t σ H1 fun xs H2 => r x xs H2 Q
theorem tyV_lst {K : PySem.W.Frag} {x : V} {H : Hp} (h : ∃ a xs, x = .ref a ∧ lk (H a) = some (.lst xs)) : tyV K "list" x H := by
  obtain ⟨a, xs, rfl, h⟩ := h
  exact Or.inl ⟨rfl, xs, Or.inl (rd_lk h)⟩
theorem pe_bmL0 {o : Expr} {to : TE} {name : PySem.Str} {apos cpos : Pos} {id : String} {r : V → List V → Hp → VK → Prop} (slot : Slot "list" name id) (hty : typeOf (.builtin id) = pure (.type "method_descriptor")) (hm : MtR X id r) (ho : PE X o to)
    (hbase : attributeBase o name X.env (eval o X.env) = eval o X.env := by rfl) (hline : (apos.endLine == cpos.line) = true := by rfl) : PE X (.Call (.Attribute o name apos) [] [] cpos) (tBML0 r to) :=
  ⟨fun pins s σ H Q I h => (pe_bm0 PySem.F.plainAttrs_list slot hty hm pe_sem hbase hline).run pins s σ H Q I (semE.of ho h fun x H1 ⟨h1, q⟩ => ⟨tyV_lst h1, q⟩)⟩
theorem pe_bmL {o e : Expr} {es : List Expr} {to : TE} {t : TA} {name : PySem.Str} {apos cpos : Pos} {id : String} {r : V → List V → Hp → VK → Prop} (slot : Slot "list" name id) (hty : typeOf (.builtin id) = pure (.type "method_descriptor")) (hm : MtR X id r) (ho : PE X o to) (ha : PA X (e :: es) t)
    (hbase : attributeBase o name X.env (eval o X.env) = eval o X.env := by rfl)
    (hfew : ((backTo cpos (starEach (e :: es) X.env)).all (fun x => !x.1) && (backToKw cpos (keywordEach [] X.env)).all (fun x => x.1.isSome)
      && decide ((e :: es).length + ([] : List Keyword).length + (if ([] : List Keyword).isEmpty then 0 else 1) < 30)) = true := by rfl)
    (hline : (apos.endLine == cpos.line) = true := by rfl) (hs : starEach (e :: es) X.env = (false, eval e X.env) :: starEach es X.env := by rfl) (hplain : (backTo cpos (starEach es X.env)).any (·.1) = false := by rfl) :
    PE X (.Call (.Attribute o name apos) (e :: es) [] cpos) (tBML r to t) :=
  ⟨fun pins s σ H Q I h => (pe_bm PySem.F.plainAttrs_list slot hty hm pe_sem ha hbase hfew hline hs hplain).run pins s σ H Q I (semE.of ho h fun x H1 ⟨h1, q⟩ => ⟨tyV_lst h1, q⟩)⟩
/-- d.get(y, z) -/
def tDGetU (td ty tx : TE) : TE := fun σ H Q => td σ H fun x H1 => ∃ a, x = .ref a ∧ (∃ kvs, lk (H1 a) = some (.dK kvs)) ∧ ty σ H1 fun y H2 => tx σ H2 fun z H3 => ∃ kvs k, lk (H3 a) = some (.dK kvs) ∧ y = kV k ∧ Q ((valV kvs k).getD z) H3
theorem pe_dget2U {o e f : Expr} {td ty tx : TE} {apos cpos : Pos} (hu : X.A.units + 1 < cLine) (ho : PE X o td) (he : PE X e ty) (hf : PE X f tx) (m : M2 X o "get" apos e f cpos) : PE X (.Call (.Attribute o "get" apos) [e, f] [] cpos) (tDGetU td ty tx) := by
  refine ⟨fun pins s σ H Q I h => (pe_dget2 hu pe_sem pe_sem pe_sem m).run pins s σ H Q I ?_⟩
  refine semE.of ho h fun x H1 ⟨a, e1, ⟨kvs, h1⟩, h2⟩ => ⟨a, e1, Or.inl ⟨kvs, rd_lk h1⟩, ?_⟩
  refine semE.of he h2 fun y H2 h3 => semE.of hf h3 fun z H3 ⟨kvs, k, h4, h5, q⟩ => ⟨valV kvs k, Or.inl ⟨kvs, k, rd_lk h4, h5, rfl⟩, q⟩
/-- d[y] = v -/
def sDPutU (td ty tv : TE) : TS := fun D σ H => tv σ H fun v H1 => td σ H1 fun x H2 => ty σ H2 fun y H3 => ∃ a kvs k, x = .ref a ∧ H3 a = some (.dK kvs) ∧ y = kV k ∧ kvs.length < sizeLine ∧ D.nx σ (upd H3 a (.dK (putK kvs k v)))
theorem ps_dputU {o i value : Expr} {td ty tv : TE} {pos pos' : Pos} (hu : X.A.units + 1 < cLine) (ho : PE X o td) (hi : PE X i ty) (hv : PE X value tv) (hs : swapsWith value (some (.Subscript o i pos')) pos.line X.env = pure false) :
    PS X (.Assign [.Subscript o i pos'] value pos) (sDPutU td ty tv) := by
  refine ⟨fun pins s σ H D I h => (ps_dput hu pe_sem pe_sem pe_sem hs).run pins s σ H D I ?_⟩
  exact semE.of hv h fun v H1 h1 => semE.of ho h1 fun x H2 h2 => semE.of hi h2 fun y H3 ⟨a, kvs, k, e1, e2, e3, e4, q⟩ => ⟨a, _, e1, Or.inl ⟨kvs, k, e2, e3, e4, rfl⟩, q⟩
theorem Sub.none {H H' : Hp} {a : Addr} (s : Sub H H') (h : H' a = Option.none) : H a = Option.none := by
  cases e : H a with
  | none => rfl
  | some o =>
    have := s.get e
    rw [h] at this
    cases this
theorem rtup {α : Type} {f : α → List V} {z : α} {H H' : Hp} {x : V} (r : RTup f z H x H') : ∃ T, x = .ref T ∧ H T = none ∧ Sub H H' ∧ H' T = some (.tup (f z)) := by
  obtain ⟨T, e, h, rfl⟩ := r
  exact ⟨T, e, h, Sub.new h, upd_same⟩
/-- a tuple taken apart -/
def gTupU (n : Nat) (t : TGs) : TG := fun v σ H Q => ∃ a xs, v = .ref a ∧ lk (H a) = some (.tup xs) ∧ xs.length = n ∧ t xs σ H Q
theorem pg_tupU {es : List Expr} {k : Nat} {t : TGs} {n : Nat} {pos : Pos} (hc : X.calm = true) (h : PGs X es t)
    (hn : (assignEach es X.env).length = n := by rfl) (hst : (assignEach es X.env).findIdx? (·.1) = none := by rfl) : PG X (.Tuple es k pos) (gTupU n t) :=
  ⟨fun pins s σ H v u Q I r ⟨a, xs, e, ha, hl, q⟩ => (pg_tup hc h hn hst).run pins s σ H v u Q I r ⟨a, xs, e, Or.inl (rd_lk ha), hl, q⟩⟩
/-- a list comprehension whose values are known outright -/
def LcV {α : Type} (zs : List α) (Gd : Hp → Prop) (R : α → Hp → V → Hp → Prop) (g : TG) (tt : TT) (te : TE) (vs : List Nat) (σ : L2.St) (H1 : Hp) (Q : VK) : Prop := ∃ (c : α → Bool) (f : α → V), (zs.length ≤ 16777216 ∧ (∀ H', Sub H1 H' → Gd H') ∧
    ∀ z ∈ zs, ∀ H x H', Sub H1 H → R z H x H' → g x (wipe σ vs) H' fun σ2 H2 => wipe σ2 vs = wipe σ vs ∧ tt σ2 H2 fun b H3 => b = c z ∧ if c z = true then te σ2 H3 fun y H4 => Sub H H4 ∧ y = f z else Sub H H3) ∧
  ∀ D H', H1 D = none → Sub H1 H' → H' D = some (.lst ((zs.filter c).map f)) → Q (.ref D) H'
def tLcV {α : Type} (wz : TIZ α) (g : TG) (tt : TT) (te : TE) (vs : List Nat) : TE := fun σ H Q => wz σ H fun zs Gd R H1 => LcV zs Gd R g tt te vs σ H1 Q
theorem lcv {α : Type} {zs : List α} {Gd : Hp → Prop} {R : α → Hp → V → Hp → Prop} {g : TG} {tt : TT} {te : TE} {vs : List Nat} {σ : L2.St} {H1 : Hp} {Q : VK} (c : α → Bool) (f : α → V) (hz : zs.length ≤ 16777216) (hG : ∀ H', Sub H1 H' → Gd H')
    (hel : ∀ z ∈ zs, ∀ H x H', Sub H1 H → R z H x H' → g x (wipe σ vs) H' fun σ2 H2 => wipe σ2 vs = wipe σ vs ∧ tt σ2 H2 fun b H3 => b = c z ∧ if c z = true then te σ2 H3 fun y H4 => Sub H H4 ∧ y = f z else Sub H H3)
    (hend : ∀ D H', H1 D = none → Sub H1 H' → H' D = some (.lst ((zs.filter c).map f)) → Q (.ref D) H') : LcV zs Gd R g tt te vs σ H1 Q := ⟨c, f, ⟨hz, hG, hel⟩, hend⟩
theorem lcV_out {α : Type} {elt tg iter : Expr} {ifs : List Expr} {scope : Scope} {vs : List Nat} {wz : TIZ α} {g : TG} {tt : TT} {te : TE} {σ : L2.St} {H : Hp} {Q : VK} (hi : PIZ X tg iter wz)
    (hg : Blks X scope fun B => PG B tg g) (ht : Blks X scope fun B => PTs B ifs tt) (he : Blks X scope fun B => PE B elt te) (h : tLcV wz g tt te vs σ H Q) :
    tLc (semI X tg iter) (bG X scope tg) (bT X scope ifs) (bE X scope elt) vs σ H Q := by
  have hi' : PIZ X tg iter (fun σ H k => semI X tg iter σ H fun J H1 => ∃ zs Gd R, WZ (α := α) J zs Gd R ∧ k zs Gd R H1) := fun σ H k h => semI.of pi_sem h fun _ _ q => q
  refine lcZ_out hi' hg ht he ?_
  refine semI.of pi_sem (hi σ H _ h) fun J H1 ⟨zs, Gd, R, W, c, f, ⟨h1, h2, h3⟩, h4⟩ => ⟨zs, Gd, R, W, ?_⟩
  exact lc_val c f h1 h2 h3 h4
theorem pe_lcV {α : Type} {elt tg iter : Expr} {ifs : List Expr} {scope : Scope} {own : List (PySem.Str × Nat)} {pos : Pos} {wz : TIZ α} {g : TG} {tt : TT} {te : TE} (hc : X.calm = true) (hN : X.N.Nodup) (hi : PIZ X tg iter wz) (ok : BlkOk X.N X.env.scope scope own)
    (hg : Blks X scope fun B => PG B tg g) (ht : Blks X scope fun B => PTs B ifs tt) (he : Blks X scope fun B => PE B elt te) (hs : ∀ x, foldedSetIterable iter X.env x = pure x := by intro _; rfl) :
    PE X (.ListComp elt [⟨tg, iter, ifs, 0⟩] scope pos) (tLcV wz g tt te (own.map (·.2))) :=
  ⟨fun pins s σ H Q I h => (pe_lc hc hN pi_sem ok pg_b pts_b pe_b hs).run pins s σ H Q I (lcV_out hi hg ht he h)⟩
theorem ps_setLcV {α : Type} {i : Nat} {y : Str} {py : Pos} {elt tg iter : Expr} {ifs : List Expr} {scope : Scope} {own : List (Str × Nat)} {pos spos : Pos} {wz : TIZ α} {g : TG} {tt : TT} {te : TE} (hc : X.calm = true) (hN : X.N.Nodup) (hy : X.N[i]? = some y) (hyl : X.env.scope.names.lookup y = some .local)
    (hsw : swapsWith (.ListComp elt [⟨tg, iter, ifs, 0⟩] scope pos) (some (.Name y py)) spos.line X.env = pure true) (hi : PIZ X tg iter wz) (ok : BlkOk X.N X.env.scope scope own)
    (hg : Blks X scope fun B => PG B tg g) (ht : Blks X scope fun B => PTs B ifs tt) (he : Blks X scope fun B => PE B elt te) (hs : ∀ x, foldedSetIterable iter X.env x = pure x := by intro _; rfl) :
    PS X (.Assign [.Name y py] (.ListComp elt [⟨tg, iter, ifs, 0⟩] scope pos) spos) (tAsg (tLcV wz g tt te (own.map (·.2))) (gName i)) := by
  refine ⟨fun pins s σ H D I h => (ps_setLc hc hN hy hyl hsw pi_sem ok pg_b pts_b pe_b hs).run pins s σ H D I ?_⟩
  exact lcV_out hi hg ht he h
theorem lockE {t : TE} {σ : L2.St} {H : Hp} {Q : VK} {d : Addr} {kvs : List (Key × V)} (hd : H d = some (.dK kvs)) (h : ∀ od, t σ (upd H d (.frz od (.dK kvs))) fun v H' => H' d = some (.frz od (.dK kvs)) ∧ Q v (upd H' d (.dK kvs))) : tLockE t σ H Q :=
  ⟨d, _, hd, trivial, h⟩
/-- name = [.. for ..] -/
theorem ps_setLcZ {α : Type} {i : Nat} {y : Str} {py : Pos} {elt tg iter : Expr} {ifs : List Expr} {scope : Scope} {own : List (Str × Nat)} {pos spos : Pos} {wz : TIZ α} {g : TG} {tt : TT} {te : TE} (hc : X.calm = true) (hN : X.N.Nodup) (hy : X.N[i]? = some y) (hyl : X.env.scope.names.lookup y = some .local)
    (hsw : swapsWith (.ListComp elt [⟨tg, iter, ifs, 0⟩] scope pos) (some (.Name y py)) spos.line X.env = pure true) (hi : PIZ X tg iter wz) (ok : BlkOk X.N X.env.scope scope own)
    (hg : Blks X scope fun B => PG B tg g) (ht : Blks X scope fun B => PTs B ifs tt) (he : Blks X scope fun B => PE B elt te) (hs : ∀ x, foldedSetIterable iter X.env x = pure x := by intro _; rfl) :
    PS X (.Assign [.Name y py] (.ListComp elt [⟨tg, iter, ifs, 0⟩] scope pos) spos) (tAsg (tLcZ wz g tt te (own.map (·.2))) (gName i)) := by
  refine ⟨fun pins s σ H D I h => (ps_setLc hc hN hy hyl hsw pi_sem ok pg_b pts_b pe_b hs).run pins s σ H D I ?_⟩
  exact lcZ_out hi hg ht he h
/-- a place where what stands is said -/
def tCutG (t u : TS) : TS := fun D σ H => ∃ Mid : L2.St → Hp → Prop, t { D with nx := Mid } σ H ∧ ∀ σ' H', Mid σ' H' → u D σ' H'
theorem pss_cutG {st : Stmt} {rest : List Stmt} {t u : TS} (h1 : PS X st t) (h2 : PSs X rest u) : PSs X (st :: rest) (tCutG t u) := by
  refine ⟨fun pins s σ H D I h => ?_⟩
  obtain ⟨Mid, h3, h4⟩ := h
  refine wpAny_execs_cons (thn (h1.run pins s σ H _ I h3) fun f s1 q => ?_)
  cases f with
  | next =>
    obtain ⟨σ', H', I', m⟩ := q
    exact h2.run pins s1 σ' H' D I' (h4 σ' H' m)
  | brk => exact q
  | cont => exact q
  | ret u => exact q
/-- o[i] by a place that is not negative (for o[i] op= e) -/
def rGetL : V → V → Hp → VK → Prop := fun o i H Q => ∃ p xs k v, o = .ref p ∧ i = .int k ∧ lk (H p) = some (.lst xs) ∧ 0 ≤ k ∧ xs[k.toNat]? = some v ∧ Q v H
theorem pget_list : PGet X rGetL := by
  intro pins s σ H o i ov iv Q I ro ri h
  obtain ⟨p, xs, k, v, rfl, rfl, hp, h0, hv, q⟩ := h
  cases ro
  obtain ⟨t, rfl⟩ := ri
  obtain ⟨its, r, pl, hz⟩ := I.list (Or.inl (rd_lk hp))
  obtain ⟨u, hu, rv⟩ := r.get hv
  have hl : k.toNat < its.length := (List.getElem?_eq_some_iff.mp hu).1
  have hn := line63
  have hl2 := r.length
  exact wpAny_getItem_list pl.isList h0 (by omega) (by simpa using hu) ⟨v, H, I, rv, q⟩
theorem tyN_sub {H H' : Hp} {x : V} {t : String} (s : Sub H H') (h : tyName H x = some t) : tyName H' x = some t := by
  cases x with
  | ref a =>
    rw [tyN_ref] at h ⊢
    rw [s a (fun e => by rw [e] at h; cases h)]
    exact h
  | _ => exact h
theorem tyN_new {H : Hp} {x : V} {t : String} {p : Addr} {o : HO} (h : H p = none) (e : tyName H x = some t) : tyName (upd H p o) x = some t := tyN_sub (Sub.new h) e
/-- products of numbers of few bits -/
theorem cmul {i j : Int} (h1 : i.natAbs < 2 ^ 4000) (h2 : j.natAbs < 2 ^ 4000) : CMulW i j := wide_mul (a := 4000) (b := 4000) h1 h2 (by decide) (by decide) (by decide)
theorem cdivw {i j : Int} (h1 : 0 < j) (h2 : j.natAbs < 2 ^ 4000) : CDivW i j := wide_div h1 h2 (by decide) (by decide)
theorem few {i : Int} (h1 : -(10 ^ 1000) ≤ i) (h2 : i ≤ 10 ^ 1000) : i.natAbs < 2 ^ 4000 := by
  have h : (10 : Nat) ^ 1000 < 2 ^ 4000 := by decide
  have h3 : ((10 ^ 1000 : Nat) : Int) = 10 ^ 1000 := by norm_cast
  omega
theorem few40 {i : Int} (h1 : -(10 ^ 80) ≤ i) (h2 : i ≤ 10 ^ 80) : i.natAbs < 2 ^ 4000 := by
  have h : (10 : Nat) ^ 80 < 2 ^ 4000 := by decide
  have h3 : ((10 ^ 80 : Nat) : Int) = 10 ^ 80 := by norm_cast
  omega
/-- an if whose branches are wanted by cases -/
theorem ite_all {c A B : Prop} [Decidable c] (h1 : c → A) (h2 : ¬ c → B) : if c then A else B := ite2 h1 h2
theorem loop_ix {α : Type} {zs : List α} {Gd : Hp → Prop} {R : α → Hp → V → Hp → Prop} {g : TG} {tb : TS} {D : Ends} {σ : L2.St} {H : Hp} (Pv : Nat → L2.St → Hp → Prop) (h0 : Pv 0 σ H) (hG : ∀ i σ H, Pv i σ H → Gd H)
    (hs : ∀ i z σ H x H', zs[i]? = some z → Pv i σ H → R z H x H' → g x σ H' fun σ2 H2 => tb { D with nx := Pv (i + 1), ct := Pv (i + 1), bk := D.nx } σ2 H2) (hd : ∀ σ H, Pv zs.length σ H → D.nx σ H) : LoopZ zs Gd R g tb D σ H := by
  refine ⟨fun done rest σ H => Pv done.length σ H, h0, fun _ _ σ H _ p => hG _ σ H p, fun done z rest σ H x H' e p r => ?_, fun σ H p => hd σ H p⟩
  have hz : zs[done.length]? = some z := by rw [← e]; simp
  have q := hs _ z σ H x H' hz p r
  simpa using q
theorem intsZ_get {lo hi z : Int} {i : Nat} (h : (intsZ lo hi)[i]? = some z) : z = lo + (i : Nat) ∧ i < (hi - lo).toNat := by
  unfold intsZ at h
  rw [List.getElem?_map] at h
  cases e : (List.range (hi - lo).toNat)[i]? with
  | none => rw [e] at h; cases h
  | some j =>
    rw [e] at h
    have hj : i < (hi - lo).toNat := by simpa using (List.getElem?_eq_some_iff.mp e).1
    have ej : j = i := by simpa [hj] using e.symm
    exact ⟨by rw [← ej]; exact (Option.some.inj h).symm, hj⟩
theorem intsZ_len {lo hi : Int} : (intsZ lo hi).length = (hi - lo).toNat := by unfold intsZ; simp
theorem ixN_at {n j : Nat} (hj : j < n) : ixN n (j : Int) = some j := by
  unfold ixN
  rw [if_pos (by omega), if_pos (by omega)]
  simp
theorem atI_at {α : Type} {xs : List α} {j : Nat} {v : α} (h : xs[j]? = some v) : atI xs (j : Int) = some v := by
  unfold atI
  rw [ixN_at (List.getElem?_eq_some_iff.mp h).1]
  exact h
/-- a dict read while frozen: back to the heap as it was -/
theorem unfrz {H H' : Hp} {d : Addr} {u : HO} {od : Obj} (h : H d = some u) (s : Sub (upd H d (.frz od u)) H') : Sub H (upd H' d u) := fun a ha => by
  by_cases e : a = d
  · rw [e, upd_same, h]
  · rw [upd_ne e]
    have e2 : upd H d (.frz od u) a = H a := upd_ne e
    rw [s a (by rw [e2]; exact ha), e2]
end
/-- the type of an own plain instance, as isinstance asks for it -/
structure InsTy (K : PySem.W.Frag) (C : Addr) : Prop where
  cl : Cls K C
  ha : PySem.W.findIn K (.ref C) "__class__" = some (some (.builtin "object.__class__"))
  hn : PySem.W.specialIn K (.builtin "object.__class__") "__get__" = some (some (.builtin "getset_descriptor.__get__"))
  htk : PySem.W.takesIn K (.builtin "object.__class__") = some true
  hm : PySem.W.mroIn K C (.type "object") = some true
def rIsiO (C : Addr) (vs : List V) (H : Hp) (Q : VK) : Prop := ∃ a dx fs, vs = [.ref a, .ref C] ∧ H a = some (.ins C dx fs) ∧ Q (.bl true) H
theorem call_isiO {X : Cx} {C : Addr} (t : InsTy X.K C) : CallR X (.builtin "isinstance") (rIsiO C) := by
  intro pins s σ H xs us Q I r h
  obtain ⟨a, dx, fs, e, ha, q⟩ := h
  exact call_isi pins s σ H xs us Q I r ⟨.ref a, .ref C, .ref C, .ref C, true, e, .own C, .base (.ins ha t.cl t.ha t.hn t.htk t.hm), by simp [PySem.W.kitOne], q⟩
end G

set_option Elab.async false
set_option linter.all false
set_option maxRecDepth 100000
set_option maxHeartbeats 4000000
/-! A head's facts, each a test of its own; defs found by any path. -/
namespace G
open PySem PySem.Spec PyProof.Rows L2 He
abbrev Chk := PySem.W.Frag → Bool
structure DefG where
  adr : PySem.W.Frag → Addr
  name : Str
  qual : Str
  params : Arguments
  body : List Stmt
  scope : Scope
  dfl : List He.Dv := []
  kwd : List (Str × He.Dv) := []
def fnAt (K : PySem.W.Frag) (a : Addr) : FnW := match K.lookup a with
  | some ⟨_, _, .func fd, _⟩ => some (fd.name, fd.qualname, fd.params, fd.body, fd.scope, fd.globals, fd.closure, fd.builtins)
  | _ => none
def DefG.val (d : DefG) : FnW := some (d.name, d.qual, d.params, .stmts d.body, d.scope, mainGlobals, [], builtinsNs)
def DefG.dvs (K : PySem.W.Frag) (d : DefG) : List V := d.dfl.map (Dv.v K)
def DefG.kws (K : PySem.W.Frag) (d : DefG) : List (Str × V) := d.kwd.map fun q => (q.1, q.2.v K)
def DefG.ok (K : PySem.W.Frag) (d : DefG) : Bool := PySem.W.keepIn K (.ref (d.adr K)) && (match K.lookup (d.adr K) with
  | some ⟨_, _, .func fd, _⟩ => PySem.W.codeIn K fd.code d.qual && (dflB K fd.defaults (d.dvs K) && kwdB K fd.kwdefaults (d.kws K))
  | _ => false)
theorem DefG.funD {K : PySem.W.Frag} {d : DefG} (e : fnAt K (d.adr K) = d.val) (c : d.ok K = true) : ∃ fd, FunD K d.name d.qual d.params d.body d.scope (d.dvs K) (d.kws K) (d.adr K) fd := by
  obtain ⟨kp, c2⟩ := ba c
  unfold fnAt at e
  cases q : K.lookup (d.adr K) with
  | none => rw [q] at c2; cases c2
  | some o =>
    obtain ⟨oc, od, dt, osl⟩ := o
    rw [q] at c2 e
    cases dt with
    | func fd =>
      obtain ⟨m1, m2, m3, m4, m5, m6, m7, m8, m9, m10, m11, m12, m13, m14, m15⟩ := fd
      have e2 : (some (m1, m2, m3, m4, m5, m6, m7, m15) : FnW) = some (d.name, d.qual, d.params, .stmts d.body, d.scope, mainGlobals, [], builtinsNs) := e
      simp only [Option.some.injEq, Prod.mk.injEq] at e2
      obtain ⟨g1, g2, g3, g4, g5, g6, g7, g8⟩ := e2
      subst g1 g2 g3 g4 g5 g6 g7 g8
      obtain ⟨k1, k2⟩ := ba (show (PySem.W.codeIn K m13 d.qual && (dflB K m8 (d.dvs K) && kwdB K m9 (d.kws K))) = true from c2)
      obtain ⟨k3, k4⟩ := ba k2
      exact ⟨_, ⟨oc, od, m8, m9, m10, m11, m12, m13, m14, osl, rfl, q, k1, dflB_ok k3, kwdB_ok k4⟩, kp⟩
    | _ => cases c2
/-! ### tests -/
def propB (x f : Str) : Chk := fun K => eqO (PySem.W.findIn K (.ref (ga K x)) f) (some (some (.ref (ma K (ga K x) f)))) && (eqO (PySem.W.specialIn K (.ref (ma K (ga K x) f)) "__get__") (some (some (.builtin "property.__get__"))) &&
  (decide (PySem.W.takesIn K (.ref (ma K (ga K x) f)) = some true) && (match PySem.W.recIn K (ma K (ga K x) f) "property" with
    | some (.ref _ :: _) => true
    | _ => false)))
theorem propB_ok {K : PySem.W.Frag} {x f : Str} (h : propB x f K = true) : PropOf K (ga K x) f (ma K (ga K x) f) (gAd K (ga K x) f) := by
  obtain ⟨h1, h⟩ := ba h
  obtain ⟨h2, h⟩ := ba h
  obtain ⟨h3, h4⟩ := ba h
  refine ⟨eqO_ok h1, eqO_ok h2, of_decide_eq_true h3, ?_⟩
  unfold gAd
  cases e : PySem.W.recIn K (ma K (ga K x) f) "property" with
  | none => rw [e] at h4; cases h4
  | some l =>
    rw [e] at h4
    cases l with
    | nil => cases h4
    | cons v r =>
      cases v with
      | ref g => exact ⟨r, rfl⟩
      | _ => cases h4
def conB (x f : Str) (v : He.Dv) : Chk := fun K => !PySem.W.copiedNames.contains f && match PySem.W.findIn K (.ref (ga K x)) f with
  | some (some u) => relB (v.v K) u && eqO (PySem.W.specialIn K u "__get__") (some none)
  | _ => false
theorem conB_ok {K : PySem.W.Frag} {x f : Str} {v : He.Dv} (h : conB x f v K = true) : ∃ u, Con K (ga K x) f (v.v K) u := by
  obtain ⟨h0, h⟩ := ba h
  cases e : PySem.W.findIn K (.ref (ga K x)) f with
  | none => rw [e] at h; cases h
  | some o =>
    rw [e] at h
    cases o with
    | none => cases h
    | some u =>
      obtain ⟨h1, h2⟩ := ba h
      exact ⟨u, e, relB_ok h1, eqO_ok h2, by simpa using h0⟩
def sysB : Chk := fun K => match K.lookup sysModules with
  | some ⟨_, _, .dict _ _, _⟩ => true
  | _ => false
theorem sysB_ok {K : PySem.W.Frag} (h : sysB K = true) : KSys K := by
  unfold sysB at h
  cases e : K.lookup sysModules with
  | none => rw [e] at h; cases h
  | some o =>
    obtain ⟨oc, od, dt, osl⟩ := o
    rw [e] at h
    cases dt with
    | dict es n => exact ⟨_, es, n, e, rfl⟩
    | _ => cases h
def insB (x : Str) : Chk := fun K => (Fa.cls x).ok K && (eqO (PySem.W.findIn K (.ref (ga K x)) "__class__") (some (some (.builtin "object.__class__"))) &&
  (eqO (PySem.W.specialIn K (.builtin "object.__class__") "__get__") (some (some (.builtin "getset_descriptor.__get__"))) &&
    (decide (PySem.W.takesIn K (.builtin "object.__class__") = some true) && decide (PySem.W.mroIn K (ga K x) (.type "object") = some true))))
theorem insB_ok {K : PySem.W.Frag} {x : Str} (h : insB x K = true) : InsTy K (ga K x) := by
  obtain ⟨h1, h⟩ := ba h
  obtain ⟨h2, h⟩ := ba h
  obtain ⟨h3, h⟩ := ba h
  obtain ⟨h4, h5⟩ := ba h
  exact ⟨cls_ok h1, eqO_ok h2, eqO_ok h3, of_decide_eq_true h4, of_decide_eq_true h5⟩
def neB (x : Str) : Chk := fun K => eqO (PySem.W.findIn K (.ref (ga K x)) "__ne__") (some (some (.builtin "object.__ne__")))
def nfB (x y : Str) : Chk := fun K => PySem.W.notFirst K (ga K x) (.ref (ga K y))
/-! ### the Hook -/
def obsG (fb : List Chk) (fn : List DefG) (K : PySem.W.Frag) : AlD := ((fb.all fun f => f K) && fn.all fun d => d.ok K, fn.map fun d => fnAt K (d.adr K))
def valG (fn : List DefG) : AlD := (true, fn.map DefG.val)
def SaysG (fb : List Chk) (fn : List DefG) (K : PySem.W.Frag) : Prop := obsG fb fn K = valG fn
def obsGG (n : Nat) (fb : List Chk) (fn : List DefG) (g : Addr → Option Obj) : AlD := obsG fb fn (frG g (sysModules :: asD g n))
def hookG (n : Nat) (fb : List Chk) (fn : List DefG) : PySem.W.Hook where
  α := AlD
  obs := fun s => obsGG n fb fn s.heap.get?
  val := fun _ => valG fn
  says := fun _ h => ∃ K : PySem.W.Frag, K.In h ∧ SaysG fb fn K
  of := fun _ _ e => ⟨_, frG_in, e⟩
  keeps := fun _ _ _ ⟨K, hK, c⟩ k => ⟨K, PySem.W.Frag.In.keeps hK k, c⟩
theorem obsGG_eq {n : Nat} {fb : List Chk} {fn : List DefG} {g : Addr → Option Obj} {s : Shared} (h : ∀ a, g a = s.heap.get? a) : obsGG n fb fn g = (hookG n fb fn).obs s := by
  have e : g = s.heap.get? := funext h
  rw [e] <;> rfl
section
variable {fb : List Chk} {fn : List DefG} {K : PySem.W.Frag}
theorem SaysG.fact (c : SaysG fb fn K) (i : Nat) {f : Chk} (h : fb[i]? = some f := by rfl) : f K = true := by
  have c1 := (ba (show ((fb.all fun f => f K) && fn.all fun d => d.ok K) = true from congrArg (fun z : AlD => z.1) c)).1
  exact List.all_eq_true.mp c1 f (List.mem_of_getElem? h)
theorem SaysG.def_ (c : SaysG fb fn K) (i : Nat) {d : DefG} (h : fn[i]? = some d := by rfl) : ∃ fd, FunD K d.name d.qual d.params d.body d.scope (d.dvs K) (d.kws K) (d.adr K) fd := by
  have c2 := (ba (show ((fb.all fun f => f K) && fn.all fun d => d.ok K) = true from congrArg (fun z : AlD => z.1) c)).2
  have e : fn.map (fun d => fnAt K (d.adr K)) = fn.map DefG.val := congrArg (fun z : AlD => z.2) c
  have e2 : (fn.map fun d => fnAt K (d.adr K))[i]? = (fn.map DefG.val)[i]? := by rw [e]
  rw [List.getElem?_map, List.getElem?_map, h] at e2
  exact DefG.funD (Option.some.inj e2) (List.all_eq_true.mp c2 d (List.mem_of_getElem? h))
end
/-! ### a head's facts in parts -/
theorem obsG_app {fb0 fb1 : List Chk} {fn : List DefG} {K : PySem.W.Frag} (h0 : obsG fb0 fn K = valG fn) (h1 : obsG fb1 [] K = valG []) : obsG (fb0 ++ fb1) fn K = valG fn := by
  unfold obsG valG at *
  simp only [Prod.mk.injEq] at h0 h1 ⊢
  obtain ⟨a1, a2⟩ := h0
  obtain ⟨b1, _⟩ := h1
  obtain ⟨a3, a4⟩ := ba a1
  obtain ⟨b3, _⟩ := ba b1
  exact ⟨by rw [List.all_append, a3, b3, a4]; rfl, a2⟩
theorem run_join {r : PySem.W.OpenRow} {q : Program} {n M : Nat} {fb0 fb1 : List Chk} {fn : List DefG} {loose : List PySem.Str} {w : World}
    (h0 : HandSHeadRun.RunEq r q (hookG n fb0 fn) (fun s => obsGG n fb0 fn (HandSHeadRun.getT s)) M loose w) (h1 : HandSHeadRun.RunEq r q (hookG n fb1 []) (fun s => obsGG n fb1 [] (HandSHeadRun.getT s)) M loose w) :
    HandSHeadRun.RunEq r q (hookG n (fb0 ++ fb1) fn) (fun s => obsGG n (fb0 ++ fb1) fn (HandSHeadRun.getT s)) M loose w := fun os => by
  obtain ⟨s, e, a⟩ := Option.map_eq_some_iff.mp (h0 os)
  obtain ⟨s2, e2, b⟩ := Option.map_eq_some_iff.mp (h1 os)
  rw [e] at e2
  cases e2
  refine Option.map_eq_some_iff.mpr ⟨s, e, ?_⟩
  have a1 := congrArg (fun z => z.1) a
  have a2 := congrArg (fun z => z.2.1) a
  have a3 := congrArg (fun z => z.2.2) a
  have b3 := congrArg (fun z => z.2.2) b
  exact Prod.ext a1 (Prod.ext a2 (obsG_app a3 b3))
/-! ### .. off a written list of addresses -/
def obsLL (as : List Addr) (fb : List Chk) (fn : List DefG) (g : Addr → Option Obj) : AlD := obsG fb fn (frG g as)
def hookL (as : List Addr) (fb : List Chk) (fn : List DefG) : PySem.W.Hook where
  α := AlD
  obs := fun s => obsLL as fb fn s.heap.get?
  val := fun _ => valG fn
  says := fun _ h => ∃ K : PySem.W.Frag, K.In h ∧ SaysG fb fn K
  of := fun _ _ e => ⟨_, frG_in, e⟩
  keeps := fun _ _ _ ⟨K, hK, c⟩ k => ⟨K, PySem.W.Frag.In.keeps hK k, c⟩
theorem obsLL_eq {as : List Addr} {fb : List Chk} {fn : List DefG} {g : Addr → Option Obj} {s : Shared} (h : ∀ a, g a = s.heap.get? a) : obsLL as fb fn g = (hookL as fb fn).obs s := by
  have e : g = s.heap.get? := funext h
  rw [e] <;> rfl
theorem run_joinL {r : PySem.W.OpenRow} {q : Program} {M : Nat} {as : List Addr} {fb0 fb1 : List Chk} {fn : List DefG} {loose : List PySem.Str} {w : World}
    (h0 : HandSHeadRun.RunEq r q (hookL as fb0 fn) (fun s => obsLL as fb0 fn (HandSHeadRun.getT s)) M loose w) (h1 : HandSHeadRun.RunEq r q (hookL as fb1 []) (fun s => obsLL as fb1 [] (HandSHeadRun.getT s)) M loose w) :
    HandSHeadRun.RunEq r q (hookL as (fb0 ++ fb1) fn) (fun s => obsLL as (fb0 ++ fb1) fn (HandSHeadRun.getT s)) M loose w := fun os => by
  obtain ⟨s, e, a⟩ := Option.map_eq_some_iff.mp (h0 os)
  obtain ⟨s2, e2, b⟩ := Option.map_eq_some_iff.mp (h1 os)
  rw [e] at e2
  cases e2
  refine Option.map_eq_some_iff.mpr ⟨s, e, ?_⟩
  have a1 := congrArg (fun z => z.1) a
  have a2 := congrArg (fun z => z.2.1) a
  have a3 := congrArg (fun z => z.2.2) a
  have b3 := congrArg (fun z => z.2.2) b
  exact Prod.ext a1 (Prod.ext a2 (obsG_app a3 b3))
end G

set_option Elab.async false
set_option linter.all false
set_option maxRecDepth 100000
set_option maxHeartbeats 4000000
namespace K74
open PySem PySem.Spec PyProof.Rows L2 G
/-! ### the text -/
def top (i : Nat) : Stmt := PySem.Challenge.pw_hymnplates_k78_whole_counts_by_share.main.body.getD i (.Pass ⟨0, 0, 0, 0⟩)
abbrev s_is_integer : Stmt := top 13
theorem sc_is_integer : FnScope ["value"] ["value"] (defScope s_is_integer) := ⟨rfl, rfl, rfl, by decide +kernel, rfl, by decide +kernel, by decide +kernel⟩
abbrev s_is_between : Stmt := top 14
theorem sc_is_between : FnScope ["value", "least", "most"] ["value", "least", "most"] (defScope s_is_between) := ⟨rfl, rfl, rfl, by decide +kernel, rfl, by decide +kernel, by decide +kernel⟩
abbrev s_is_list : Stmt := top 15
theorem sc_is_list : FnScope ["value"] ["value"] (defScope s_is_list) := ⟨rfl, rfl, rfl, by decide +kernel, rfl, by decide +kernel, by decide +kernel⟩
abbrev s_is_tuple_of : Stmt := top 16
theorem sc_is_tuple_of : FnScope ["value", "size"] ["value", "size"] (defScope s_is_tuple_of) := ⟨rfl, rfl, rfl, by decide +kernel, rfl, by decide +kernel, by decide +kernel⟩
abbrev s_is_sign : Stmt := top 17
theorem sc_is_sign : FnScope ["font", "value"] ["font", "value"] (defScope s_is_sign) := ⟨rfl, rfl, rfl, by decide +kernel, rfl, by decide +kernel, by decide +kernel⟩
abbrev s_need_number : Stmt := top 19
theorem sc_need_number : FnScope ["value", "least", "most"] ["value", "least", "most"] (defScope s_need_number) := ⟨rfl, rfl, rfl, by decide +kernel, rfl, by decide +kernel, by decide +kernel⟩
abbrev s_occurrences : Stmt := top 25
theorem sc_occurrences : FnScope ["last", "base", "found", "place", "above", "here", "below", "digit", "full"] ["last", "base"] (defScope s_occurrences) := ⟨rfl, rfl, rfl, by decide +kernel, rfl, by decide +kernel, by decide +kernel⟩
abbrev s_are_counts : Stmt := top 31
theorem sc_are_counts : FnScope ["font", "value", "sign", "count"] ["font", "value"] (defScope s_are_counts) := ⟨rfl, rfl, rfl, by decide +kernel, rfl, by decide +kernel, by decide +kernel⟩
abbrev s_Wants_ddinitdd : Stmt := inClass (top 32) 0
theorem sc_Wants_ddinitdd : FnScope ["self", "font", "counts", "sign"] ["self", "font", "counts"] (defScope s_Wants_ddinitdd) := ⟨rfl, rfl, rfl, by decide +kernel, rfl, by decide +kernel, by decide +kernel⟩
abbrev s_Wants_font : Stmt := inClass (top 32) 9
theorem sc_Wants_font : FnScope ["self"] ["self"] (defScope s_Wants_font) := ⟨rfl, rfl, rfl, by decide +kernel, rfl, by decide +kernel, by decide +kernel⟩
abbrev s_Wants_counts : Stmt := inClass (top 32) 10
theorem sc_Wants_counts : FnScope ["self", "sign", "count"] ["self"] (defScope s_Wants_counts) := ⟨rfl, rfl, rfl, by decide +kernel, rfl, by decide +kernel, by decide +kernel⟩
abbrev s_Wants_total : Stmt := inClass (top 32) 11
theorem sc_Wants_total : FnScope ["self"] ["self"] (defScope s_Wants_total) := ⟨rfl, rfl, rfl, by decide +kernel, rfl, by decide +kernel, by decide +kernel⟩
abbrev s_street_wants : Stmt := top 35
theorem sc_street_wants : FnScope ["font", "first", "last", "ahead", "there", "digit", "sign"] ["font", "first", "last"] (defScope s_street_wants) := ⟨rfl, rfl, rfl, by decide +kernel, rfl, by decide +kernel, by decide +kernel⟩
abbrev s_street : Stmt := top 36
theorem sc_street : FnScope ["font", "first", "last"] ["font", "first", "last"] (defScope s_street) := ⟨rfl, rfl, rfl, by decide +kernel, rfl, by decide +kernel, by decide +kernel⟩
abbrev s_is_font_text : Stmt := top 42
theorem sc_is_font_text : FnScope ["value", "most", "sign"] ["value", "most"] (defScope s_is_font_text) := ⟨rfl, rfl, rfl, by decide +kernel, rfl, by decide +kernel, by decide +kernel⟩
abbrev s_are_turns : Stmt := top 43
theorem sc_are_turns : FnScope ["value", "ranks", "seen", "pair", "sign"] ["value", "ranks"] (defScope s_are_turns) := ⟨rfl, rfl, rfl, by decide +kernel, rfl, by decide +kernel, by decide +kernel⟩
abbrev s_Font_ddinitdd : Stmt := inClass (top 44) 1
theorem sc_Font_ddinitdd : FnScope ["self", "signs", "turns", "one", "other", "rank", "sign"] ["self", "signs", "turns"] (defScope s_Font_ddinitdd) := ⟨rfl, rfl, rfl, by decide +kernel, rfl, by decide +kernel, by decide +kernel⟩
abbrev s_Font_ddeqdd : Stmt := inClass (top 44) 4
theorem sc_Font_ddeqdd : FnScope ["self", "other"] ["self", "other"] (defScope s_Font_ddeqdd) := ⟨rfl, rfl, rfl, by decide +kernel, rfl, by decide +kernel, by decide +kernel⟩
abbrev s_Font_ddlendd : Stmt := inClass (top 44) 5
theorem sc_Font_ddlendd : FnScope ["self"] ["self"] (defScope s_Font_ddlendd) := ⟨rfl, rfl, rfl, by decide +kernel, rfl, by decide +kernel, by decide +kernel⟩
abbrev s_Font_signs : Stmt := inClass (top 44) 7
theorem sc_Font_signs : FnScope ["self"] ["self"] (defScope s_Font_signs) := ⟨rfl, rfl, rfl, by decide +kernel, rfl, by decide +kernel, by decide +kernel⟩
abbrev s__law_pen : Stmt := top 46
theorem sc__law_pen : FnScope ["_law_script"] ["_law_script"] (defScope s__law_pen) := ⟨rfl, rfl, rfl, by decide +kernel, rfl, by decide +kernel, by decide +kernel⟩
abbrev s__law_draw : Stmt := top 47
theorem sc__law_draw : FnScope ["_law_pen_here", "_law_many", "_law_digit", "_law_used", "_law_cell", "_law_mixed"] ["_law_pen_here", "_law_many"] (defScope s__law_draw) := ⟨rfl, rfl, rfl, by decide +kernel, rfl, by decide +kernel, by decide +kernel⟩
abbrev s__law_pick : Stmt := top 48
theorem sc__law_pick : FnScope ["_law_pen_here", "_law_some_here"] ["_law_pen_here", "_law_some_here"] (defScope s__law_pick) := ⟨rfl, rfl, rfl, by decide +kernel, rfl, by decide +kernel, by decide +kernel⟩
abbrev s__law_shuffled : Stmt := top 49
theorem sc__law_shuffled : FnScope ["_law_pen_here", "_law_items", "_law_left", "_law_found"] ["_law_pen_here", "_law_items"] (defScope s__law_shuffled) := ⟨rfl, rfl, rfl, by decide +kernel, rfl, by decide +kernel, by decide +kernel⟩
abbrev s__law_font : Stmt := top 50
theorem sc__law_font : FnScope ["_law_pen_here", "_law_fewest", "_law_most", "_law_letters", "_law_signs", "_law_heads", "_law_left", "_law_one", "_law_way", "_law_two"] ["_law_pen_here", "_law_fewest", "_law_most"] (defScope s__law_font) := ⟨rfl, rfl, rfl, by decide +kernel, rfl, by decide +kernel, by decide +kernel⟩
abbrev s__law_turns : Stmt := top 51
theorem sc__law_turns : FnScope ["_law_pen_here", "_law_font_here", "_law_signs", "_law_heads", "_law_turns_here", "_law_one"] ["_law_pen_here", "_law_font_here"] (defScope s__law_turns) := ⟨rfl, rfl, rfl, by decide +kernel, rfl, by decide +kernel, by decide +kernel⟩
abbrev s__law_made_font : Stmt := top 52
theorem sc__law_made_font : FnScope ["_law_pen_here", "_law_font_here"] ["_law_pen_here", "_law_font_here"] (defScope s__law_made_font) := ⟨rfl, rfl, rfl, by decide +kernel, rfl, by decide +kernel, by decide +kernel⟩
abbrev s_digits_of : Stmt := top 24
theorem sc_digits_of : FnScope ["number", "base", "found"] ["number", "base"] (defScope s_digits_of) := ⟨rfl, rfl, rfl, by decide +kernel, rfl, by decide +kernel, by decide +kernel⟩
abbrev s__law_block : Stmt := top 55
theorem sc__law_block : FnScope ["_law_totals_here", "_law_base", "_law_digits", "_law_free", "_law_found", "_law_many", "_law_place", "_law_digit", "_law_number"] ["_law_totals_here", "_law_base", "_law_digits", "_law_free"] (defScope s__law_block) := ⟨rfl, rfl, rfl, by decide +kernel, rfl, by decide +kernel, by decide +kernel⟩
abbrev s__law_totals : Stmt := top 56
theorem sc__law_totals : FnScope ["_law_base", "_law_last", "_law_digits", "_law_left", "_law_found", "_law_size", "_law_first", "_law_at", "_law_digit"] ["_law_base", "_law_last"] (defScope s__law_totals) := ⟨rfl, rfl, rfl, by decide +kernel, rfl, by decide +kernel, by decide +kernel⟩
abbrev s__law_street : Stmt := top 57
theorem sc__law_street : FnScope ["_law_font_here", "_law_first", "_law_last", "_law_base", "_law_low", "_law_high", "_law_k"] ["_law_font_here", "_law_first", "_law_last"] (defScope s__law_street) := ⟨rfl, rfl, rfl, by decide +kernel, rfl, by decide +kernel, by decide +kernel⟩
abbrev s_is_row : Stmt := top 18
theorem sc_is_row : FnScope ["font", "value", "sign"] ["font", "value"] (defScope s_is_row) := ⟨rfl, rfl, rfl, by decide +kernel, rfl, by decide +kernel, by decide +kernel⟩
abbrev s_Font_ascending : Stmt := inClass (top 44) 9
theorem sc_Font_ascending : FnScope ["self", "signs", "sign"] ["self", "signs"] (defScope s_Font_ascending) := ⟨rfl, rfl, rfl, by decide +kernel, rfl, by decide +kernel, by decide +kernel⟩
abbrev s_need_signs : Stmt := top 21
theorem sc_need_signs : FnScope ["font", "value", "sign"] ["font", "value"] (defScope s_need_signs) := ⟨rfl, rfl, rfl, by decide +kernel, rfl, by decide +kernel, by decide +kernel⟩
abbrev s_ShareCounts_ddinitdd : Stmt := inClass (top 26) 0
theorem sc_ShareCounts_ddinitdd : FnScope ["self", "base", "last"] ["self", "base", "last"] (defScope s_ShareCounts_ddinitdd) := ⟨rfl, rfl, rfl, by decide +kernel, rfl, by decide +kernel, by decide +kernel⟩
abbrev s_ShareCounts_free : Stmt := inClass (top 26) 1
theorem sc_ShareCounts_free : FnScope ["self", "inside", "places", "rows", "row", "outside", "more", "at", "number"] ["self", "inside", "places"] (defScope s_ShareCounts_free) := ⟨rfl, rfl, rfl, by decide +kernel, rfl, by decide +kernel, by decide +kernel⟩
abbrev s_ShareCounts_shorter : Stmt := inClass (top 26) 2
theorem sc_ShareCounts_shorter : FnScope ["self", "inside", "zero", "found", "places"] ["self", "inside", "zero"] (defScope s_ShareCounts_shorter) := ⟨rfl, rfl, rfl, by decide +kernel, rfl, by decide +kernel, by decide +kernel⟩
abbrev s_ShareCounts_by_share : Stmt := inClass (top 26) 3
theorem sc_ShareCounts_by_share : FnScope ["self", "members", "inside", "share", "found", "at", "digit", "low", "hits"] ["self", "members"] (defScope s_ShareCounts_by_share) := ⟨rfl, rfl, rfl, by decide +kernel, rfl, by decide +kernel, by decide +kernel⟩
abbrev s_add_row : Stmt := top 27
theorem sc_add_row : FnScope ["found", "row", "share", "ways", "hits", "misses", "at", "number"] ["found", "row", "share", "ways"] (defScope s_add_row) := ⟨rfl, rfl, rfl, by decide +kernel, rfl, by decide +kernel, by decide +kernel⟩
abbrev s_members_of : Stmt := top 28
theorem sc_members_of : FnScope ["font", "signs", "sign"] ["font", "signs"] (defScope s_members_of) := ⟨rfl, rfl, rfl, by decide +kernel, rfl, by decide +kernel, by decide +kernel⟩
abbrev s_share_count : Stmt := top 29
theorem sc_share_count : FnScope ["last", "members", "share", "found"] ["last", "members", "share"] (defScope s_share_count) := ⟨rfl, rfl, rfl, by decide +kernel, rfl, by decide +kernel, by decide +kernel⟩
abbrev s_members_for : Stmt := top 37
theorem sc_members_for : FnScope ["font", "last", "signs", "share", "wanted"] ["font", "last", "signs", "share"] (defScope s_members_for) := ⟨rfl, rfl, rfl, by decide +kernel, rfl, by decide +kernel, by decide +kernel⟩
abbrev s_count_with : Stmt := top 38
theorem sc_count_with : FnScope ["font", "last", "signs", "share"] ["font", "last", "signs", "share"] (defScope s_count_with) := ⟨rfl, rfl, rfl, by decide +kernel, rfl, by decide +kernel, by decide +kernel⟩
abbrev s_Wants_want : Stmt := inClass (top 32) 13
theorem sc_Wants_want : FnScope ["self", "signs", "sign"] ["self", "signs"] (defScope s_Wants_want) := ⟨rfl, rfl, rfl, by decide +kernel, rfl, by decide +kernel, by decide +kernel⟩
abbrev s__law_row : Stmt := top 53
theorem sc__law_row : FnScope ["_law_font_here", "_law_number", "_law_found", "_law_left"] ["_law_font_here", "_law_number"] (defScope s__law_row) := ⟨rfl, rfl, rfl, by decide +kernel, rfl, by decide +kernel, by decide +kernel⟩
abbrev s__law_share : Stmt := top 54
theorem sc__law_share : FnScope ["_law_font_here", "_law_number", "_law_some_here", "_law_sign"] ["_law_font_here", "_law_number", "_law_some_here"] (defScope s__law_share) := ⟨rfl, rfl, rfl, by decide +kernel, rfl, by decide +kernel, by decide +kernel⟩
abbrev s__law_some : Stmt := top 58
theorem sc__law_some : FnScope ["_law_pen_here", "_law_font_here", "_law_sign"] ["_law_pen_here", "_law_font_here"] (defScope s__law_some) := ⟨rfl, rfl, rfl, by decide +kernel, rfl, by decide +kernel, by decide +kernel⟩
abbrev s__law_counts : Stmt := top 59
theorem sc__law_counts : FnScope ["_law_house", "_law_last", "_law_some_here", "_law_most", "_law_share_here"] ["_law_house", "_law_last", "_law_some_here", "_law_most"] (defScope s__law_counts) := ⟨rfl, rfl, rfl, by decide +kernel, rfl, by decide +kernel, by decide +kernel⟩
abbrev s_law : Stmt := top 60
theorem sc_law : FnScope ["_law_script", "_law_pen_here", "_law_turn", "_law_font_here", "_law_house", "_law_base", "_law_power", "_law_length", "_law_k", "_law_some_here", "_law_last", "_law_most", "_law_found", "_law_due", "_law_other", "_law_size", "_law_mine", "_law_low", "_law_their", "_law_less", "_law_share_here", "_law_far", "_law_number", "_law_sign"] ["_law_script"] (defScope s_law) := ⟨rfl, rfl, rfl, by decide +kernel, rfl, by decide +kernel, by decide +kernel⟩
/-- what stands behind the top -/
structure Txt (K : PySem.W.Frag) (mg : Str → Option Value) where
  fd_is_integer : FuncData
  F_is_integer : FunD K "is_integer" "is_integer" (defArgs s_is_integer) (defBody s_is_integer) (defScope s_is_integer) [] [] (He.ga K "is_integer") fd_is_integer
  g_is_integer : mg "is_integer" = some (.ref (He.ga K "is_integer"))
  fd_is_between : FuncData
  F_is_between : FunD K "is_between" "is_between" (defArgs s_is_between) (defBody s_is_between) (defScope s_is_between) [] [] (He.ga K "is_between") fd_is_between
  g_is_between : mg "is_between" = some (.ref (He.ga K "is_between"))
  fd_is_list : FuncData
  F_is_list : FunD K "is_list" "is_list" (defArgs s_is_list) (defBody s_is_list) (defScope s_is_list) [] [] (He.ga K "is_list") fd_is_list
  g_is_list : mg "is_list" = some (.ref (He.ga K "is_list"))
  fd_is_tuple_of : FuncData
  F_is_tuple_of : FunD K "is_tuple_of" "is_tuple_of" (defArgs s_is_tuple_of) (defBody s_is_tuple_of) (defScope s_is_tuple_of) [] [] (He.ga K "is_tuple_of") fd_is_tuple_of
  g_is_tuple_of : mg "is_tuple_of" = some (.ref (He.ga K "is_tuple_of"))
  fd_is_sign : FuncData
  F_is_sign : FunD K "is_sign" "is_sign" (defArgs s_is_sign) (defBody s_is_sign) (defScope s_is_sign) [] [] (He.ga K "is_sign") fd_is_sign
  g_is_sign : mg "is_sign" = some (.ref (He.ga K "is_sign"))
  fd_need_number : FuncData
  F_need_number : FunD K "need_number" "need_number" (defArgs s_need_number) (defBody s_need_number) (defScope s_need_number) [] [] (He.ga K "need_number") fd_need_number
  g_need_number : mg "need_number" = some (.ref (He.ga K "need_number"))
  fd_occurrences : FuncData
  F_occurrences : FunD K "occurrences" "occurrences" (defArgs s_occurrences) (defBody s_occurrences) (defScope s_occurrences) [] [] (He.ga K "occurrences") fd_occurrences
  g_occurrences : mg "occurrences" = some (.ref (He.ga K "occurrences"))
  fd_are_counts : FuncData
  F_are_counts : FunD K "are_counts" "are_counts" (defArgs s_are_counts) (defBody s_are_counts) (defScope s_are_counts) [] [] (He.ga K "are_counts") fd_are_counts
  g_are_counts : mg "are_counts" = some (.ref (He.ga K "are_counts"))
  fd_Wants_ddinitdd : FuncData
  F_Wants_ddinitdd : FunD K "__init__" "Wants.__init__" (defArgs s_Wants_ddinitdd) (defBody s_Wants_ddinitdd) (defScope s_Wants_ddinitdd) [] [] (He.ma K (He.ga K "Wants") "__init__") fd_Wants_ddinitdd
  fd_Wants_font : FuncData
  F_Wants_font : FunD K "font" "Wants.font" (defArgs s_Wants_font) (defBody s_Wants_font) (defScope s_Wants_font) [] [] (gAd K (He.ga K "Wants") "font") fd_Wants_font
  fd_Wants_counts : FuncData
  F_Wants_counts : FunD K "counts" "Wants.counts" (defArgs s_Wants_counts) (defBody s_Wants_counts) (defScope s_Wants_counts) [] [] (gAd K (He.ga K "Wants") "counts") fd_Wants_counts
  fd_Wants_total : FuncData
  F_Wants_total : FunD K "total" "Wants.total" (defArgs s_Wants_total) (defBody s_Wants_total) (defScope s_Wants_total) [] [] (gAd K (He.ga K "Wants") "total") fd_Wants_total
  fd_street_wants : FuncData
  F_street_wants : FunD K "street_wants" "street_wants" (defArgs s_street_wants) (defBody s_street_wants) (defScope s_street_wants) [] [] (He.ga K "street_wants") fd_street_wants
  g_street_wants : mg "street_wants" = some (.ref (He.ga K "street_wants"))
  fd_street : FuncData
  F_street : FunD K "street" "street" (defArgs s_street) (defBody s_street) (defScope s_street) [] [] (He.ga K "street") fd_street
  g_street : mg "street" = some (.ref (He.ga K "street"))
  fd_is_font_text : FuncData
  F_is_font_text : FunD K "is_font_text" "is_font_text" (defArgs s_is_font_text) (defBody s_is_font_text) (defScope s_is_font_text) [] [] (He.ga K "is_font_text") fd_is_font_text
  g_is_font_text : mg "is_font_text" = some (.ref (He.ga K "is_font_text"))
  fd_are_turns : FuncData
  F_are_turns : FunD K "are_turns" "are_turns" (defArgs s_are_turns) (defBody s_are_turns) (defScope s_are_turns) [] [] (He.ga K "are_turns") fd_are_turns
  g_are_turns : mg "are_turns" = some (.ref (He.ga K "are_turns"))
  fd_Font_ddinitdd : FuncData
  F_Font_ddinitdd : FunD K "__init__" "Font.__init__" (defArgs s_Font_ddinitdd) (defBody s_Font_ddinitdd) (defScope s_Font_ddinitdd) [.ref (He.dflAt ("Font", some "__init__") 0 K)] [] (He.ma K (He.ga K "Font") "__init__") fd_Font_ddinitdd
  fd_Font_ddeqdd : FuncData
  F_Font_ddeqdd : FunD K "__eq__" "Font.__eq__" (defArgs s_Font_ddeqdd) (defBody s_Font_ddeqdd) (defScope s_Font_ddeqdd) [] [] (He.ma K (He.ga K "Font") "__eq__") fd_Font_ddeqdd
  fd_Font_ddlendd : FuncData
  F_Font_ddlendd : FunD K "__len__" "Font.__len__" (defArgs s_Font_ddlendd) (defBody s_Font_ddlendd) (defScope s_Font_ddlendd) [] [] (He.ma K (He.ga K "Font") "__len__") fd_Font_ddlendd
  fd_Font_signs : FuncData
  F_Font_signs : FunD K "signs" "Font.signs" (defArgs s_Font_signs) (defBody s_Font_signs) (defScope s_Font_signs) [] [] (gAd K (He.ga K "Font") "signs") fd_Font_signs
  fd__law_pen : FuncData
  F__law_pen : FunD K "_law_pen" "_law_pen" (defArgs s__law_pen) (defBody s__law_pen) (defScope s__law_pen) [] [] (He.ga K "_law_pen") fd__law_pen
  g__law_pen : mg "_law_pen" = some (.ref (He.ga K "_law_pen"))
  fd__law_draw : FuncData
  F__law_draw : FunD K "_law_draw" "_law_draw" (defArgs s__law_draw) (defBody s__law_draw) (defScope s__law_draw) [] [] (He.ga K "_law_draw") fd__law_draw
  g__law_draw : mg "_law_draw" = some (.ref (He.ga K "_law_draw"))
  fd__law_pick : FuncData
  F__law_pick : FunD K "_law_pick" "_law_pick" (defArgs s__law_pick) (defBody s__law_pick) (defScope s__law_pick) [] [] (He.ga K "_law_pick") fd__law_pick
  g__law_pick : mg "_law_pick" = some (.ref (He.ga K "_law_pick"))
  fd__law_shuffled : FuncData
  F__law_shuffled : FunD K "_law_shuffled" "_law_shuffled" (defArgs s__law_shuffled) (defBody s__law_shuffled) (defScope s__law_shuffled) [] [] (He.ga K "_law_shuffled") fd__law_shuffled
  g__law_shuffled : mg "_law_shuffled" = some (.ref (He.ga K "_law_shuffled"))
  fd__law_font : FuncData
  F__law_font : FunD K "_law_font" "_law_font" (defArgs s__law_font) (defBody s__law_font) (defScope s__law_font) [] [] (He.ga K "_law_font") fd__law_font
  g__law_font : mg "_law_font" = some (.ref (He.ga K "_law_font"))
  fd__law_turns : FuncData
  F__law_turns : FunD K "_law_turns" "_law_turns" (defArgs s__law_turns) (defBody s__law_turns) (defScope s__law_turns) [] [] (He.ga K "_law_turns") fd__law_turns
  g__law_turns : mg "_law_turns" = some (.ref (He.ga K "_law_turns"))
  fd__law_made_font : FuncData
  F__law_made_font : FunD K "_law_made_font" "_law_made_font" (defArgs s__law_made_font) (defBody s__law_made_font) (defScope s__law_made_font) [] [] (He.ga K "_law_made_font") fd__law_made_font
  g__law_made_font : mg "_law_made_font" = some (.ref (He.ga K "_law_made_font"))
  fd_digits_of : FuncData
  F_digits_of : FunD K "digits_of" "digits_of" (defArgs s_digits_of) (defBody s_digits_of) (defScope s_digits_of) [] [] (He.ga K "digits_of") fd_digits_of
  g_digits_of : mg "digits_of" = some (.ref (He.ga K "digits_of"))
  fd__law_block : FuncData
  F__law_block : FunD K "_law_block" "_law_block" (defArgs s__law_block) (defBody s__law_block) (defScope s__law_block) [] [] (He.ga K "_law_block") fd__law_block
  g__law_block : mg "_law_block" = some (.ref (He.ga K "_law_block"))
  fd__law_totals : FuncData
  F__law_totals : FunD K "_law_totals" "_law_totals" (defArgs s__law_totals) (defBody s__law_totals) (defScope s__law_totals) [] [] (He.ga K "_law_totals") fd__law_totals
  g__law_totals : mg "_law_totals" = some (.ref (He.ga K "_law_totals"))
  fd__law_street : FuncData
  F__law_street : FunD K "_law_street" "_law_street" (defArgs s__law_street) (defBody s__law_street) (defScope s__law_street) [] [] (He.ga K "_law_street") fd__law_street
  g__law_street : mg "_law_street" = some (.ref (He.ga K "_law_street"))
  fd_is_row : FuncData
  F_is_row : FunD K "is_row" "is_row" (defArgs s_is_row) (defBody s_is_row) (defScope s_is_row) [] [] (He.ga K "is_row") fd_is_row
  g_is_row : mg "is_row" = some (.ref (He.ga K "is_row"))
  fd_Font_ascending : FuncData
  F_Font_ascending : FunD K "ascending" "Font.ascending" (defArgs s_Font_ascending) (defBody s_Font_ascending) (defScope s_Font_ascending) [] [] (He.ma K (He.ga K "Font") "ascending") fd_Font_ascending
  fd_need_signs : FuncData
  F_need_signs : FunD K "need_signs" "need_signs" (defArgs s_need_signs) (defBody s_need_signs) (defScope s_need_signs) [] [] (He.ga K "need_signs") fd_need_signs
  g_need_signs : mg "need_signs" = some (.ref (He.ga K "need_signs"))
  fd_ShareCounts_ddinitdd : FuncData
  F_ShareCounts_ddinitdd : FunD K "__init__" "ShareCounts.__init__" (defArgs s_ShareCounts_ddinitdd) (defBody s_ShareCounts_ddinitdd) (defScope s_ShareCounts_ddinitdd) [] [] (He.ma K (He.ga K "ShareCounts") "__init__") fd_ShareCounts_ddinitdd
  fd_ShareCounts_free : FuncData
  F_ShareCounts_free : FunD K "free" "ShareCounts.free" (defArgs s_ShareCounts_free) (defBody s_ShareCounts_free) (defScope s_ShareCounts_free) [] [] (He.ma K (He.ga K "ShareCounts") "free") fd_ShareCounts_free
  fd_ShareCounts_shorter : FuncData
  F_ShareCounts_shorter : FunD K "shorter" "ShareCounts.shorter" (defArgs s_ShareCounts_shorter) (defBody s_ShareCounts_shorter) (defScope s_ShareCounts_shorter) [] [] (He.ma K (He.ga K "ShareCounts") "shorter") fd_ShareCounts_shorter
  fd_ShareCounts_by_share : FuncData
  F_ShareCounts_by_share : FunD K "by_share" "ShareCounts.by_share" (defArgs s_ShareCounts_by_share) (defBody s_ShareCounts_by_share) (defScope s_ShareCounts_by_share) [] [] (He.ma K (He.ga K "ShareCounts") "by_share") fd_ShareCounts_by_share
  fd_add_row : FuncData
  F_add_row : FunD K "add_row" "add_row" (defArgs s_add_row) (defBody s_add_row) (defScope s_add_row) [] [] (He.ga K "add_row") fd_add_row
  g_add_row : mg "add_row" = some (.ref (He.ga K "add_row"))
  fd_members_of : FuncData
  F_members_of : FunD K "members_of" "members_of" (defArgs s_members_of) (defBody s_members_of) (defScope s_members_of) [] [] (He.ga K "members_of") fd_members_of
  g_members_of : mg "members_of" = some (.ref (He.ga K "members_of"))
  fd_share_count : FuncData
  F_share_count : FunD K "share_count" "share_count" (defArgs s_share_count) (defBody s_share_count) (defScope s_share_count) [] [] (He.ga K "share_count") fd_share_count
  g_share_count : mg "share_count" = some (.ref (He.ga K "share_count"))
  fd_members_for : FuncData
  F_members_for : FunD K "members_for" "members_for" (defArgs s_members_for) (defBody s_members_for) (defScope s_members_for) [] [] (He.ga K "members_for") fd_members_for
  g_members_for : mg "members_for" = some (.ref (He.ga K "members_for"))
  fd_count_with : FuncData
  F_count_with : FunD K "count_with" "count_with" (defArgs s_count_with) (defBody s_count_with) (defScope s_count_with) [] [] (He.ga K "count_with") fd_count_with
  g_count_with : mg "count_with" = some (.ref (He.ga K "count_with"))
  fd_Wants_want : FuncData
  F_Wants_want : FunD K "want" "Wants.want" (defArgs s_Wants_want) (defBody s_Wants_want) (defScope s_Wants_want) [] [] (He.ma K (He.ga K "Wants") "want") fd_Wants_want
  fd__law_row : FuncData
  F__law_row : FunD K "_law_row" "_law_row" (defArgs s__law_row) (defBody s__law_row) (defScope s__law_row) [] [] (He.ga K "_law_row") fd__law_row
  g__law_row : mg "_law_row" = some (.ref (He.ga K "_law_row"))
  fd__law_share : FuncData
  F__law_share : FunD K "_law_share" "_law_share" (defArgs s__law_share) (defBody s__law_share) (defScope s__law_share) [] [] (He.ga K "_law_share") fd__law_share
  g__law_share : mg "_law_share" = some (.ref (He.ga K "_law_share"))
  fd__law_some : FuncData
  F__law_some : FunD K "_law_some" "_law_some" (defArgs s__law_some) (defBody s__law_some) (defScope s__law_some) [] [] (He.ga K "_law_some") fd__law_some
  g__law_some : mg "_law_some" = some (.ref (He.ga K "_law_some"))
  fd__law_counts : FuncData
  F__law_counts : FunD K "_law_counts" "_law_counts" (defArgs s__law_counts) (defBody s__law_counts) (defScope s__law_counts) [] [] (He.ga K "_law_counts") fd__law_counts
  g__law_counts : mg "_law_counts" = some (.ref (He.ga K "_law_counts"))
  fd_law : FuncData
  F_law : FunD K "law" "law" (defArgs s_law) (defBody s_law) (defScope s_law) [] [] (He.ga K "law") fd_law
  g_law : mg "law" = some (.ref (He.ga K "law"))
  f_len : mg "len" = none
  f_isinstance : mg "isinstance" = none
  f_int : mg "int" = none
  f_bool : mg "bool" = none
  f_str : mg "str" = none
  f_list : mg "list" = none
  f_tuple : mg "tuple" = none
  f_dict : mg "dict" = none
  f_range : mg "range" = none
  f_max : mg "max" = none
  f_enumerate : mg "enumerate" = none
  f_all : mg "all" = none
  f_sum : mg "sum" = none
  f_min : mg "min" = none
  f_abs : mg "abs" = none
  f_repr : mg "repr" = none
  f_sorted : mg "sorted" = none
  c_MAX_COUNT : ∃ t, mg "MAX_COUNT" = some (.int (10 ^ 30) t)
  c_SIGNS : ∃ t, mg "SIGNS" = some (.str "0123456789abcdefghijklmnopqrstuvwxyz" t)
  c_LEAST_SIGNS : ∃ t, mg "LEAST_SIGNS" = some (.int 2 t)
  c_MOST_SHARE : ∃ t, mg "MOST_SHARE" = some (.int 1000 t)
  g_Font : mg "Font" = some (.ref (He.ga K "Font"))
  cls_Font : Cls K (He.ga K "Font")
  mk_Font : Mk K (He.ga K "Font") (He.ma K (He.ga K "Font") "__init__")
  na_Font_word : NoAttr K (He.ga K "Font") "word"
  na_Font_ranks : NoAttr K (He.ga K "Font") "ranks"
  na_Font_heads : NoAttr K (He.ga K "Font") "heads"
  pr_Font_signs : PropOf K (He.ga K "Font") "signs" (He.ma K (He.ga K "Font") "signs") (gAd K (He.ga K "Font") "signs")
  me_Font_ddeqdd : Meth K (He.ga K "Font") "__eq__" (He.ma K (He.ga K "Font") "__eq__")
  me_Font_ddlendd : Meth K (He.ga K "Font") "__len__" (He.ma K (He.ga K "Font") "__len__")
  me_Font_ascending : Meth K (He.ga K "Font") "ascending" (He.ma K (He.ga K "Font") "ascending")
  co_Font_MAX_SIGNS : ∃ u, Con K (He.ga K "Font") "MAX_SIGNS" (.int 10) u
  g_Wants : mg "Wants" = some (.ref (He.ga K "Wants"))
  cls_Wants : Cls K (He.ga K "Wants")
  mk_Wants : Mk K (He.ga K "Wants") (He.ma K (He.ga K "Wants") "__init__")
  na_Wants_own_font : NoAttr K (He.ga K "Wants") "own_font"
  na_Wants_numbers : NoAttr K (He.ga K "Wants") "numbers"
  pr_Wants_font : PropOf K (He.ga K "Wants") "font" (He.ma K (He.ga K "Wants") "font") (gAd K (He.ga K "Wants") "font")
  pr_Wants_counts : PropOf K (He.ga K "Wants") "counts" (He.ma K (He.ga K "Wants") "counts") (gAd K (He.ga K "Wants") "counts")
  pr_Wants_total : PropOf K (He.ga K "Wants") "total" (He.ma K (He.ga K "Wants") "total") (gAd K (He.ga K "Wants") "total")
  me_Wants_want : Meth K (He.ga K "Wants") "want" (He.ma K (He.ga K "Wants") "want")
  g_ShareCounts : mg "ShareCounts" = some (.ref (He.ga K "ShareCounts"))
  cls_ShareCounts : Cls K (He.ga K "ShareCounts")
  mk_ShareCounts : Mk K (He.ga K "ShareCounts") (He.ma K (He.ga K "ShareCounts") "__init__")
  na_ShareCounts_base : NoAttr K (He.ga K "ShareCounts") "base"
  na_ShareCounts_places : NoAttr K (He.ga K "ShareCounts") "places"
  na_ShareCounts_free_rows : NoAttr K (He.ga K "ShareCounts") "free_rows"
  na_ShareCounts_shorter_rows : NoAttr K (He.ga K "ShareCounts") "shorter_rows"
  me_ShareCounts_free : Meth K (He.ga K "ShareCounts") "free" (He.ma K (He.ga K "ShareCounts") "free")
  me_ShareCounts_shorter : Meth K (He.ga K "ShareCounts") "shorter" (He.ma K (He.ga K "ShareCounts") "shorter")
  me_ShareCounts_by_share : Meth K (He.ga K "ShareCounts") "by_share" (He.ma K (He.ga K "ShareCounts") "by_share")
  sys : KSys K
  it_Font : InsTy K (He.ga K "Font")
  ne_Font : PySem.W.findIn K (.ref (He.ga K "Font")) "__ne__" = some (some (.builtin "object.__ne__"))
  nf_Font : PySem.W.notFirst K (He.ga K "Font") (.ref (He.ga K "Font")) = true
section
variable {P : Program} {w : World} {K : PySem.W.Frag} {mg : Str → Option Value} {base : Heap}
theorem b_is_integer (T : Txt K mg) : Binds K T.fd_is_integer ["value"] [] := T.F_is_integer.bindsN fun _ _ _ _ _ _ us hl => match us, hl with | [_], _ => rfl
theorem b_is_between (T : Txt K mg) : Binds K T.fd_is_between ["value", "least", "most"] [] := T.F_is_between.bindsN fun _ _ _ _ _ _ us hl => match us, hl with | [_, _, _], _ => rfl
theorem b_is_list (T : Txt K mg) : Binds K T.fd_is_list ["value"] [] := T.F_is_list.bindsN fun _ _ _ _ _ _ us hl => match us, hl with | [_], _ => rfl
theorem b_is_tuple_of (T : Txt K mg) : Binds K T.fd_is_tuple_of ["value", "size"] [] := T.F_is_tuple_of.bindsN fun _ _ _ _ _ _ us hl => match us, hl with | [_, _], _ => rfl
theorem b_is_sign (T : Txt K mg) : Binds K T.fd_is_sign ["font", "value"] [] := T.F_is_sign.bindsN fun _ _ _ _ _ _ us hl => match us, hl with | [_, _], _ => rfl
theorem b_need_number (T : Txt K mg) : Binds K T.fd_need_number ["value", "least", "most"] [] := T.F_need_number.bindsN fun _ _ _ _ _ _ us hl => match us, hl with | [_, _, _], _ => rfl
theorem b_occurrences (T : Txt K mg) : Binds K T.fd_occurrences ["last", "base"] [] := T.F_occurrences.bindsN fun _ _ _ _ _ _ us hl => match us, hl with | [_, _], _ => rfl
theorem b_are_counts (T : Txt K mg) : Binds K T.fd_are_counts ["font", "value"] [] := T.F_are_counts.bindsN fun _ _ _ _ _ _ us hl => match us, hl with | [_, _], _ => rfl
theorem b_Wants_ddinitdd (T : Txt K mg) : Binds K T.fd_Wants_ddinitdd ["self", "font", "counts"] [] := T.F_Wants_ddinitdd.bindsN fun _ _ _ _ _ _ us hl => match us, hl with | [_, _, _], _ => rfl
theorem b_Wants_font (T : Txt K mg) : Binds K T.fd_Wants_font ["self"] [] := T.F_Wants_font.bindsN fun _ _ _ _ _ _ us hl => match us, hl with | [_], _ => rfl
theorem b_Wants_counts (T : Txt K mg) : Binds K T.fd_Wants_counts ["self"] [] := T.F_Wants_counts.bindsN fun _ _ _ _ _ _ us hl => match us, hl with | [_], _ => rfl
theorem b_Wants_total (T : Txt K mg) : Binds K T.fd_Wants_total ["self"] [] := T.F_Wants_total.bindsN fun _ _ _ _ _ _ us hl => match us, hl with | [_], _ => rfl
theorem b_street_wants (T : Txt K mg) : Binds K T.fd_street_wants ["font", "first", "last"] [] := T.F_street_wants.bindsN fun _ _ _ _ _ _ us hl => match us, hl with | [_, _, _], _ => rfl
theorem b_street (T : Txt K mg) : Binds K T.fd_street ["font", "first", "last"] [] := T.F_street.bindsN fun _ _ _ _ _ _ us hl => match us, hl with | [_, _, _], _ => rfl
theorem b_is_font_text (T : Txt K mg) : Binds K T.fd_is_font_text ["value", "most"] [] := T.F_is_font_text.bindsN fun _ _ _ _ _ _ us hl => match us, hl with | [_, _], _ => rfl
theorem b_are_turns (T : Txt K mg) : Binds K T.fd_are_turns ["value", "ranks"] [] := T.F_are_turns.bindsN fun _ _ _ _ _ _ us hl => match us, hl with | [_, _], _ => rfl
theorem b_Font_ddeqdd (T : Txt K mg) : Binds K T.fd_Font_ddeqdd ["self", "other"] [] := T.F_Font_ddeqdd.bindsN fun _ _ _ _ _ _ us hl => match us, hl with | [_, _], _ => rfl
theorem b_Font_ddlendd (T : Txt K mg) : Binds K T.fd_Font_ddlendd ["self"] [] := T.F_Font_ddlendd.bindsN fun _ _ _ _ _ _ us hl => match us, hl with | [_], _ => rfl
theorem b_Font_signs (T : Txt K mg) : Binds K T.fd_Font_signs ["self"] [] := T.F_Font_signs.bindsN fun _ _ _ _ _ _ us hl => match us, hl with | [_], _ => rfl
theorem b__law_pen (T : Txt K mg) : Binds K T.fd__law_pen ["_law_script"] [] := T.F__law_pen.bindsN fun _ _ _ _ _ _ us hl => match us, hl with | [_], _ => rfl
theorem b__law_draw (T : Txt K mg) : Binds K T.fd__law_draw ["_law_pen_here", "_law_many"] [] := T.F__law_draw.bindsN fun _ _ _ _ _ _ us hl => match us, hl with | [_, _], _ => rfl
theorem b__law_pick (T : Txt K mg) : Binds K T.fd__law_pick ["_law_pen_here", "_law_some_here"] [] := T.F__law_pick.bindsN fun _ _ _ _ _ _ us hl => match us, hl with | [_, _], _ => rfl
theorem b__law_shuffled (T : Txt K mg) : Binds K T.fd__law_shuffled ["_law_pen_here", "_law_items"] [] := T.F__law_shuffled.bindsN fun _ _ _ _ _ _ us hl => match us, hl with | [_, _], _ => rfl
theorem b__law_font (T : Txt K mg) : Binds K T.fd__law_font ["_law_pen_here", "_law_fewest", "_law_most"] [] := T.F__law_font.bindsN fun _ _ _ _ _ _ us hl => match us, hl with | [_, _, _], _ => rfl
theorem b__law_turns (T : Txt K mg) : Binds K T.fd__law_turns ["_law_pen_here", "_law_font_here"] [] := T.F__law_turns.bindsN fun _ _ _ _ _ _ us hl => match us, hl with | [_, _], _ => rfl
theorem b__law_made_font (T : Txt K mg) : Binds K T.fd__law_made_font ["_law_pen_here", "_law_font_here"] [] := T.F__law_made_font.bindsN fun _ _ _ _ _ _ us hl => match us, hl with | [_, _], _ => rfl
theorem b_digits_of (T : Txt K mg) : Binds K T.fd_digits_of ["number", "base"] [] := T.F_digits_of.bindsN fun _ _ _ _ _ _ us hl => match us, hl with | [_, _], _ => rfl
theorem b__law_block (T : Txt K mg) : Binds K T.fd__law_block ["_law_totals_here", "_law_base", "_law_digits", "_law_free"] [] := T.F__law_block.bindsN fun _ _ _ _ _ _ us hl => match us, hl with | [_, _, _, _], _ => rfl
theorem b__law_totals (T : Txt K mg) : Binds K T.fd__law_totals ["_law_base", "_law_last"] [] := T.F__law_totals.bindsN fun _ _ _ _ _ _ us hl => match us, hl with | [_, _], _ => rfl
theorem b__law_street (T : Txt K mg) : Binds K T.fd__law_street ["_law_font_here", "_law_first", "_law_last"] [] := T.F__law_street.bindsN fun _ _ _ _ _ _ us hl => match us, hl with | [_, _, _], _ => rfl
theorem b_is_row (T : Txt K mg) : Binds K T.fd_is_row ["font", "value"] [] := T.F_is_row.bindsN fun _ _ _ _ _ _ us hl => match us, hl with | [_, _], _ => rfl
theorem b_Font_ascending (T : Txt K mg) : Binds K T.fd_Font_ascending ["self", "signs"] [] := T.F_Font_ascending.bindsN fun _ _ _ _ _ _ us hl => match us, hl with | [_, _], _ => rfl
theorem b_need_signs (T : Txt K mg) : Binds K T.fd_need_signs ["font", "value"] [] := T.F_need_signs.bindsN fun _ _ _ _ _ _ us hl => match us, hl with | [_, _], _ => rfl
theorem b_ShareCounts_ddinitdd (T : Txt K mg) : Binds K T.fd_ShareCounts_ddinitdd ["self", "base", "last"] [] := T.F_ShareCounts_ddinitdd.bindsN fun _ _ _ _ _ _ us hl => match us, hl with | [_, _, _], _ => rfl
theorem b_ShareCounts_free (T : Txt K mg) : Binds K T.fd_ShareCounts_free ["self", "inside", "places"] [] := T.F_ShareCounts_free.bindsN fun _ _ _ _ _ _ us hl => match us, hl with | [_, _, _], _ => rfl
theorem b_ShareCounts_shorter (T : Txt K mg) : Binds K T.fd_ShareCounts_shorter ["self", "inside", "zero"] [] := T.F_ShareCounts_shorter.bindsN fun _ _ _ _ _ _ us hl => match us, hl with | [_, _, _], _ => rfl
theorem b_ShareCounts_by_share (T : Txt K mg) : Binds K T.fd_ShareCounts_by_share ["self", "members"] [] := T.F_ShareCounts_by_share.bindsN fun _ _ _ _ _ _ us hl => match us, hl with | [_, _], _ => rfl
theorem b_add_row (T : Txt K mg) : Binds K T.fd_add_row ["found", "row", "share", "ways"] [] := T.F_add_row.bindsN fun _ _ _ _ _ _ us hl => match us, hl with | [_, _, _, _], _ => rfl
theorem b_members_of (T : Txt K mg) : Binds K T.fd_members_of ["font", "signs"] [] := T.F_members_of.bindsN fun _ _ _ _ _ _ us hl => match us, hl with | [_, _], _ => rfl
theorem b_share_count (T : Txt K mg) : Binds K T.fd_share_count ["last", "members", "share"] [] := T.F_share_count.bindsN fun _ _ _ _ _ _ us hl => match us, hl with | [_, _, _], _ => rfl
theorem b_members_for (T : Txt K mg) : Binds K T.fd_members_for ["font", "last", "signs", "share"] [] := T.F_members_for.bindsN fun _ _ _ _ _ _ us hl => match us, hl with | [_, _, _, _], _ => rfl
theorem b_count_with (T : Txt K mg) : Binds K T.fd_count_with ["font", "last", "signs", "share"] [] := T.F_count_with.bindsN fun _ _ _ _ _ _ us hl => match us, hl with | [_, _, _, _], _ => rfl
theorem b_Wants_want (T : Txt K mg) : Binds K T.fd_Wants_want ["self", "signs"] [] := T.F_Wants_want.bindsN fun _ _ _ _ _ _ us hl => match us, hl with | [_, _], _ => rfl
theorem b__law_row (T : Txt K mg) : Binds K T.fd__law_row ["_law_font_here", "_law_number"] [] := T.F__law_row.bindsN fun _ _ _ _ _ _ us hl => match us, hl with | [_, _], _ => rfl
theorem b__law_share (T : Txt K mg) : Binds K T.fd__law_share ["_law_font_here", "_law_number", "_law_some_here"] [] := T.F__law_share.bindsN fun _ _ _ _ _ _ us hl => match us, hl with | [_, _, _], _ => rfl
theorem b__law_some (T : Txt K mg) : Binds K T.fd__law_some ["_law_pen_here", "_law_font_here"] [] := T.F__law_some.bindsN fun _ _ _ _ _ _ us hl => match us, hl with | [_, _], _ => rfl
theorem b__law_counts (T : Txt K mg) : Binds K T.fd__law_counts ["_law_house", "_law_last", "_law_some_here", "_law_most"] [] := T.F__law_counts.bindsN fun _ _ _ _ _ _ us hl => match us, hl with | [_, _, _, _], _ => rfl
theorem b_law (T : Txt K mg) : Binds K T.fd_law ["_law_script"] [] := T.F_law.bindsN fun _ _ _ _ _ _ us hl => match us, hl with | [_], _ => rfl
end
end K74

set_option Elab.async false
set_option linter.all false
set_option maxRecDepth 100000
set_option maxHeartbeats 0
namespace K74
open PySem PySem.Spec PyProof.Rows L2 G
def h_is_integer : DefG := ⟨fun K => He.ga K "is_integer", "is_integer", "is_integer", defArgs s_is_integer, defBody s_is_integer, defScope s_is_integer, [], []⟩
def h_is_between : DefG := ⟨fun K => He.ga K "is_between", "is_between", "is_between", defArgs s_is_between, defBody s_is_between, defScope s_is_between, [], []⟩
def h_is_list : DefG := ⟨fun K => He.ga K "is_list", "is_list", "is_list", defArgs s_is_list, defBody s_is_list, defScope s_is_list, [], []⟩
def h_is_tuple_of : DefG := ⟨fun K => He.ga K "is_tuple_of", "is_tuple_of", "is_tuple_of", defArgs s_is_tuple_of, defBody s_is_tuple_of, defScope s_is_tuple_of, [], []⟩
def h_is_sign : DefG := ⟨fun K => He.ga K "is_sign", "is_sign", "is_sign", defArgs s_is_sign, defBody s_is_sign, defScope s_is_sign, [], []⟩
def h_need_number : DefG := ⟨fun K => He.ga K "need_number", "need_number", "need_number", defArgs s_need_number, defBody s_need_number, defScope s_need_number, [], []⟩
def h_occurrences : DefG := ⟨fun K => He.ga K "occurrences", "occurrences", "occurrences", defArgs s_occurrences, defBody s_occurrences, defScope s_occurrences, [], []⟩
def h_are_counts : DefG := ⟨fun K => He.ga K "are_counts", "are_counts", "are_counts", defArgs s_are_counts, defBody s_are_counts, defScope s_are_counts, [], []⟩
def h_Wants_ddinitdd : DefG := ⟨fun K => He.ma K (He.ga K "Wants") "__init__", "__init__", "Wants.__init__", defArgs s_Wants_ddinitdd, defBody s_Wants_ddinitdd, defScope s_Wants_ddinitdd, [], []⟩
def h_Wants_font : DefG := ⟨fun K => gAd K (He.ga K "Wants") "font", "font", "Wants.font", defArgs s_Wants_font, defBody s_Wants_font, defScope s_Wants_font, [], []⟩
def h_Wants_counts : DefG := ⟨fun K => gAd K (He.ga K "Wants") "counts", "counts", "Wants.counts", defArgs s_Wants_counts, defBody s_Wants_counts, defScope s_Wants_counts, [], []⟩
def h_Wants_total : DefG := ⟨fun K => gAd K (He.ga K "Wants") "total", "total", "Wants.total", defArgs s_Wants_total, defBody s_Wants_total, defScope s_Wants_total, [], []⟩
def h_street_wants : DefG := ⟨fun K => He.ga K "street_wants", "street_wants", "street_wants", defArgs s_street_wants, defBody s_street_wants, defScope s_street_wants, [], []⟩
def h_street : DefG := ⟨fun K => He.ga K "street", "street", "street", defArgs s_street, defBody s_street, defScope s_street, [], []⟩
def h_is_font_text : DefG := ⟨fun K => He.ga K "is_font_text", "is_font_text", "is_font_text", defArgs s_is_font_text, defBody s_is_font_text, defScope s_is_font_text, [], []⟩
def h_are_turns : DefG := ⟨fun K => He.ga K "are_turns", "are_turns", "are_turns", defArgs s_are_turns, defBody s_are_turns, defScope s_are_turns, [], []⟩
def h_Font_ddinitdd : DefG := ⟨fun K => He.ma K (He.ga K "Font") "__init__", "__init__", "Font.__init__", defArgs s_Font_ddinitdd, defBody s_Font_ddinitdd, defScope s_Font_ddinitdd, [.adr (He.dflAt ("Font", some "__init__") 0)], []⟩
def h_Font_ddeqdd : DefG := ⟨fun K => He.ma K (He.ga K "Font") "__eq__", "__eq__", "Font.__eq__", defArgs s_Font_ddeqdd, defBody s_Font_ddeqdd, defScope s_Font_ddeqdd, [], []⟩
def h_Font_ddlendd : DefG := ⟨fun K => He.ma K (He.ga K "Font") "__len__", "__len__", "Font.__len__", defArgs s_Font_ddlendd, defBody s_Font_ddlendd, defScope s_Font_ddlendd, [], []⟩
def h_Font_signs : DefG := ⟨fun K => gAd K (He.ga K "Font") "signs", "signs", "Font.signs", defArgs s_Font_signs, defBody s_Font_signs, defScope s_Font_signs, [], []⟩
def h__law_pen : DefG := ⟨fun K => He.ga K "_law_pen", "_law_pen", "_law_pen", defArgs s__law_pen, defBody s__law_pen, defScope s__law_pen, [], []⟩
def h__law_draw : DefG := ⟨fun K => He.ga K "_law_draw", "_law_draw", "_law_draw", defArgs s__law_draw, defBody s__law_draw, defScope s__law_draw, [], []⟩
def h__law_pick : DefG := ⟨fun K => He.ga K "_law_pick", "_law_pick", "_law_pick", defArgs s__law_pick, defBody s__law_pick, defScope s__law_pick, [], []⟩
def h__law_shuffled : DefG := ⟨fun K => He.ga K "_law_shuffled", "_law_shuffled", "_law_shuffled", defArgs s__law_shuffled, defBody s__law_shuffled, defScope s__law_shuffled, [], []⟩
def h__law_font : DefG := ⟨fun K => He.ga K "_law_font", "_law_font", "_law_font", defArgs s__law_font, defBody s__law_font, defScope s__law_font, [], []⟩
def h__law_turns : DefG := ⟨fun K => He.ga K "_law_turns", "_law_turns", "_law_turns", defArgs s__law_turns, defBody s__law_turns, defScope s__law_turns, [], []⟩
def h__law_made_font : DefG := ⟨fun K => He.ga K "_law_made_font", "_law_made_font", "_law_made_font", defArgs s__law_made_font, defBody s__law_made_font, defScope s__law_made_font, [], []⟩
def h_digits_of : DefG := ⟨fun K => He.ga K "digits_of", "digits_of", "digits_of", defArgs s_digits_of, defBody s_digits_of, defScope s_digits_of, [], []⟩
def h__law_block : DefG := ⟨fun K => He.ga K "_law_block", "_law_block", "_law_block", defArgs s__law_block, defBody s__law_block, defScope s__law_block, [], []⟩
def h__law_totals : DefG := ⟨fun K => He.ga K "_law_totals", "_law_totals", "_law_totals", defArgs s__law_totals, defBody s__law_totals, defScope s__law_totals, [], []⟩
def h__law_street : DefG := ⟨fun K => He.ga K "_law_street", "_law_street", "_law_street", defArgs s__law_street, defBody s__law_street, defScope s__law_street, [], []⟩
def h_is_row : DefG := ⟨fun K => He.ga K "is_row", "is_row", "is_row", defArgs s_is_row, defBody s_is_row, defScope s_is_row, [], []⟩
def h_Font_ascending : DefG := ⟨fun K => He.ma K (He.ga K "Font") "ascending", "ascending", "Font.ascending", defArgs s_Font_ascending, defBody s_Font_ascending, defScope s_Font_ascending, [], []⟩
def h_need_signs : DefG := ⟨fun K => He.ga K "need_signs", "need_signs", "need_signs", defArgs s_need_signs, defBody s_need_signs, defScope s_need_signs, [], []⟩
def h_ShareCounts_ddinitdd : DefG := ⟨fun K => He.ma K (He.ga K "ShareCounts") "__init__", "__init__", "ShareCounts.__init__", defArgs s_ShareCounts_ddinitdd, defBody s_ShareCounts_ddinitdd, defScope s_ShareCounts_ddinitdd, [], []⟩
def h_ShareCounts_free : DefG := ⟨fun K => He.ma K (He.ga K "ShareCounts") "free", "free", "ShareCounts.free", defArgs s_ShareCounts_free, defBody s_ShareCounts_free, defScope s_ShareCounts_free, [], []⟩
def h_ShareCounts_shorter : DefG := ⟨fun K => He.ma K (He.ga K "ShareCounts") "shorter", "shorter", "ShareCounts.shorter", defArgs s_ShareCounts_shorter, defBody s_ShareCounts_shorter, defScope s_ShareCounts_shorter, [], []⟩
def h_ShareCounts_by_share : DefG := ⟨fun K => He.ma K (He.ga K "ShareCounts") "by_share", "by_share", "ShareCounts.by_share", defArgs s_ShareCounts_by_share, defBody s_ShareCounts_by_share, defScope s_ShareCounts_by_share, [], []⟩
def h_add_row : DefG := ⟨fun K => He.ga K "add_row", "add_row", "add_row", defArgs s_add_row, defBody s_add_row, defScope s_add_row, [], []⟩
def h_members_of : DefG := ⟨fun K => He.ga K "members_of", "members_of", "members_of", defArgs s_members_of, defBody s_members_of, defScope s_members_of, [], []⟩
def h_share_count : DefG := ⟨fun K => He.ga K "share_count", "share_count", "share_count", defArgs s_share_count, defBody s_share_count, defScope s_share_count, [], []⟩
def h_members_for : DefG := ⟨fun K => He.ga K "members_for", "members_for", "members_for", defArgs s_members_for, defBody s_members_for, defScope s_members_for, [], []⟩
def h_count_with : DefG := ⟨fun K => He.ga K "count_with", "count_with", "count_with", defArgs s_count_with, defBody s_count_with, defScope s_count_with, [], []⟩
def h_Wants_want : DefG := ⟨fun K => He.ma K (He.ga K "Wants") "want", "want", "Wants.want", defArgs s_Wants_want, defBody s_Wants_want, defScope s_Wants_want, [], []⟩
def h__law_row : DefG := ⟨fun K => He.ga K "_law_row", "_law_row", "_law_row", defArgs s__law_row, defBody s__law_row, defScope s__law_row, [], []⟩
def h__law_share : DefG := ⟨fun K => He.ga K "_law_share", "_law_share", "_law_share", defArgs s__law_share, defBody s__law_share, defScope s__law_share, [], []⟩
def h__law_some : DefG := ⟨fun K => He.ga K "_law_some", "_law_some", "_law_some", defArgs s__law_some, defBody s__law_some, defScope s__law_some, [], []⟩
def h__law_counts : DefG := ⟨fun K => He.ga K "_law_counts", "_law_counts", "_law_counts", defArgs s__law_counts, defBody s__law_counts, defScope s__law_counts, [], []⟩
def h_law : DefG := ⟨fun K => He.ga K "law", "law", "law", defArgs s_law, defBody s_law, defScope s_law, [], []⟩
def fbs0 : List Chk := [(He.Fa.glo "is_integer").ok,
  (He.Fa.glo "is_between").ok,
  (He.Fa.glo "is_list").ok,
  (He.Fa.glo "is_tuple_of").ok,
  (He.Fa.glo "is_sign").ok,
  (He.Fa.glo "need_number").ok,
  (He.Fa.glo "occurrences").ok,
  (He.Fa.glo "are_counts").ok,
  (He.Fa.glo "street_wants").ok,
  (He.Fa.glo "street").ok,
  (He.Fa.glo "is_font_text").ok,
  (He.Fa.glo "are_turns").ok,
  (He.Fa.glo "_law_pen").ok,
  (He.Fa.glo "_law_draw").ok,
  (He.Fa.glo "_law_pick").ok,
  (He.Fa.glo "_law_shuffled").ok,
  (He.Fa.glo "_law_font").ok,
  (He.Fa.glo "_law_turns").ok,
  (He.Fa.glo "_law_made_font").ok,
  (He.Fa.glo "digits_of").ok,
  (He.Fa.glo "_law_block").ok,
  (He.Fa.glo "_law_totals").ok,
  (He.Fa.glo "_law_street").ok,
  (He.Fa.glo "is_row").ok,
  (He.Fa.glo "need_signs").ok,
  (He.Fa.glo "add_row").ok,
  (He.Fa.glo "members_of").ok,
  (He.Fa.glo "share_count").ok,
  (He.Fa.glo "members_for").ok,
  (He.Fa.glo "count_with").ok,
  (He.Fa.glo "_law_row").ok,
  (He.Fa.glo "_law_share").ok,
  (He.Fa.glo "_law_some").ok,
  (He.Fa.glo "_law_counts").ok,
  (He.Fa.glo "law").ok,
  (He.Fa.free "len").ok,
  (He.Fa.free "isinstance").ok,
  (He.Fa.free "int").ok,
  (He.Fa.free "bool").ok,
  (He.Fa.free "str").ok,
  (He.Fa.free "list").ok,
  (He.Fa.free "tuple").ok,
  (He.Fa.free "dict").ok,
  (He.Fa.free "range").ok,
  (He.Fa.free "max").ok,
  (He.Fa.free "enumerate").ok,
  (He.Fa.free "all").ok,
  (He.Fa.free "sum").ok,
  (He.Fa.free "min").ok,
  (He.Fa.free "abs").ok,
  (He.Fa.free "repr").ok,
  (He.Fa.free "sorted").ok,
  (He.Fa.int "MAX_COUNT" (10 ^ 30)).ok,
  (He.Fa.str "SIGNS" "0123456789abcdefghijklmnopqrstuvwxyz").ok,
  (He.Fa.int "LEAST_SIGNS" 2).ok,
  (He.Fa.int "MOST_SHARE" 1000).ok,
  (He.Fa.glo "Font").ok,
  (He.Fa.cls "Font").ok,
  (He.Fa.mkr "Font").ok,
  (He.Fa.noat "Font" "word").ok,
  (He.Fa.noat "Font" "ranks").ok,
  (He.Fa.noat "Font" "heads").ok,
  (propB "Font" "signs"),
  (He.Fa.meth "Font" "__eq__").ok,
  (He.Fa.meth "Font" "__len__").ok,
  (He.Fa.meth "Font" "ascending").ok,
  (conB "Font" "MAX_SIGNS" (.int 10)),
  (He.Fa.glo "Wants").ok,
  (He.Fa.cls "Wants").ok,
  (He.Fa.mkr "Wants").ok,
  (He.Fa.noat "Wants" "own_font").ok,
  (He.Fa.noat "Wants" "numbers").ok,
  (propB "Wants" "font"),
  (propB "Wants" "counts"),
  (propB "Wants" "total"),
  (He.Fa.meth "Wants" "want").ok,
  (He.Fa.glo "ShareCounts").ok,
  (He.Fa.cls "ShareCounts").ok,
  (He.Fa.mkr "ShareCounts").ok,
  (He.Fa.noat "ShareCounts" "base").ok,
  (He.Fa.noat "ShareCounts" "places").ok,
  (He.Fa.noat "ShareCounts" "free_rows").ok,
  (He.Fa.noat "ShareCounts" "shorter_rows").ok,
  (He.Fa.meth "ShareCounts" "free").ok,
  (He.Fa.meth "ShareCounts" "shorter").ok,
  (He.Fa.meth "ShareCounts" "by_share").ok,
  sysB,
  (insB "Font"),
  (neB "Font"),
  (nfB "Font" "Font")]
def fbs : List Chk := fbs0
def fns : List DefG := [h_is_integer, h_is_between, h_is_list, h_is_tuple_of, h_is_sign, h_need_number, h_occurrences, h_are_counts, h_Wants_ddinitdd, h_Wants_font, h_Wants_counts, h_Wants_total, h_street_wants, h_street, h_is_font_text, h_are_turns, h_Font_ddinitdd, h_Font_ddeqdd, h_Font_ddlendd, h_Font_signs, h__law_pen, h__law_draw, h__law_pick, h__law_shuffled, h__law_font, h__law_turns, h__law_made_font, h_digits_of, h__law_block, h__law_totals, h__law_street, h_is_row, h_Font_ascending, h_need_signs, h_ShareCounts_ddinitdd, h_ShareCounts_free, h_ShareCounts_shorter, h_ShareCounts_by_share, h_add_row, h_members_of, h_share_count, h_members_for, h_count_with, h_Wants_want, h__law_row, h__law_share, h__law_some, h__law_counts, h_law]
def names0 : List PySem.Str := ["_wall", "InvalidFont", "InvalidTurns", "InvalidSigns", "InvalidWants", "InvalidRow", "InvalidNumber", "OtherFont", "UnknownSign", "BLANK", "MAX_COUNT", "is_integer", "is_between", "is_list", "is_tuple_of", "is_sign", "is_row", "need_number", "need_sign", "need_signs", "need_one_font", "digits_of", "occurrences", "ShareCounts", "add_row", "members_of", "share_count", "are_counts", "Wants", "MOST_SHARE"]
def names1 : List PySem.Str := ["street_wants", "street", "members_for", "count_with", "SIGNS", "LEAST_SIGNS", "is_font_text", "are_turns", "Font", "_law_pen", "_law_draw", "_law_pick", "_law_shuffled", "_law_font", "_law_turns", "_law_made_font", "_law_row", "_law_share", "_law_block", "_law_totals", "_law_street", "_law_some", "_law_counts"]
def names : List PySem.Str := names0 ++ names1
def adrs : List Addr := sysModules :: [3, 6, 4, 21, 38, 58, 78, 98, 118, 138, 158, 178, 188, 195, 202, 209, 216, 221, 228, 235, 240, 247, 254, 261, 311, 322, 327, 334, 339, 444, 453, 460, 467, 474, 479, 484, 592, 603, 610, 617, 624, 631, 638, 645, 652, 657, 662, 669, 674, 679, 684, 689, 0, 20, 37, 57, 77, 97, 117, 137, 157, 177, 187, 194, 201, 208, 215, 220, 227, 234, 239, 246, 253, 260, 310, 321, 326, 333, 338, 443, 452, 459, 466, 473, 478, 483, 591, 602, 609, 616, 623, 630, 637, 644, 651, 656, 661, 668, 673, 678, 683, 688, 15, 16, 17, 18, 19, 35, 36, 39, 55, 56, 59, 75, 76, 79, 95, 96, 99, 115, 116, 119, 135, 136, 139, 155, 156, 159, 175, 176, 179, 182, 183, 184, 185, 186, 189, 190, 191, 192, 193, 196, 197, 198, 199, 200, 203, 204, 205, 206, 207, 210, 211, 212, 213, 214, 217, 218, 219, 222, 223, 224, 225, 226, 229, 230, 231, 232, 233, 236, 237, 238, 241, 242, 243, 244, 245, 248, 249, 250, 251, 252, 255, 256, 257, 258, 259, 275, 280, 287, 294, 301, 308, 309, 312, 313, 316, 317, 318, 319, 320, 323, 324, 325, 328, 329, 330, 331, 332, 335, 336, 337, 351, 358, 368, 376, 383, 390, 397, 402, 407, 415, 421, 429, 436, 441, 442, 445, 446, 449, 450, 451, 454, 455, 456, 457, 458, 461, 462, 463, 464, 465, 468, 469, 470, 471, 472, 475, 476, 477, 480, 481, 482, 498, 507, 515, 523, 530, 537, 545, 551, 556, 563, 568, 575, 582, 589, 590, 593, 594, 597, 598, 599, 600, 601, 604, 605, 606, 607, 608, 611, 612, 613, 614, 615, 618, 619, 620, 621, 622, 625, 626, 627, 628, 629, 632, 633, 634, 635, 636, 639, 640, 641, 642, 643, 646, 647, 648, 649, 650, 653, 654, 655, 658, 659, 660, 663, 664, 665, 666, 667, 670, 671, 672, 675, 676, 677, 680, 681, 682, 685, 686, 687, 34, 54, 74, 94, 114, 134, 154, 174, 274, 279, 286, 293, 300, 307, 350, 356, 357, 366, 367, 375, 382, 389, 396, 401, 406, 414, 420, 428, 435, 440, 497, 493, 505, 506, 513, 514, 522, 529, 536, 544, 550, 555, 562, 567, 574, 581, 588, 29, 30, 31, 32, 33, 49, 50, 51, 52, 53, 69, 70, 71, 72, 73, 89, 90, 91, 92, 93, 109, 110, 111, 112, 113, 129, 130, 131, 132, 133, 149, 150, 151, 152, 153, 169, 170, 171, 172, 173, 269, 270, 271, 272, 273, 276, 277, 278, 281, 282, 283, 284, 285, 288, 289, 290, 291, 292, 295, 296, 297, 298, 299, 302, 303, 304, 305, 306, 347, 348, 349, 355, 359, 365, 369, 370, 371, 372, 373, 374, 377, 378, 379, 380, 381, 384, 385, 386, 387, 388, 391, 392, 393, 394, 395, 398, 399, 400, 403, 404, 405, 413, 419, 427, 430, 431, 432, 433, 434, 437, 438, 439, 494, 495, 496, 492, 504, 508, 512, 516, 517, 518, 519, 520, 521, 524, 525, 526, 527, 528, 531, 532, 533, 534, 535, 543, 549, 552, 553, 554, 557, 558, 559, 560, 561, 564, 565, 566, 569, 570, 571, 572, 573, 576, 577, 578, 579, 580, 583, 584, 585, 586, 587, 352, 353, 354, 360, 361, 362, 363, 364, 408, 409, 410, 411, 412, 416, 417, 418, 422, 423, 424, 425, 426, 499, 500, 501, 502, 503, 509, 510, 511, 538, 539, 540, 541, 542, 546, 547, 548]
abbrev R : PySem.W.OpenRow := PySem.W.OpenLaw.row PySem.Challenge.rw_hymnplates_k78_whole_counts_by_share
abbrev hk : PySem.W.Hook := hookL adrs fbs fns
def ob (s : PySem.W.SharedT) : He.AlD := obsLL adrs fbs fns (HandSHeadRun.getT s)
theorem ob_eq (s : PySem.W.SharedT) : ob s = hk.obs s.abs := obsLL_eq (HandSHeadRun.getT_eq s)
theorem run (w : World) : HandSHeadRun.RunEq R (PySem.W.view R.prog [60]) hk ob 20000 names w := by
  intro os
  kernel_rfl
end K74

set_option Elab.async false
set_option linter.all false
/-! One sign counted, found in a text. -/
namespace G
open PySem PySem.StrLaws PySem.Builtin PySem.Builtin.Str

/-- the places of a sign -/
def places (l : List Nat) (c : Nat) (lo n : Nat) : List Nat := (List.range' lo n).filter fun i => l[i]? == some c
theorem occ_one_gen (x : Str) (c limit : Nat) : ∀ (n lo : Nat) (acc : Array Nat) (free : Nat), free ≤ lo →
    (forIn (List.range' lo n) (acc, free) (occBody x ⟨#[c]⟩ x.length limit)).run.fst.toList = acc.toList ++ (places x.cps.toList c lo n).take (limit - acc.size)
  | 0, lo, acc, free, _ => by simp [places]
  | n + 1, lo, acc, free, hf => by
    rw [List.range'_succ, List.forIn_cons]
    unfold occBody
    have hp : places x.cps.toList c lo (n + 1) = (if x.cps.toList[lo]? = some c then [lo] else []) ++ places x.cps.toList c (lo + 1) n := by
      unfold places
      rw [List.range'_succ, List.filter_cons]
      generalize x.cps.toList = l
      by_cases h : l[lo]? = some c
      · simp [h]
      · simp [h]
    by_cases hc : x.cps.toList[lo]? = some c
    · have h2 := (subAt_one x c lo).mpr hc
      rw [hp, if_pos hc]
      by_cases hl : acc.size < limit
      · rw [if_pos ⟨⟨⟨hl, hf⟩, h2.1⟩, h2.2⟩]
        have ih := occ_one_gen x c limit n (lo + 1) (acc.push lo) (lo + 1) (Nat.le_refl _)
        refine Eq.trans ih ?_
        rw [Array.toList_push, Array.size_push]
        obtain ⟨k, hk⟩ : ∃ k, limit - acc.size = k + 1 := ⟨limit - acc.size - 1, by omega⟩
        rw [hk, show limit - (acc.size + 1) = k by omega]
        simp
      · rw [if_neg (fun h => hl h.1.1.1)]
        have ih := occ_one_gen x c limit n (lo + 1) acc free (by omega)
        refine Eq.trans ih ?_
        rw [show limit - acc.size = 0 by omega]
        simp
    · rw [hp, if_neg hc, if_neg (fun h => hc ((subAt_one x c lo).mp ⟨h.1.2, h.2⟩)), List.nil_append]
      exact occ_one_gen x c limit n (lo + 1) acc free (by omega)
theorem occ_one (x : Str) (c limit : Nat) : occurrences x ⟨#[c]⟩ 0 x.length limit = (places x.cps.toList c 0 (x.length + 1)).take limit := by
  rw [occ_eq]
  have := occ_one_gen x c limit (x.length + 1 - 0) 0 #[] 0 (Nat.le_refl _)
  simpa using this
theorem places_shift (l : List Nat) (a c : Nat) : ∀ n lo, places (a :: l) c (lo + 1) n = (places l c lo n).map (· + 1)
  | 0, lo => rfl
  | n + 1, lo => by
    have ih := places_shift l a c n (lo + 1)
    unfold places at ih ⊢
    rw [List.range'_succ, List.range'_succ, List.filter_cons, List.filter_cons, ih]
    rw [List.getElem?_cons_succ]
    split <;> simp
theorem places_nil (c : Nat) (n lo : Nat) : places [] c lo n = [] := by
  unfold places
  rw [List.filter_eq_nil_iff]
  simp
theorem places_cons (l : List Nat) (a c n : Nat) : places (a :: l) c 0 (n + 1) = (if a = c then [0] else []) ++ (places l c 0 n).map (· + 1) := by
  rw [← places_shift l a c n 0]
  unfold places
  rw [List.range'_succ, List.filter_cons]
  by_cases h : a = c
  · simp [h]
  · simp [h]
theorem places_len (c : Nat) : ∀ (l : List Nat) (n : Nat), l.length ≤ n → (places l c 0 n).length = l.count c
  | [], n, _ => by rw [places_nil]; simp
  | a :: l, 0, h => by simp at h
  | a :: l, n + 1, h => by
    rw [places_cons, List.length_append, List.length_map, places_len c l n (by simpa using h), List.count_cons]
    by_cases e : a = c
    · simp [e]; omega
    · have : (a == c) = false := by simpa using e
      simp [e]
theorem places_head (c : Nat) : ∀ (l : List Nat) (n : Nat), l.length ≤ n → c ∈ l → (places l c 0 n).head? = some (l.idxOf c)
  | [], n, _, h => by cases h
  | a :: l, 0, h, _ => by simp at h
  | a :: l, n + 1, h, hm => by
    rw [places_cons]
    by_cases e : a = c
    · subst e
      simp [List.idxOf_cons]
    · have hm2 : c ∈ l := by
        rcases List.mem_cons.mp hm with q | q
        · exact absurd q.symm e
        · exact q
      have ih := places_head c l n (by simpa using h) hm2
      have e2 : (a == c) = false := by simpa using e
      rw [if_neg e, List.nil_append, List.head?_map, ih, List.idxOf_cons, e2]
      rfl
theorem count_one (x : Str) (c : Nat) : Txt.count x ⟨#[c]⟩ = (x.cps.toList.count c : Nat) := by
  unfold Txt.count
  rw [occ_one, List.take_of_length_le, places_len]
  · simp [Str.length]
  · rw [places_len]
    · have := List.count_le_length (a := c) (l := x.cps.toList)
      simp [Str.length] at this ⊢
      omega
    · simp [Str.length]
theorem index_one (x : Str) (c : Nat) (h : c ∈ x.cps.toList) : occurrences x ⟨#[c]⟩ 0 x.length 1 = x.cps.toList.idxOf c :: [] := by
  rw [occ_one]
  have := places_head c x.cps.toList (x.length + 1) (by simp [Str.length]) h
  cases e : places x.cps.toList c 0 (x.length + 1) with
  | nil => rw [e] at this; cases this
  | cons a r =>
    rw [e] at this
    simp at this
    simp [this]
theorem joinL_nil : ∀ ls : List (List Nat), TL.joinL [] ls = ls.flatten
  | [] => rfl
  | [p] => by simp [TL.joinL]
  | p :: q :: r => by
    show p ++ ([] ++ TL.joinL [] (q :: r)) = _
    rw [joinL_nil (q :: r)]
    simp
theorem join_empty (ls : List (List Nat)) : Txt.join (Str.ofString "") (ls.map fun l => (⟨l.toArray⟩ : Str)) = ⟨ls.flatten.toArray⟩ := by
  have e1 : Str.ofString "" = (⟨([] : List Nat).toArray⟩ : Str) := by decide +kernel
  rw [e1]
  refine Eq.trans (SX.join_S [] ls) ?_
  rw [joinL_nil]
end G

set_option Elab.async false
set_option linter.all false
set_option maxRecDepth 100000
set_option maxHeartbeats 4000000
/-! list of a range of numbers of any size. -/
namespace G
open PySem PySem.Spec PyProof.Rows L2
section
variable {prog : Program} {w : World} {A : Around} {E : Value → Shared → Prop} {s : Shared}
theorem extend_long {R : Result → Shared → Prop} {r : Addr} {lo hi : Int} {t u v : Tok} {m : Nat} (hh : A.handled = none) (rg : IsRange s.heap r lo hi 1 t u v) (big : Builtin.Range.small lo hi 1 = false)
    (size : Builtin.Range.rangeSize lo hi 1 = m) (few : m ≤ 2 ^ 24) (L : Addr) (out : Value) (c₀ : Nat) (hL : s.heap.get? L = some { cls := .type "list", data := .seq #[] c₀ })
    (fin : ∀ h' tk acc' c', (∀ b o, b ≠ L → s.heap.get? b = some o → h'.get? b = some o) → h'.get? L = some { cls := .type "list", dict := none, data := .seq acc' c', slots := #[] } →
      ItemsOf (fun i v => ∃ t, v = .int (lo + i * 1) t) acc' m → R (.ok (.ret out)) { s with heap := h', toks := tk }) :
    wpAny (model prog w) A.in1 (Builtin.List.listExtendWith (.ref L) (.ref r) out)
      (fun f s' => match f with | .done f => R (.ok f) s' | .again c' => c'.quiet = true ∧ codeAny (model prog w) A c' R s') (fun e s' => R (.error e) s') s := by
  have nr : L ≠ r := fun e => by rw [e, rg] at hL; simp at hL
  have lt : L < s.heap.objs.size := Heap.lt_size hL
  have ni : L ≠ s.heap.objs.size := Nat.ne_of_lt lt
  have nf : L ∉ [s.heap.objs.size] := fun hm => ni (List.mem_singleton.mp hm)
  have walk := (Walks.longrange (prog := prog) (w := w) (A := A.in1) hh s.heap.objs.size lo 1 m).toS
  have loop : ∀ (h : Heap) (c₁ tk : Nat), IsLongIter h s.heap.objs.size (lo + ((0 : Nat) : Int) * 1) ((m : Int) - ((0 : Nat) : Int)) 1 → (∀ b o, b ≠ L → s.heap.get? b = some o → h.get? b = some o) →
      h.get? L = some { cls := .type "list", data := .seq #[] c₁ } → codeAny (model prog w) A (.builtin "list.extend.loop" ⟨[.ref L, .ref s.heap.objs.size, out], []⟩) R { s with heap := h, toks := tk } := by
    intro h c₁ tk it old h1
    refine codeAny_extend_loopS walk (by rw [sizeLine_eq]; omega) L nf out m 0 _ #[] c₁ rfl (Nat.zero_le _) it h1 (ItemsOf.nil _) fun s' acc' c' mv h2 acc => ?_
    rw [Moved.eq_with mv]
    refine fin s'.heap s'.toks acc' c' (fun b o nb e => mv.heap b o (fun hm => ?_) (old b o nb e)) h2 acc
    rcases List.mem_cons.mp hm with q | q
    · exact nb q
    · exact absurd (Heap.lt_size e) (by rw [List.mem_singleton.mp q]; exact Nat.lt_irrefl _)
  unfold Builtin.List.listExtendWith
  refine wpAny_bind (wpAny_typeOf (T := "range") ⟨_, rg, rfl⟩ ?_)
  have d1 : Builtin.List.listSameRef (.ref L) (.ref r) = false := by simp [Builtin.List.listSameRef, nr]
  have d2 : (Value.type "range" == Value.type "list") = false := by decide
  have d3 : (Value.type "range" == Value.type "tuple") = false := by decide
  simp only [d1, d2, d3, Bool.or_false, Bool.false_eq_true, if_false]
  refine wpAny_bind (wpAny_pyIter_longrange rg big ?_)
  obtain ⟨io, hio⟩ : ∃ io : Obj, io = { cls := .type "longrange_iterator", data := .fields #[rawInt lo, rawInt (Builtin.Range.rangeSize lo hi 1), rawInt 1] } := ⟨_, rfl⟩
  rw [← hio]
  have it1 : IsLongIter (s.heap.push io) s.heap.objs.size (lo + ((0 : Nat) : Int) * 1) ((m : Int) - ((0 : Nat) : Int)) 1 := by
    show IsLongIter _ _ _ _ _
    rw [hio, size]
    simpa using Heap.get?_push_size _ rfl
  refine wpAny_bind (wpAny_holding (wpAny_hint_range (n := m) (Heap.get?_push_of_some _ rg) size few ?_))
  have g1 := Heap.get?_push_of_some io hL
  refine wpAny_ite_split (fun _ => ?_) (fun _ => wpAny_pure ⟨plainId_quiet F.plain_extend_loop _, loop _ c₀ _ it1 (fun b o _ e => Heap.get?_push_of_some _ e) g1⟩)
  refine wpAny_bind (wpAny_rule (wpAny_bind ?_))
  show wpAny _ _ (updateSeq L (·.push .none) >>= fun _ => updateSeq L (·.pop)) _ _ _
  refine wpAny_bind (wpAny_updateSeq g1 rfl ?_)
  have g2 := Heap.get?_update_self (Obj.mapSeq (·.push Value.none)) g1 rfl
  refine wpAny_updateSeq (hz := by seq_fits) g2 rfl (wpAny_pure ⟨plainId_quiet F.plain_extend_loop _, loop _ _ _ ?_ (fun b o nb e => ?_) (Heap.get?_update_self (Obj.mapSeq (·.pop)) g2 rfl)⟩)
  · exact (Heap.get?_update_other _ _ ni).trans ((Heap.get?_update_other _ _ ni).trans it1)
  · exact (Heap.get?_update_other _ _ (Ne.symm nb)).trans ((Heap.get?_update_other _ _ (Ne.symm nb)).trans (Heap.get?_push_of_some _ e))

theorem call_list_long {Q : Value → Shared → Prop} {r : Addr} {lo hi : Int} {t u v : Tok} {m : Nat} (hh : A.handled = none) (rg : IsRange s.heap r lo hi 1 t u v) (big : Builtin.Range.small lo hi 1 = false)
    (size : Builtin.Range.rangeSize lo hi 1 = m) (few : m ≤ 2 ^ 24)
    (fin : ∀ h' tk acc' c', (∀ b o, s.heap.get? b = some o → h'.get? b = some o) →
      h'.get? s.heap.objs.size = some { cls := .type "list", dict := none, data := .seq acc' c', slots := #[] } → ItemsOf (fun i v => ∃ t, v = .int (lo + i * 1) t) acc' m → Q (.ref s.heap.objs.size) { s with heap := h', toks := tk }) :
    wpAny (model prog w) A (call (.type "list") [.ref r]) Q E s := by
  refine callType_codes (Q₁ := fun o s₁ => o = .ref s.heap.objs.size ∧ s₁ = { s with heap := s.heap.push { cls := .type "list", data := .seq #[] } }) F.called_list (F.typeCall_list_1 _) F.entry_list_init
    (code_list_new _ ⟨rfl, rfl⟩) fun o s₁ ho => ?_
  obtain ⟨rfl, rfl⟩ := ho
  have hL : (s.heap.push { cls := .type "list", data := .seq #[] }).get? s.heap.objs.size = some { cls := .type "list", data := .seq #[] } := Heap.get?_push_size _ rfl
  refine ⟨⟨_, hL, rfl⟩, F.args_list_init_2 _ _, ?_⟩
  have rg1 := Heap.get?_push_of_some { cls := .type "list", data := .seq #[] } rg
  have nr : s.heap.objs.size ≠ r := fun e => by rw [← e, hL] at rg1; simp at rg1
  show wpAny _ _ (do let old ← Builtin.List.listItems (.ref s.heap.objs.size); Builtin.List.listUpdate (.ref s.heap.objs.size) (fun _ => #[]); letGo old.toList.reverse; Builtin.List.listExtendWith (.ref s.heap.objs.size) (.ref r) .none) _ _ _
  refine wpAny_bind ?_
  unfold Builtin.List.listItems
  refine wpAny_bind (wpAny_seqItems hL rfl (wpAny_pure ?_))
  show wpAny _ _ (updateSeq s.heap.objs.size (fun _ => #[]) >>= fun _ => letGo (#[] : Array Value).toList.reverse >>= fun _ => Builtin.List.listExtendWith (.ref s.heap.objs.size) (.ref r) .none) _ _ _
  refine wpAny_bind (wpAny_updateSeq hL rfl (wpAny_bind (wpAny_letGo ?_)))
  have h2 := Heap.get?_update_self (Obj.mapSeq (fun _ => (#[] : Array Value))) hL rfl
  have oth : ∀ b o, b ≠ s.heap.objs.size → (s.heap.push { cls := .type "list", data := .seq #[] }).get? b = some o → ((s.heap.push { cls := .type "list", data := .seq #[] }).update s.heap.objs.size (Obj.mapSeq (fun _ => (#[] : Array Value)))).get? b = some o :=
    fun b o nb e => (Heap.get?_update_other _ _ (Ne.symm nb)).trans e
  refine extend_long (s := { s with heap := (s.heap.push { cls := .type "list", data := .seq #[] }).update s.heap.objs.size (Obj.mapSeq (fun _ => (#[] : Array Value))) }) (A := A.in1) hh (oth r _ (Ne.symm nr) rg1) big size few s.heap.objs.size .none _ h2 fun h' tk acc' c' old h3 acc => ?_
  exact ⟨rfl, fin h' tk acc' c' (fun b o e => old b o (Nat.ne_of_lt (Heap.lt_size e)) (oth b o (Nat.ne_of_lt (Heap.lt_size e)) (Heap.get?_push_of_some _ e))) h3 acc⟩
end
section
variable {X : Cx} {e : Expr} {te : L2.St → Hp → (Int → Int → Hp → Prop) → Prop}
/-- list(range(..)) of numbers of any size -/
def tLstRgA (te : L2.St → Hp → (Int → Int → Hp → Prop) → Prop) : TE := fun σ H Q => te σ H fun a b H1 => (b - a).toNat ≤ 16777216 ∧ ∀ q, H1 q = none → Q (.ref q) (upd H1 q (.lst (rgV a b)))
theorem pe_listRgA {p pos : Pos} (hc : X.calm = true) (hg : Gl X "list") (hm : X.mg "list" = none) (he : PRg X e te) (na : starEach [e] X.env = (false, eval e X.env) :: starEach [] X.env := by rfl) : PE X (.Call (.Name "list" p) [e] [] pos) (tLstRgA te) := by
  refine ⟨fun pins s σ H Q I h => Call_ (ld_blt I hg hm boot_list (PyProof.Rows.callWith_type1 (args_cons (thn (he pins s σ H _ I h) fun x s1 z => args_nil ?_) na) na))⟩
  obtain ⟨r, a, b, t, u, v, H1, ex, hr, I1, few, q⟩ := z
  subst ex
  have done : ∀ h' tk acc c', (∀ b o, s1.heap.get? b = some o → h'.get? b = some o) → h'.get? s1.heap.objs.size = some { cls := .type "list", dict := none, data := .seq acc c', slots := #[] } →
      ItemsOf (fun i v => ∃ t, v = .int (a + i * 1) t) acc (b - a).toNat → EP X pins σ Q (.ref s1.heap.objs.size) { s1 with heap := h', toks := tk } := by
    intro h' tk acc c' old hl items
    refine ⟨.ref s1.heap.objs.size, upd H1 s1.heap.objs.size (.lst (rgV a b)), I1.laid old (Nat.le_refl _) (show ObjOk X.prog X.w _ _ _ (.lst (rgV a b)) from ⟨?_, acc.toList, c', vals_rg items, by rw [Array.toArray_toList]; exact hl⟩), rfl, q _ (I1.hok.fresh (Nat.le_refl _))⟩
    rw [rgV_length, sizeLine_eq]
    omega
  have few2 : (b - a).toNat ≤ 2 ^ 24 := by omega
  cases sm : Builtin.Range.small a b 1 with
  | true => exact call_list_range (n := (b - a).toNat) (I1.ok.hd hc) hr sm (rangeSize_nat a b) few2 done
  | false => exact call_list_long (m := (b - a).toNat) (I1.ok.hd hc) hr sm (rangeSize_nat a b) few2 done
end
end G

set_option Elab.async false
set_option linter.all false
/-! Digits counted: plain arithmetic. -/
namespace K74
/-- what one place adds to the count of the digit d in the numbers up to l -/
def fdig (l b p d : Int) : Int := max 0 ((if 0 < d then l / (p * b) else l / (p * b) - 1) + (if d < l / p % b then 1 else 0)) * p + (if d = l / p % b ∧ (0 < d ∨ 0 < l / (p * b)) then l % p + 1 else 0)
def occN (l b : Int) : Nat → Int → Int
  | 0, _ => 0
  | i + 1, d => occN l b i d + fdig l b (b ^ i) d

def gpl (p d a h r : Int) : Int := max 0 ((if 0 < d then a else a - 1) + (if d < h then 1 else 0)) * p + (if d = h ∧ (0 < d ∨ 0 < a) then r + 1 else 0)
def ind (d a h : Int) : Int := if d = h ∧ (0 < d ∨ 0 < a) then 1 else 0
theorem fdig_gpl (l b p d : Int) : fdig l b p d = gpl p d (l / (p * b)) (l / p % b) (l % p) := rfl
theorem max_nn {x : Int} (h : 0 ≤ x) : max 0 x = x := by omega
theorem g1 (p d a h r : Int) : gpl p d a h r = gpl p d a h (r - 1) + ind d a h := by
  unfold gpl ind
  split <;> omega
theorem g2 {p d a h : Int} (hd : 0 ≤ d) (ha : 0 ≤ a) (hh : 1 ≤ h) : gpl p d a h 0 = gpl p d a (h - 1) (p - 1) + ind d a h := by
  unfold gpl ind
  by_cases d0 : 0 < d
  · rw [if_pos d0]
    by_cases c1 : d < h - 1
    · rw [if_pos (by omega : d < h), if_pos c1, if_neg (by omega), if_neg (by omega), if_neg (by omega)]
      omega
    · by_cases c2 : d = h - 1
      · rw [if_pos (by omega : d < h), if_neg c1, if_neg (by omega), if_pos (by omega), if_neg (by omega), max_nn (by omega), max_nn (by omega), Int.add_mul, Int.add_mul]
        omega
      · rw [if_neg (by omega : ¬ d < h), if_neg c1, if_neg (by omega : ¬ (d = h - 1 ∧ (0 < d ∨ 0 < a)))]
        split <;> omega
  · obtain rfl : d = 0 := by omega
    rw [if_neg d0, if_pos (by omega : (0 : Int) < h)]
    by_cases c1 : (0 : Int) < h - 1
    · rw [if_pos c1, if_neg (by omega), if_neg (by omega), if_neg (by omega)]
      omega
    · obtain rfl : h = 1 := by omega
      by_cases a0 : 0 < a
      · rw [if_neg c1, if_neg (by omega), if_pos (by omega), if_neg (by omega), max_nn (by omega), max_nn (by omega), show a - 1 + 1 = a by omega, show a - 1 + 0 = a - 1 by omega, Int.sub_mul]
        omega
      · obtain rfl : a = 0 := by omega
        rw [if_neg c1, if_neg (by omega), if_neg (by omega), if_neg (by omega), show max (0 : Int) (0 - 1 + 1) = 0 by decide, show max (0 : Int) (0 - 1 + 0) = 0 by decide]
        simp
theorem g3 {p d a b : Int} (hd : 0 ≤ d) (hdb : d < b) (hb : 2 ≤ b) (ha : 1 ≤ a) : gpl p d a 0 0 = gpl p d (a - 1) (b - 1) (p - 1) + ind d a 0 := by
  unfold gpl ind
  by_cases d0 : 0 < d
  · rw [if_pos d0, if_pos d0, if_neg (by omega : ¬ d < 0), if_neg (by omega : ¬ (d = 0 ∧ (0 < d ∨ 0 < a)))]
    by_cases c1 : d < b - 1
    · rw [if_pos c1, if_neg (by omega), max_nn (by omega), max_nn (by omega)]
      have : a + 0 = a - 1 + 1 := by omega
      rw [this, if_neg (by omega : ¬ (d = 0 ∧ (0 < d ∨ 0 < a)))]
      omega
    · rw [if_neg c1, if_pos (by omega), max_nn (by omega), max_nn (by omega), show a + 0 = a by omega, show a - 1 + 0 = a - 1 by omega, Int.sub_mul, if_neg (by omega : ¬ (d = 0 ∧ (0 < d ∨ 0 < a)))]
      omega
  · obtain rfl : d = 0 := by omega
    rw [if_neg d0, if_neg d0, if_neg (by omega : ¬ (0 : Int) < 0), if_pos (by omega : (0 : Int) < b - 1), if_pos (by omega), if_neg (by omega), if_pos (by omega), max_nn (by omega), max_nn (by omega)]
    have : a - 1 + 0 = a - 1 - 1 + 1 := by omega
    rw [this]
    omega
theorem dd {x p b : Int} (hp : 0 < p) : x / p / b = x / (p * b) := by
  rw [Int.ediv_ediv, if_neg (by omega), Int.sub_zero]
theorem fdig_step {N b p d : Int} (hN : 0 ≤ N) (hp : 0 < p) (hb : 2 ≤ b) (hd : 0 ≤ d) (hdb : d < b) :
    fdig (N + 1) b p d = fdig N b p d + ind d ((N + 1) / (p * b)) ((N + 1) / p % b) := by
  rw [fdig_gpl, fdig_gpl]
  have hp' : p ≠ 0 := by omega
  have e1 := Int.mul_ediv_add_emod (N + 1) p
  have r0 := Int.emod_nonneg (N + 1) hp'
  have r1 := Int.emod_lt_of_pos (N + 1) hp
  rw [← dd hp, ← dd hp]
  have q0 : 0 ≤ (N + 1) / p := Int.ediv_nonneg (by omega) (by omega)
  generalize (N + 1) / p = q at *
  generalize (N + 1) % p = r at *
  by_cases c : 1 ≤ r
  · have h1 : N / p = q := by
      rw [show N = (r - 1) + p * q by omega, Int.add_mul_ediv_left _ _ hp', Int.ediv_eq_zero_of_lt (by omega) (by omega)]
      omega
    have h2 : N % p = r - 1 := by
      rw [show N = (r - 1) + p * q by omega, Int.add_mul_emod_self_left, Int.emod_eq_of_lt (by omega) (by omega)]
    rw [h1, h2]
    exact g1 _ _ _ _ _
  · obtain rfl : r = 0 := by omega
    have q1 : 1 ≤ q := by
      by_cases z : q = 0
      · rw [z] at e1; simp at e1; omega
      · omega
    have hN2 : N = (p - 1) + p * (q - 1) := by rw [Int.mul_sub]; omega
    have h1 : N / p = q - 1 := by
      rw [hN2, Int.add_mul_ediv_left _ _ hp', Int.ediv_eq_zero_of_lt (by omega) (by omega)]
      omega
    have h2 : N % p = p - 1 := by
      rw [hN2, Int.add_mul_emod_self_left, Int.emod_eq_of_lt (by omega) (by omega)]
    rw [h1, h2]
    have e2 := Int.mul_ediv_add_emod q b
    have s0 := Int.emod_nonneg q (show b ≠ 0 by omega)
    have s1 := Int.emod_lt_of_pos q (show 0 < b by omega)
    have a0 : 0 ≤ q / b := Int.ediv_nonneg (by omega) (by omega)
    generalize q / b = a at *
    generalize q % b = h at *
    by_cases c2 : 1 ≤ h
    · have k1 : (q - 1) / b = a := by
        rw [show q - 1 = (h - 1) + b * a by omega, Int.add_mul_ediv_left _ _ (by omega), Int.ediv_eq_zero_of_lt (by omega) (by omega)]
        omega
      have k2 : (q - 1) % b = h - 1 := by
        rw [show q - 1 = (h - 1) + b * a by omega, Int.add_mul_emod_self_left, Int.emod_eq_of_lt (by omega) (by omega)]
      rw [k1, k2]
      exact g2 hd a0 c2
    · obtain rfl : h = 0 := by omega
      have a1 : 1 ≤ a := by
        by_cases z : a = 0
        · rw [z] at e2; simp at e2; omega
        · omega
      have hq2 : q - 1 = (b - 1) + b * (a - 1) := by rw [Int.mul_sub]; omega
      have k1 : (q - 1) / b = a - 1 := by
        rw [hq2, Int.add_mul_ediv_left _ _ (by omega), Int.ediv_eq_zero_of_lt (by omega) (by omega)]
        omega
      have k2 : (q - 1) % b = b - 1 := by
        rw [hq2, Int.add_mul_emod_self_left, Int.emod_eq_of_lt (by omega) (by omega)]
      rw [k1, k2]
      exact g3 hd hdb hb a1
theorem fdig_zero {b p d : Int} (hd : 0 ≤ d) : fdig 0 b p d = 0 := by
  unfold fdig
  simp
  by_cases d0 : 0 < d
  · have : ¬ d < 0 := by omega
    have : ¬ d = 0 := by omega
    simp [*]
  · have : d = 0 := by omega
    subst this
    simp [show max (0 : Int) (-1) = 0 by decide]
/-- at the places below n: how often the digit d stands in m -/
def cntP (b d m : Int) : Nat → Int
  | 0 => 0
  | i + 1 => cntP b d m i + ind d (m / (b ^ i * b)) (m / b ^ i % b)
theorem occN_step {N b d : Int} (hN : 0 ≤ N) (hb : 2 ≤ b) (hd : 0 ≤ d) (hdb : d < b) : ∀ n, occN (N + 1) b n d = occN N b n d + cntP b d (N + 1) n
  | 0 => by simp [occN, cntP]
  | n + 1 => by
    have hp : 0 < b ^ n := Int.pow_pos (by omega)
    show occN (N + 1) b n d + fdig (N + 1) b (b ^ n) d = occN N b n d + fdig N b (b ^ n) d + (cntP b d (N + 1) n + ind d ((N + 1) / (b ^ n * b)) ((N + 1) / b ^ n % b))
    rw [occN_step hN hb hd hdb n, fdig_step hN hp hb hd hdb]
    omega
theorem occN_zero {b d : Int} (hd : 0 ≤ d) : ∀ n, occN 0 b n d = 0
  | 0 => rfl
  | n + 1 => by
    show occN 0 b n d + fdig 0 b (b ^ n) d = 0
    rw [occN_zero hd n, fdig_zero hd]
    rfl
/-- the digits of m, the first one first -/
def rowD (b : Nat) : Nat → Nat → List Nat
  | 0, _ => []
  | f + 1, m => if m = 0 then [] else rowD b f (m / b) ++ [m % b]
/-- the digits told by the counts -/
theorem cntP_shift {b d m : Int} (hb : 2 ≤ b) : ∀ n, cntP b d m (n + 1) = ind d (m / b) (m % b) + cntP b d (m / b) n
  | 0 => by simp [cntP]
  | n + 1 => by
    show cntP b d m (n + 1) + ind d (m / (b ^ (n + 1) * b)) (m / b ^ (n + 1) % b) = ind d (m / b) (m % b) + (cntP b d (m / b) n + ind d (m / b / (b ^ n * b)) (m / b / b ^ n % b))
    have hp : 0 < b ^ n := Int.pow_pos (by omega)
    rw [cntP_shift hb n, dd (by omega), dd (by omega)]
    have e1 : b * (b ^ n * b) = b ^ (n + 1) * b := by rw [Int.pow_succ]; ac_rfl
    have e2 : b * b ^ n = b ^ (n + 1) := by rw [Int.pow_succ]; ac_rfl
    rw [e1, e2]
    omega
theorem cntP_none {b d : Int} (hb : 2 ≤ b) (hd : 0 ≤ d) : ∀ n, cntP b d 0 n = 0
  | 0 => rfl
  | n + 1 => by
    show cntP b d 0 n + ind d (0 / (b ^ n * b)) (0 / b ^ n % b) = 0
    rw [cntP_none hb hd n]
    unfold ind
    simp
    intro e
    omega
theorem rowD_count {b : Nat} (hb : 2 ≤ b) (d : Nat) : ∀ (f n m : Nat), m ≤ f → m < b ^ n → cntP b d m n = ((rowD b f m).count d : Nat)
  | 0, n, m, h, _ => by
    obtain rfl : m = 0 := by omega
    rw [show ((0 : Nat) : Int) = 0 from rfl, cntP_none (by omega) (by omega)]
    rfl
  | f + 1, n, m, h, hn => by
    by_cases z : m = 0
    · subst z
      rw [show ((0 : Nat) : Int) = 0 from rfl, cntP_none (by omega) (by omega)]
      rfl
    · cases n with
      | zero => simp at hn; omega
      | succ n =>
        have hdiv : m / b < b ^ n := by
          rw [Nat.div_lt_iff_lt_mul (by omega)]
          rw [Nat.pow_succ] at hn
          exact hn
        have hlt : m / b ≤ f := by
          have := Nat.div_lt_self (show 0 < m by omega) hb
          omega
        have ih := rowD_count hb d f n (m / b) hlt hdiv
        rw [cntP_shift (by omega)]
        have er : rowD b (f + 1) m = rowD b f (m / b) ++ [m % b] := by
          show (if m = 0 then [] else rowD b f (m / b) ++ [m % b]) = _
          rw [if_neg z]
        rw [er, List.count_append]
        have e1 : (m : Int) / (b : Int) = ((m / b : Nat) : Int) := by norm_cast
        have e2 : (m : Int) % (b : Int) = ((m % b : Nat) : Int) := by norm_cast
        rw [e1, e2, ih]
        have e3 : ind (d : Int) ((m / b : Nat) : Int) ((m % b : Nat) : Int) = (([m % b].count d : Nat) : Int) := by
          unfold ind
          rw [List.count_singleton]
          by_cases e : m % b = d
          · rw [if_pos]
            · simp [e]
            · refine ⟨by omega, ?_⟩
              by_cases d0 : 0 < d
              · exact Or.inl (by omega)
              · right
                have : b ≤ m := by
                  by_cases q : b ≤ m
                  · exact q
                  · rw [Nat.mod_eq_of_lt (by omega)] at e
                    omega
                have := Nat.div_pos this (by omega)
                omega
          · rw [if_neg (by omega)]
            have : (m % b == d) = false := by simpa using e
            simp [this]
        rw [e3]
        push_cast
        omega
/-- how often d stands in the rows of first, first + 1, .. (k of them) -/
def tallyD (b d first : Nat) : Nat → Nat
  | 0 => 0
  | k + 1 => tallyD b d first k + (rowD b (first + k) (first + k)).count d
theorem occ_tally {b : Nat} (hb : 2 ≤ b) {d : Nat} (hd : d < b) : ∀ (k n0 first : Nat) , 1 ≤ first → (first - 1) + k < b ^ n0 →
    occN ((first - 1 + k : Nat) : Int) b n0 d - occN ((first - 1 : Nat) : Int) b n0 d = (tallyD b d first k : Nat)
  | 0, n0, first, _, _ => by simp [tallyD]
  | k + 1, n0, first, h1, h2 => by
    have ih := occ_tally hb hd k n0 first h1 (by omega)
    have e : ((first - 1 + (k + 1) : Nat) : Int) = ((first - 1 + k : Nat) : Int) + 1 := by push_cast; omega
    rw [e, occN_step (by omega) (by omega) (by omega) (by omega)]
    have e2 : ((first - 1 + k : Nat) : Int) + 1 = ((first + k : Nat) : Int) := by omega
    rw [e2, rowD_count hb d (first + k) n0 (first + k) (Nat.le_refl _) (by omega)]
    show _ = ((tallyD b d first k + (rowD b (first + k) (first + k)).count d : Nat) : Int)
    rw [Int.natCast_add (tallyD b d first k)]
    omega
theorem cntP_enough {b d : Int} {m : Int} (hb : 2 ≤ b) (hd : 0 ≤ d) (hm : 0 ≤ m) {n : Nat} (h : m < b ^ n) : ∀ k, cntP b d m (n + k) = cntP b d m n
  | 0 => rfl
  | k + 1 => by
    show cntP b d m (n + k) + ind d (m / (b ^ (n + k) * b)) (m / b ^ (n + k) % b) = _
    rw [cntP_enough hb hd hm h k]
    have hp : 0 < b ^ n := Int.pow_pos (by omega)
    have hk : 0 < b ^ k := Int.pow_pos (by omega)
    have le : b ^ n ≤ b ^ (n + k) := by
      rw [Int.pow_add]
      have := Int.mul_le_mul_of_nonneg_left (show 1 ≤ b ^ k by omega) (show 0 ≤ b ^ n by omega)
      omega
    have z1 : m / b ^ (n + k) = 0 := Int.ediv_eq_zero_of_lt hm (by omega)
    have z2 : m / (b ^ (n + k) * b) = 0 := by
      rw [← dd (by omega), z1]
      simp
    rw [z1, z2]
    unfold ind
    rw [Int.zero_emod, if_neg (by omega : ¬ (d = (0 : Int) ∧ (0 < d ∨ (0 : Int) < 0)))]
    omega
/-- enough places: more tell nothing new -/
theorem occN_enough {b d : Int} (hb : 2 ≤ b) (hd : 0 ≤ d) (hdb : d < b) {n : Nat} (k : Nat) : ∀ (m : Nat), (m : Int) < b ^ n → occN m b (n + k) d = occN m b n d
  | 0, _ => by rw [show ((0 : Nat) : Int) = 0 from rfl, occN_zero hd, occN_zero hd]
  | m + 1, h => by
    have e : ((m + 1 : Nat) : Int) = (m : Int) + 1 := by push_cast; rfl
    rw [e] at h ⊢
    rw [occN_step (by omega) hb hd hdb, occN_step (by omega) hb hd hdb, occN_enough hb hd hdb k m (by omega), cntP_enough hb hd (by omega) h]
theorem occN_same {b d : Int} (hb : 2 ≤ b) (hd : 0 ≤ d) (hdb : d < b) {n n' : Nat} (m : Nat) (h : (m : Int) < b ^ n) (h' : (m : Int) < b ^ n') : occN m b n d = occN m b n' d := by
  rcases Nat.le_total n n' with e | e
  · obtain ⟨k, rfl⟩ := Nat.exists_eq_add_of_le e
    exact (occN_enough hb hd hdb k m h).symm
  · obtain ⟨k, rfl⟩ := Nat.exists_eq_add_of_le e
    exact occN_enough hb hd hdb k m h'
end K74

set_option Elab.async false
set_option linter.all false
set_option maxRecDepth 100000
set_option maxHeartbeats 4000000
/-! Own + and own [] of plain instances. -/
namespace G
open PySem PySem.Spec PyProof.Rows L2
section
variable {X : Cx} {C f : Addr} {k : Nat} {fd : FuncData} {ps : List Str} {sp : Sp} {E : XK} {CX : CXT}
/-- x + y by x's own __add__, y of the same class -/
def rAddO (C : Addr) (sp : Sp) (E : XK) : R2 := fun x y H Q => ∃ a dx fs b dy gs, x = .ref a ∧ y = .ref b ∧ H a = some (.ins C dx fs) ∧ H b = some (.ins C dy gs) ∧ sp [x, y] H Q E
theorem op_addO (m : Meth X.K C "__add__" f) (sf : PySem.W.selfFirst X.K C = true) (F : FnOk X.prog X.w X.K X.mg X.base CX k f fd ps sp) (hr : Room k X.A) (hb : Binds X.K fd ps []) (hx : Passes CX X E) :
    OpR X (binaryOp .Add) (rAddO C sp E) := by
  intro pins s σ H x y v u Q I rx ry h
  obtain ⟨a, dx, fs, b, dy, gs, rfl, rfl, ha, hb', q⟩ := h
  cases (show v = Value.ref a from rx)
  cases (show u = Value.ref b from ry)
  obtain ⟨od, J⟩ := inst_of I ha
  obtain ⟨od', J'⟩ := inst_of I hb'
  obtain ⟨m0, hF⟩ := I.fr
  refine PySem.W.binop_K (op := .Add) hF I.ok.mod.kin J J'.type sf m.1 m.2 ?_
  refine wpAny_mono (run_fn (us := [.ref a, .ref b]) (vs := [.ref a, .ref b]) (ds := []) (dvs := []) F hr hb .nil hx I (.cons rfl (.cons rfl .nil)) q) ?_ (fun _ _ z => z)
  rintro w s' ⟨z, H', I', rz, qz⟩
  exact SlX.cmpback rz ⟨z, H', I', rz, qz⟩
/-- x[i] by x's own __getitem__ -/
def rIxO (C : Addr) (sp : Sp) (E : XK) : R2 := fun x y H Q => ∃ a dx fs, x = .ref a ∧ H a = some (.ins C dx fs) ∧ sp [x, y] H Q E
theorem pe_ixO {a b : Expr} {ta tb : TE} {pos : Pos} (m : Meth X.K C "__getitem__" f) (fn : PySem.W.fnIn X.K f = true) (F : FnOk X.prog X.w X.K X.mg X.base CX k f fd ps sp) (hr : Room (k + 1) X.A) (hb : Binds X.K fd ps []) (hx : Passes CX X E) (ha : PE X a ta) (hb' : PE X b tb)
    (hs : ∀ (x : Addr) (i : Value), subscripted b true (.ref x) i = runValue (.builtin "lifetime.subscript" ⟨[.ref x, i], []⟩) := by intro _ _; with_unfolding_all rfl) : PE X (.Subscript a b pos) (tOp (rIxO C sp E) ta tb) := by
  refine ⟨fun pins s σ H Q I h => Subscript_ (binT ha hb' I h fun v u s2 x y H2 I2 rx ry q => ?_)⟩
  obtain ⟨o, dx, fs, rfl, ho, q⟩ := q
  cases (show v = Value.ref o from rx)
  obtain ⟨od, J⟩ := inst_of I2 ho
  obtain ⟨m0, hF⟩ := I2.fr
  refine PySem.W.sub_K hF I2.ok.mod.kin J m.1 fn m.2 ?_ (hs _ _)
  exact run_in1 (us := [.ref o, u]) (vs := [.ref o, y]) F hr.in1 hb hx I2 (.cons rfl (.cons ry .nil)) q
end
end G

set_option Elab.async false
set_option linter.all false
set_option maxRecDepth 100000
set_option maxHeartbeats 4000000
/-! A list comprehension by an invariant. -/
namespace G
open PySem PySem.Spec PyProof.Rows L2
/-- Pv i ys H: what stands behind i items, ys the values so far -/
def LcI {α : Type} (zs : List α) (Gd : Hp → Prop) (R : α → Hp → V → Hp → Prop) (g : TG) (tt : TT) (te : TE) (vs : List Nat) (σ : L2.St) (H1 : Hp) (Q : VK) : Prop := ∀ D, H1 D = none → ∃ Pv : Nat → List V → Hp → Prop,
  zs.length ≤ 16777216 ∧ Pv 0 [] (upd H1 D (.lst [])) ∧ (∀ i ys H, Pv i ys H → Gd H) ∧
  (∀ i z ys H x H', zs[i]? = some z → H D = some (.lst ys) → Pv i ys H → R z H x H' → g x (wipe σ vs) H' fun σ2 H2 => wipe σ2 vs = wipe σ vs ∧ tt σ2 H2 fun b H3 =>
    if b = true then te σ2 H3 fun y H4 => H4 D = some (.lst ys) ∧ Pv (i + 1) (ys ++ [y]) (upd H4 D (.lst (ys ++ [y]))) else H3 D = some (.lst ys) ∧ Pv (i + 1) ys H3) ∧
  ∀ ys H', H' D = some (.lst ys) → Pv zs.length ys H' → Q (.ref D) H'
def tLcI {α : Type} (wz : TIZ α) (g : TG) (tt : TT) (te : TE) (vs : List Nat) : TE := fun σ H Q => wz σ H fun zs Gd R H1 => LcI zs Gd R g tt te vs σ H1 Q
theorem lcI_out {α : Type} {X : Cx} {elt tg iter : Expr} {ifs : List Expr} {scope : Scope} {vs : List Nat} {wz : TIZ α} {g : TG} {tt : TT} {te : TE} {σ : L2.St} {H : Hp} {Q : VK} (hi : PIZ X tg iter wz)
    (hg : Blks X scope fun B => PG B tg g) (ht : Blks X scope fun B => PTs B ifs tt) (he : Blks X scope fun B => PE B elt te) (h : tLcI wz g tt te vs σ H Q) :
    tLc (semI X tg iter) (bG X scope tg) (bT X scope ifs) (bE X scope elt) vs σ H Q := by
  refine semI.of pi_sem (hi σ H _ h) fun J H1 ⟨zs, Gd, R, W, hall⟩ => ?_
  intro D hD
  obtain ⟨Pv, hz, h0, hG, hel, hend⟩ := hall D hD
  refine lc_it W.walk (fun i H => ∃ ys, H D = some (.lst ys) ∧ ys.length ≤ i ∧ Pv i ys H) ⟨[], upd_same, Nat.le_refl _, h0⟩ (fun i H _ ⟨ys, _, _, p⟩ => hG i ys H p) ?_ ?_
  · rintro i x H H' hi ⟨ys, hy, hl, p⟩ ⟨z, hzi, r⟩
    refine bG.of hg (hel i z ys H x H' hzi hy p r) fun σ2 H2 ⟨hw, q⟩ => ⟨hw, bT.of ht q fun b H3 q3 => ?_⟩
    cases b with
    | true =>
      rw [if_pos rfl] at q3
      exact bE.of he q3 fun y H4 ⟨e4, p4⟩ => ⟨ys, e4, by rw [sizeLine_eq]; omega, ys ++ [y], upd_same, by rw [List.length_append]; simp; omega, p4⟩
    | false =>
      rw [if_neg Bool.false_ne_true] at q3
      exact ⟨ys, q3.1, by omega, q3.2⟩
  · rintro H ⟨ys, hy, _, p⟩
    exact hend ys H hy p
theorem pe_lcI {α : Type} {X : Cx} {elt tg iter : Expr} {ifs : List Expr} {scope : Scope} {own : List (PySem.Str × Nat)} {pos : Pos} {wz : TIZ α} {g : TG} {tt : TT} {te : TE} (hc : X.calm = true) (hN : X.N.Nodup) (hi : PIZ X tg iter wz) (ok : BlkOk X.N X.env.scope scope own)
    (hg : Blks X scope fun B => PG B tg g) (ht : Blks X scope fun B => PTs B ifs tt) (he : Blks X scope fun B => PE B elt te) (hs : ∀ x, foldedSetIterable iter X.env x = pure x := by intro _; rfl) :
    PE X (.ListComp elt [⟨tg, iter, ifs, 0⟩] scope pos) (tLcI wz g tt te (own.map (·.2))) :=
  ⟨fun pins s σ H Q I h => (pe_lc hc hN pi_sem ok pg_b pts_b pe_b hs).run pins s σ H Q I (lcI_out hi hg ht he h)⟩
section
variable {X : Cx} {CX : CXT} {k : Nat} {f : Addr} {sp : Sp} {E : XK} {x : Str} {p pos : Pos} {e : Expr} {es : List Expr} {t : TA}
/-- x(e, ..), x a def told by its values alone -/
theorem pe_callR (F : FnR X.prog X.w X.K X.mg X.base CX k f sp) (hr : Room k X.A) (hg : Gl X x) (hm : X.mg x = some (.ref f)) (hk : PySem.W.keepIn X.K (.ref f) = true) (hx : Passes CX X E) (ha : PA X (e :: es) t)
    (hs : starEach (e :: es) X.env = (false, eval e X.env) :: starEach es X.env := by rfl) (hpl : (backTo pos (starEach es X.env)).any (·.1) = false := by rfl) (hdb : (x == ("__debug__" : Str)) = false := by decide) :
    PE X (.Call (.Name x p) (e :: es) [] pos) (tCall sp [] E t) := by
  refine ⟨fun pins s σ H Q I h => wpAny_Call_Name_kw (ld_glob I hg hm (PySem.W.callWith_K (h₀ := X.base) I.ok.mod.kin hk (thn (ha.run pos pins s σ H _ I h) fun us s1 ⟨vs, H1, I1, r, q⟩ => ⟨I1.kIn, ?_⟩) hs hpl) hdb)⟩
  exact wpAny_call (run_fnR F hr hx I1 r (by simpa using q))
end
end G

set_option Elab.async false
set_option linter.all false
set_option maxRecDepth 100000
set_option maxHeartbeats 4000000
/-! Dicts whose keys are tuples; setdefault; a dict by its number alone. -/
namespace G
open PySem PySem.Spec PyProof.Rows L2
section
variable {X : Cx} {k : Nat}
/-- y (a tuple) in, not in a dict -/
def rInT (neg : Bool) (x : V) (y : V) (H : Hp) (Q : VK) : Prop := ∃ b p kvs k, x = .ref b ∧ y = .ref p ∧ H b = some (.tup (List.map kV k)) ∧ H p = some (.dT kvs) ∧ Q (.bl (neg ^^ (valV kvs k).isSome)) H
theorem op_notInT (hu : X.A.units + 1 < cLine) : OpR X (compareOp .NotIn) (rInT true) := by
  intro pins s σ H x y v u Q I rx ry h
  obtain ⟨b, p, kvs, k, e1, e2, hb, hp, q⟩ := h
  subst e1 e2
  cases ry
  exact d_notIn hu I (DGet.t hp hb) rx fun s3 I3 => ⟨.bl (!(valV kvs k).isSome), H, I3, rfl, by simpa using q⟩
theorem op_inT (hu : X.A.units + 1 < cLine) : OpR X (compareOp .In) (rInT false) := by
  intro pins s σ H x y v u Q I rx ry h
  obtain ⟨b, p, kvs, k, e1, e2, hb, hp, q⟩ := h
  subst e1 e2
  cases ry
  exact d_in hu I (DGet.t hp hb) rx fun s3 I3 => ⟨.bl (valV kvs k).isSome, H, I3, rfl, by simpa using q⟩
/-- d[y], y a tuple -/
def rIxT (x : V) (y : V) (H : Hp) (Q : VK) : Prop := ∃ b p kvs k v, x = .ref p ∧ y = .ref b ∧ H b = some (.tup (List.map kV k)) ∧ H p = some (.dT kvs) ∧ valV kvs k = some v ∧ Q v H
theorem ix_T (hu : X.A.units + 1 < cLine) : IxR X rIxT := by
  intro value slice pins s σ H x y v u Q I rx ry h hs
  obtain ⟨b, p, kvs, k, z, rfl, rfl, hb, hp, hv, q⟩ := h
  cases rx
  have g : DGet H p (.ref b) (some z) := by
    rw [← hv]
    exact DGet.t hp hb
  have hT := dict_typeIs I g
  unfold subscriptTail
  refine wpAny_bind ?_
  rw [getitemInPython_of_ne hT.not_modules]
  refine wpAny_bind (wpAny_specialOf hT PySem.F.slot_dict_getitem.lookup ?_)
  have fin : wpAny (model X.prog X.w) X.A (subscripted slice false (.ref p) u) (fun r s₃ => wpAny (model X.prog X.w) X.A (letTemporaryGo value (.ref p) r >>= fun _ => pure r) (EP X pins σ Q) X.xe s₃) X.xe s := by
    rw [hs]
    exact wpAny_operating (d_getItem hu I g ry fun w' s3 I3 rw' => wpAny_bind (wpAny_letTemporaryGo (wpAny_pure ⟨z, H, I3, rw', q⟩)))
  first
    | exact wpAny_pure (wpAny_bind fin)
    | exact wpAny_bind (wpAny_pure (wpAny_bind fin))
    | exact wpAny_bind fin
/-- d[y] = v, y a tuple -/
def sDPutT (td ty tv : TE) : TS := fun D σ H => tv σ H fun v H1 => td σ H1 fun x H2 => ty σ H2 fun y H3 => ∃ a kvs k b, x = .ref a ∧ H3 a = some (.dT kvs) ∧ y = .ref b ∧ H3 b = some (.tup (List.map kV k)) ∧ kvs.length < sizeLine ∧ D.nx σ (upd H3 a (.dT (putK kvs k v)))
theorem ps_dputT {o i value : Expr} {td ty tv : TE} {pos pos' : Pos} (hu : X.A.units + 1 < cLine) (ho : PE X o td) (hi : PE X i ty) (hv : PE X value tv) (hs : swapsWith value (some (.Subscript o i pos')) pos.line X.env = pure false) :
    PS X (.Assign [.Subscript o i pos'] value pos) (sDPutT td ty tv) := by
  refine ⟨fun pins s σ H D I h => (ps_dput hu pe_sem pe_sem pe_sem hs).run pins s σ H D I ?_⟩
  exact semE.of hv h fun v H1 h1 => semE.of ho h1 fun x H2 h2 => semE.of hi h2 fun y H3 ⟨a, kvs, k, b, e1, e2, e3, e3', e4, q⟩ => ⟨a, _, e1, by rw [e3]; exact DPut.t e2 e3' e4, q⟩
end
end G

set_option Elab.async false
set_option linter.all false
set_option maxRecDepth 100000
set_option maxHeartbeats 4000000
namespace K74
open PySem PySem.Spec PyProof.Rows L2 G
theorem sz2 : 2 ≤ sizeLine := by decide
theorem sz1 : 1 ≤ sizeLine := by decide
section
variable {P : Program} {w : World} {K : PySem.W.Frag} {mg : Str → Option Value} {base : Heap}
/-- is_integer -/
def sp_is_integer (K : PySem.W.Frag) : Sp := fun vs H Q _ => ∃ x t, vs = [x] ∧ tyName H x = some t ∧ Q (.bl (t == "int")) H
theorem ok_is_integer (T : Txt K mg) : FnOk P w K mg base CX0 1 (He.ga K "is_integer") T.fd_is_integer ["value"] (sp_is_integer K) := by
  refine FunD.ok T.F_is_integer sc_is_integer (fun vs H Q E h => ?_) fun cdv A outer s H vs Q E hr h => ⟨_, PSs.nox (pss_one (ps_ret (pe_and (pe_callB call_isiU rfl T.f_isinstance boot_isinstance (pa_cons (pv 0) (pa_cons (pe_bltn (v := .ty "int") rfl T.f_int boot_int rfl) pa_nil))) (pe_one (pe_not (pe_callB call_isiU rfl T.f_isinstance boot_isinstance (pa_cons (pv 0) (pa_cons (pe_bltn (v := .ty "bool") rfl T.f_bool boot_bool rfl) pa_nil)))))))), ?_⟩
  · obtain ⟨x, t, rfl, _⟩ := h
    rfl
  · obtain ⟨x, t, rfl, ht, q⟩ := h
    simp [tRet, tRetN, tDrop, tAsg, gName, tSeq, tNext, tIfS, tAndV, tOrV, tNotV, tAnd, tOr, tNot, tB, tTest, tVar, tC, tOp, tUn, tCons, tNil, tTup, tLst, tCB, tBM, tBM0, tM1, tM0, tCall, tMeth, tMake, tFldU, sFldU, tChain, tIf, tPar, tPar3, tAug, tDisp, tPairs, tDGet2, sDPut, rIsiU, rIsiTU, rLenU, rIxU, rInU, rNilU, rEqU, rNeU, rEq, rNe, rMax2U, rMin2U, rInt1U, rAbsU, scal, rAddU, rMulU, rI0, rI, rU, rListU, rTupU, rSumU, rAllU, rAnyU, rDictU, rSlU, tSl, tPart, tNoPart, rAppend, rExtend, rPop, rPopAt, rJoinU, rRepr, tSumVals, tyN_non, tyN_bl, tyN_int, tyN_str, tyN_ref, tyO_lst, tyO_tup, tyO_dK, tyO_flst, tyO_ftup, tyO_fdK, and_assoc, tyList, isT, tyAsk, lk_none, lk_frz, lk_lst, lk_tup, lk_dK, lk_ins, kV_str, kV_int, kV_kV, L2.start, E0, tForZ, zList, zTup, zStr, zRng1, zRng2, zEnumS, zEnumL, zKeys, zVals, zItems, tAugS, rGetL, rSetL, ipI, tyN_new, upd_same, tLcV, tDcZ, tYes, wipe, tLcZ, tScZ, cxOf, RVal, RTup, gTupU, gCons, gNil, tProp, tDGetU, sDPutU, rLenO, rDEqU, tBML, tBML0, tConU, tDNewK, rIsiO, ht]
    by_cases h1 : t = "int"
    · subst h1
      simpa using q
    · have h1' : (t == "int") = false := by simpa using h1
      rw [h1'] at q
      by_cases h2 : t = "bool"
      · subst h2
        simpa using q
      · simpa [h1, h2] using q
/-- is_between: of whole numbers -/
def sp_is_between (K : PySem.W.Frag) : Sp := fun vs H Q _ => ∃ v l m, vs = [.int v, .int l, .int m] ∧ Q (.bl (decide (l ≤ v) && decide (v ≤ m))) H
theorem ok_is_between (T : Txt K mg) : FnOk P w K mg base CX0 2 (He.ga K "is_between") T.fd_is_between ["value", "least", "most"] (sp_is_between K) := by
  refine FunD.ok T.F_is_between sc_is_between (fun vs H Q E h => ?_) fun cdv A outer s H vs Q E hr h => ⟨_, PSs.nox (pss_one (ps_ret (pe_and (pe_call (ok_is_integer T) (hr.mono (by omega)) rfl T.g_is_integer T.F_is_integer.kp (b_is_integer T) .nil pass0 (pa_cons (pv 0) pa_nil)) (pe_one (pe_chain op_le op_le (pv 1) (pv 0) (pv 2)))))), ?_⟩
  · obtain ⟨v, l, m, rfl, _⟩ := h
    rfl
  · obtain ⟨v, l, m, rfl, q⟩ := h
    simp [tRet, tRetN, tDrop, tAsg, gName, tSeq, tNext, tIfS, tAndV, tOrV, tNotV, tAnd, tOr, tNot, tB, tTest, tVar, tC, tOp, tUn, tCons, tNil, tTup, tLst, tCB, tBM, tBM0, tM1, tM0, tCall, tMeth, tMake, tFldU, sFldU, tChain, tIf, tPar, tPar3, tAug, tDisp, tPairs, tDGet2, sDPut, rIsiU, rIsiTU, rLenU, rIxU, rInU, rNilU, rEqU, rNeU, rEq, rNe, rMax2U, rMin2U, rInt1U, rAbsU, scal, rAddU, rMulU, rI0, rI, rU, rListU, rTupU, rSumU, rAllU, rAnyU, rDictU, rSlU, tSl, tPart, tNoPart, rAppend, rExtend, rPop, rPopAt, rJoinU, rRepr, tSumVals, tyN_non, tyN_bl, tyN_int, tyN_str, tyN_ref, tyO_lst, tyO_tup, tyO_dK, tyO_flst, tyO_ftup, tyO_fdK, and_assoc, tyList, isT, tyAsk, lk_none, lk_frz, lk_lst, lk_tup, lk_dK, lk_ins, kV_str, kV_int, kV_kV, L2.start, E0, tForZ, zList, zTup, zStr, zRng1, zRng2, zEnumS, zEnumL, zKeys, zVals, zItems, tAugS, rGetL, rSetL, ipI, tyN_new, upd_same, tLcV, tDcZ, tYes, wipe, tLcZ, tScZ, cxOf, RVal, RTup, gTupU, gCons, gNil, tProp, tDGetU, sDPutU, rLenO, rDEqU, tBML, tBML0, tConU, tDNewK, rIsiO, sp_is_integer]
    by_cases h1 : l ≤ v
    · simpa [h1] using q
    · simpa [h1] using q
def sp_is_list (K : PySem.W.Frag) : Sp := fun vs H Q _ => ∃ x t, vs = [x] ∧ tyName H x = some t ∧ ∀ H', Sub H H' → Q (.bl (t == "list" || t == "tuple")) H'
theorem ok_is_list (T : Txt K mg) : FnOk P w K mg base CX0 1 (He.ga K "is_list") T.fd_is_list ["value"] (sp_is_list K) := by
  refine FunD.ok T.F_is_list sc_is_list (fun vs H Q E h => ?_) fun cdv A outer s H vs Q E hr h => ⟨_, PSs.nox (pss_one (ps_ret (pe_callB call_isiTU rfl T.f_isinstance boot_isinstance (pa_cons (pv 0) (pa_cons (pe_tup (pa_cons (pe_bltn (v := .ty "list") rfl T.f_list boot_list rfl) (pa_cons (pe_bltn (v := .ty "tuple") rfl T.f_tuple boot_tuple rfl) pa_nil))) pa_nil))))), ?_⟩
  · obtain ⟨x, t, rfl, _⟩ := h
    rfl
  · obtain ⟨x, t, rfl, ht, q⟩ := h
    simp [tRet, tRetN, tDrop, tAsg, gName, tSeq, tNext, tIfS, tAndV, tOrV, tNotV, tAnd, tOr, tNot, tB, tTest, tVar, tC, tOp, tUn, tCons, tNil, tTup, tLst, tCB, tBM, tBM0, tM1, tM0, tCall, tMeth, tMake, tFldU, sFldU, tChain, tIf, tPar, tPar3, tAug, tDisp, tPairs, tDGet2, sDPut, rIsiU, rIsiTU, rLenU, rIxU, rInU, rNilU, rEqU, rNeU, rEq, rNe, rMax2U, rMin2U, rInt1U, rAbsU, scal, rAddU, rMulU, rI0, rI, rU, rListU, rTupU, rSumU, rAllU, rAnyU, rDictU, rSlU, tSl, tPart, tNoPart, rAppend, rExtend, rPop, rPopAt, rJoinU, rRepr, tSumVals, tyN_non, tyN_bl, tyN_int, tyN_str, tyN_ref, tyO_lst, tyO_tup, tyO_dK, tyO_flst, tyO_ftup, tyO_fdK, and_assoc, tyList, isT, tyAsk, lk_none, lk_frz, lk_lst, lk_tup, lk_dK, lk_ins, kV_str, kV_int, kV_kV, L2.start, E0, tForZ, zList, zTup, zStr, zRng1, zRng2, zEnumS, zEnumL, zKeys, zVals, zItems, tAugS, rGetL, rSetL, ipI, tyN_new, upd_same, tLcV, tDcZ, tYes, wipe, tLcZ, tScZ, cxOf, RVal, RTup, gTupU, gCons, gNil, tProp, tDGetU, sDPutU, rLenO, rDEqU, tBML, tBML0, tConU, tDNewK, rIsiO, upd_same, sz2]
    intro p hp
    exact ⟨t, tyN_new hp ht, q _ (Sub.new hp)⟩
def sp_need_number (K : PySem.W.Frag) : Sp := fun vs H Q _ => ∃ v l m, vs = [.int v, .int l, .int m] ∧ l ≤ v ∧ v ≤ m ∧ Q .non H
theorem ok_need_number (T : Txt K mg) : FnOk P w K mg base CX0 3 (He.ga K "need_number") T.fd_need_number ["value", "least", "most"] (sp_need_number K) := by
  refine FunD.ok T.F_need_number sc_need_number (fun vs H Q E h => ?_) fun cdv A outer s H vs Q E hr h => ⟨_, PSs.nox (pss_one (ps_if (pt_not (pt_val (pe_call (ok_is_between T) (hr.mono (by omega)) rfl T.g_is_between T.F_is_between.kp (b_is_between T) .nil pass0 (pa_cons (pv 0) (pa_cons (pv 1) (pa_cons (pv 2) pa_nil)))))) (pss_one ps_never) pss_nil)), ?_⟩
  · obtain ⟨v, l, m, rfl, _⟩ := h
    rfl
  · obtain ⟨v, l, m, rfl, h1, h2, q⟩ := h
    simpa [tRet, tRetN, tDrop, tAsg, gName, tSeq, tNext, tIfS, tAndV, tOrV, tNotV, tAnd, tOr, tNot, tB, tTest, tVar, tC, tOp, tUn, tCons, tNil, tTup, tLst, tCB, tBM, tBM0, tM1, tM0, tCall, tMeth, tMake, tFldU, sFldU, tChain, tIf, tPar, tPar3, tAug, tDisp, tPairs, tDGet2, sDPut, rIsiU, rIsiTU, rLenU, rIxU, rInU, rNilU, rEqU, rNeU, rEq, rNe, rMax2U, rMin2U, rInt1U, rAbsU, scal, rAddU, rMulU, rI0, rI, rU, rListU, rTupU, rSumU, rAllU, rAnyU, rDictU, rSlU, tSl, tPart, tNoPart, rAppend, rExtend, rPop, rPopAt, rJoinU, rRepr, tSumVals, tyN_non, tyN_bl, tyN_int, tyN_str, tyN_ref, tyO_lst, tyO_tup, tyO_dK, tyO_flst, tyO_ftup, tyO_fdK, and_assoc, tyList, isT, tyAsk, lk_none, lk_frz, lk_lst, lk_tup, lk_dK, lk_ins, kV_str, kV_int, kV_kV, L2.start, E0, tForZ, zList, zTup, zStr, zRng1, zRng2, zEnumS, zEnumL, zKeys, zVals, zItems, tAugS, rGetL, rSetL, ipI, tyN_new, upd_same, tLcV, tDcZ, tYes, wipe, tLcZ, tScZ, cxOf, RVal, RTup, gTupU, gCons, gNil, tProp, tDGetU, sDPutU, rLenO, rDEqU, tBML, tBML0, tConU, tDNewK, rIsiO, sp_is_between, h1, h2] using q
theorem range_set {n j : Nat} {g : Nat → Int} {v : Int} : ((List.range n).map fun d => V.int (g d)).set j (.int v) = (List.range n).map fun d => V.int (if d = j then v else g d) := by
  apply List.ext_getElem
  · simp
  · intro i h1 h2
    by_cases e : j = i
    · subst e
      simp
    · have e2 : ¬ i = j := fun q => e q.symm
      simp [List.getElem_set, e, e2]
theorem pow_big {b l : Int} {i : Nat} (hb : 2 ≤ b) (h : b ^ i ≤ l) (hl : l ≤ 10 ^ 31) : 0 < b ^ i ∧ i ≤ 110 := by
  have h0 : 0 < b ^ i := Int.pow_pos (by omega)
  refine ⟨h0, ?_⟩
  have h2 : (2 : Int) ^ i ≤ b ^ i := by
    clear h h0
    induction i with
    | zero => simp
    | succ i ih =>
      rw [Int.pow_succ, Int.pow_succ]
      exact Int.mul_le_mul ih hb (by omega) (Int.le_of_lt (Int.pow_pos (by omega)))
  have h3 : (2 : Int) ^ i ≤ 10 ^ 31 := by omega
  by_cases hi : i ≤ 110
  · exact hi
  · exfalso
    have h4 : (2 : Int) ^ 111 ≤ 2 ^ i := by
      have : 111 ≤ i := by omega
      obtain ⟨k, rfl⟩ := Nat.exists_eq_add_of_le this
      rw [Int.pow_add]
      have : (0 : Int) < 2 ^ k := Int.pow_pos (by decide)
      have h5 : (2 : Int) ^ 111 * 1 ≤ 2 ^ 111 * 2 ^ k := Int.mul_le_mul_of_nonneg_left (by omega) (by decide)
      omega
    have h5 : (10 : Int) ^ 31 < 2 ^ 111 := by decide
    omega
def sp_occurrences (K : PySem.W.Frag) : Sp := fun vs H Q _ => ∃ last base : Int, vs = [.int last, .int base] ∧ 2 ≤ base ∧ base ≤ 100 ∧ -1 ≤ last ∧ last ≤ 10 ^ 31 ∧
  ∀ p H' n, H p = none → Sub H H' → last < base ^ n → H' p = some (.lst ((List.range base.toNat).map fun d : Nat => V.int (occN last base n d))) → Q (.ref p) H'
theorem ok_occurrences (T : Txt K mg) : FnOk P w K mg base CX0 1 (He.ga K "occurrences") T.fd_occurrences ["last", "base"] (sp_occurrences K) := by
  refine FunD.ok T.F_occurrences sc_occurrences (fun vs H Q E h => ?_) fun cdv A outer s H vs Q E hr h => ⟨_, PSs.nox (pss_cons (ps_par (i := 2) (j := 3) rfl sc_occurrences.nd rfl rfl (by decide) rfl rfl (pa_cons (pe_op op_mulU (pe_lst (pa_cons pe_int pa_nil)) (pv 1)) (pa_cons pe_int pa_nil)) rfl)
      (pss_cons (ps_while PassesOwn.never (pt_cmpR op_le (pv 3) (pv 0) (nomark _)) (pss_cons (ps_par3 (i := 4) (j := 5) (l := 6) rfl sc_occurrences.nd rfl rfl rfl (by decide) (by decide) (by decide) rfl rfl rfl (pa_cons (pe_op op_fdivW (pv 0) (pe_op op_mulU (pv 3) (pv 1))) (pa_cons (pe_op op_mod (pe_op op_fdivW (pv 0) (pv 3)) (pv 1)) (pa_cons (pe_op op_mod (pv 0) (pv 3)) pa_nil))) rfl)
      (pss_cons (ps_forZ PassesOwn.never rfl (z_rng1 (by exact rfl) T.f_range (pa_cons (pv 1) pa_nil)) (pg_name (i := 7) sc_occurrences.nd rfl (by first | exact Or.inl rfl | exact Or.inr rfl)) (pss_cutG (ps_set (i := 8) sc_occurrences.nd rfl (by first | exact Or.inl rfl | exact Or.inr rfl) (pe_ifExp (pt_cmpR op_gt (pv 7) pe_int (nomark _)) (pv 4) (pe_op op_sub (pv 4) pe_int)))
      (pss_cutG (ps_if (pt_cmpR op_lt (pv 7) (pv 5) (nomark _)) (pss_one (ps_aug (i := 8) sc_occurrences.nd rfl (by first | exact Or.inl rfl | exact Or.inr rfl) pe_int ip_add)) pss_nil)
      (pss_cutG (ps_augS (pv 2) (pv 7) pget_list (pe_op op_mulU (pe_callB (call_max2U rfl) rfl T.f_max boot_max (pa_cons pe_int (pa_cons (pv 8) pa_nil))) (pv 3)) ip_add set_list)
      (pss_one (ps_if (PW.pt (pw_and (pt_cmpR (op_eqU (hu0 hr)) (pv 7) (pv 5) (nomark _)) (pw_and1 (PW.pt (pw_or (pt_cmpR op_gt (pv 7) pe_int (nomark _)) (pw_or1 (pt_cmpR op_gt (pv 4) pe_int (nomark _)))))))) (pss_one (ps_augS (pv 2) (pv 7) pget_list (pe_op op_addU (pv 6) pe_int) ip_add set_list)) pss_nil))))))
      (pss_one (ps_set (i := 3) sc_occurrences.nd rfl (by first | exact Or.inl rfl | exact Or.inr rfl) (pe_op op_mulU (pv 3) (pv 1)))))))
      (pss_one (ps_ret (pv 2))))), ?_⟩
  · obtain ⟨l, b, rfl, _⟩ := h
    rfl
  · obtain ⟨l, b, rfl, b2, b3, l1, l2, q⟩ := h
    simp [tRet, tRetN, tDrop, tAsg, gName, tSeq, tNext, tIfS, tAndV, tOrV, tNotV, tAnd, tOr, tNot, tB, tTest, tVar, tC, tOp, tUn, tCons, tNil, tTup, tLst, tCB, tBM, tBM0, tM1, tM0, tCall, tMeth, tMake, tFldU, sFldU, tChain, tIf, tPar, tPar3, tAug, tDisp, tPairs, tDGet2, sDPut, rIsiU, rIsiTU, rLenU, rIxU, rInU, rNilU, rEqU, rNeU, rEq, rNe, rMax2U, rMin2U, rInt1U, rAbsU, scal, rAddU, rMulU, rI0, rI, rU, rListU, rTupU, rSumU, rAllU, rAnyU, rDictU, rSlU, tSl, tPart, tNoPart, rAppend, rExtend, rPop, rPopAt, rJoinU, rRepr, tSumVals, tyN_non, tyN_bl, tyN_int, tyN_str, tyN_ref, tyO_lst, tyO_tup, tyO_dK, tyO_flst, tyO_ftup, tyO_fdK, and_assoc, tyList, isT, tyAsk, lk_none, lk_frz, lk_lst, lk_tup, lk_dK, lk_ins, kV_str, kV_int, kV_kV, L2.start, E0, tForZ, zList, zTup, zStr, zRng1, zRng2, zEnumS, zEnumL, zKeys, zVals, zItems, tAugS, rGetL, rSetL, ipI, tyN_new, upd_same, tLcV, tDcZ, tYes, wipe, tLcZ, tScZ, cxOf, RVal, RTup, gTupU, gCons, gNil, tProp, tDGetU, sDPutU, rLenO, rDEqU, tBML, tBML0, tConU, tDNewK, rIsiO]
    have hsl := sizeLine_eq
    refine ⟨sz1, fun p hp => ⟨by omega, by omega, by omega, fun p1 hp1 => ?_⟩⟩
    have hn1 : p1 ≠ p := fun e => by rw [e, upd_same] at hp1; cases hp1
    have hp1' : H p1 = none := by rw [upd_ne hn1] at hp1; exact hp1
    refine ⟨fun m σ H' => ∃ (i : Nat) (a c d x y : Option V), m = (l + 1 - b ^ i).toNat ∧ σ = [some (.int l), some (.int b), some (.ref p1), some (.int (b ^ i)), a, c, d, x, y] ∧ Sub H H' ∧ H' p1 = some (.lst ((List.range b.toNat).map fun d : Nat => V.int (occN l b i d))), ⟨_, 0, none, none, none, none, none, rfl, by simp, ?_, ?_⟩, ?_⟩
    · exact sub_upd (Sub.new hp) hp1'
    · rw [upd_same]
      simp [occN, List.map_const']
    · rintro m σ H' ⟨i, a, c, d, x, y, rfl, rfl, hs, hf⟩
      simp [tRet, tRetN, tDrop, tAsg, gName, tSeq, tNext, tIfS, tAndV, tOrV, tNotV, tAnd, tOr, tNot, tB, tTest, tVar, tC, tOp, tUn, tCons, tNil, tTup, tLst, tCB, tBM, tBM0, tM1, tM0, tCall, tMeth, tMake, tFldU, sFldU, tChain, tIf, tPar, tPar3, tAug, tDisp, tPairs, tDGet2, sDPut, rIsiU, rIsiTU, rLenU, rIxU, rInU, rNilU, rEqU, rNeU, rEq, rNe, rMax2U, rMin2U, rInt1U, rAbsU, scal, rAddU, rMulU, rI0, rI, rU, rListU, rTupU, rSumU, rAllU, rAnyU, rDictU, rSlU, tSl, tPart, tNoPart, rAppend, rExtend, rPop, rPopAt, rJoinU, rRepr, tSumVals, tyN_non, tyN_bl, tyN_int, tyN_str, tyN_ref, tyO_lst, tyO_tup, tyO_dK, tyO_flst, tyO_ftup, tyO_fdK, and_assoc, tyList, isT, tyAsk, lk_none, lk_frz, lk_lst, lk_tup, lk_dK, lk_ins, kV_str, kV_int, kV_kV, L2.start, E0, tForZ, zList, zTup, zStr, zRng1, zRng2, zEnumS, zEnumL, zKeys, zVals, zItems, tAugS, rGetL, rSetL, ipI, tyN_new, upd_same, tLcV, tDcZ, tYes, wipe, tLcZ, tScZ, cxOf, RVal, RTup, gTupU, gCons, gNil, tProp, tDGetU, sDPutU, rLenO, rDEqU, tBML, tBML0, tConU, tDNewK, rIsiO, hf]
      refine ite_all (fun hle => ?_) fun hgt => ?_
      · obtain ⟨hpos, hi⟩ := pow_big b2 hle l2
        refine ⟨fun σ' H'' => ∃ (a c d x y : Option V), σ' = [some (.int l), some (.int b), some (.ref p1), some (.int (b ^ (i + 1))), a, c, d, x, y] ∧ Sub H H'' ∧ H'' p1 = some (.lst ((List.range b.toNat).map fun d : Nat => V.int (occN l b (i + 1) d))), ?_, ?_⟩
        · rintro σ' H2 ⟨a, c, d, x, y, rfl, hs2, hf2⟩
          refine ⟨(l + 1 - b ^ (i + 1)).toNat, ?_, i + 1, rfl, ⟨a, c, d, x, y, rfl⟩, hs2, hf2⟩
          have h1 : b ^ (i + 1) = b ^ i * b := Int.pow_succ b i
          have h2 : b ^ i * 2 ≤ b ^ i * b := Int.mul_le_mul_of_nonneg_left b2 (by omega)
          omega
        · have hpb : 0 < b ^ i * b := Int.mul_pos hpos (by omega)
          have hpb2 : b ^ i * b ≤ 10 ^ 31 * 100 := Int.mul_le_mul (by omega) b3 (by omega) (by decide)
          refine ⟨cmul (few40 (by omega) (by omega)) (few40 (by omega) (by omega)), cdivw hpb (few40 (by omega) (by omega)), cdivw hpos (few40 (by omega) (by omega)), by omega, by omega, by omega, by omega, ?_⟩
          refine loop_ix (fun j σ H2 => ∃ x y : Option V, σ = [some (.int l), some (.int b), some (.ref p1), some (.int (b ^ i)), some (V.int (l / (b ^ i * b))), some (V.int (l / b ^ i % b)), some (V.int (l % b ^ i)), x, y] ∧ Sub H H2 ∧
            H2 p1 = some (.lst ((List.range b.toNat).map fun d : Nat => V.int (occN l b i d + if d < j then fdig l b (b ^ i) d else 0)))) ⟨x, y, rfl, hs, by simpa using hf⟩ (fun _ _ _ _ => trivial) ?_ ?_
          · rintro j z σ' H1 v H2 hz ⟨x, y, rfl, hs1, hf1⟩ ⟨rfl, rfl⟩
            obtain ⟨rfl, hj⟩ := intsZ_get hz
            rw [Int.sub_zero] at hj
            have hix := ixN_at hj

            simp [tRet, tRetN, tDrop, tAsg, gName, tSeq, tNext, tIfS, tAndV, tOrV, tNotV, tAnd, tOr, tNot, tB, tTest, tVar, tC, tOp, tUn, tCons, tNil, tTup, tLst, tCB, tBM, tBM0, tM1, tM0, tCall, tMeth, tMake, tFldU, sFldU, tChain, tIf, tPar, tPar3, tAug, tDisp, tPairs, tDGet2, sDPut, rIsiU, rIsiTU, rLenU, rIxU, rInU, rNilU, rEqU, rNeU, rEq, rNe, rMax2U, rMin2U, rInt1U, rAbsU, scal, rAddU, rMulU, rI0, rI, rU, rListU, rTupU, rSumU, rAllU, rAnyU, rDictU, rSlU, tSl, tPart, tNoPart, rAppend, rExtend, rPop, rPopAt, rJoinU, rRepr, tSumVals, tyN_non, tyN_bl, tyN_int, tyN_str, tyN_ref, tyO_lst, tyO_tup, tyO_dK, tyO_flst, tyO_ftup, tyO_fdK, and_assoc, tyList, isT, tyAsk, lk_none, lk_frz, lk_lst, lk_tup, lk_dK, lk_ins, kV_str, kV_int, kV_kV, L2.start, E0, tForZ, zList, zTup, zStr, zRng1, zRng2, zEnumS, zEnumL, zKeys, zVals, zItems, tAugS, rGetL, rSetL, ipI, tyN_new, upd_same, tLcV, tDcZ, tYes, wipe, tLcZ, tScZ, cxOf, RVal, RTup, gTupU, gCons, gNil, tProp, tDGetU, sDPutU, rLenO, rDEqU, tBML, tBML0, tConU, tDNewK, rIsiO]
            obtain ⟨A, hA⟩ : ∃ A, A = l / (b ^ i * b) := ⟨_, rfl⟩
            obtain ⟨C, hC⟩ : ∃ C, C = l / b ^ i % b := ⟨_, rfl⟩
            obtain ⟨B, hB⟩ : ∃ B, B = l % b ^ i := ⟨_, rfl⟩
            obtain ⟨p0, hp0⟩ : ∃ p0, p0 = b ^ i := ⟨_, rfl⟩
            rw [← hA, ← hC, ← hB, ← hp0]
            obtain ⟨F1, hF1⟩ : ∃ F1, F1 = if 0 < (j : Int) then A else A - 1 := ⟨_, rfl⟩
            obtain ⟨F2, hF2⟩ : ∃ F2, F2 = if (j : Int) < C then F1 + 1 else F1 := ⟨_, rfl⟩
            refine ⟨fun σ H3 => H3 = H2 ∧ σ = [some (.int l), some (.int b), some (.ref p1), some (.int p0), some (.int A), some (.int C), some (.int B), some (.int j), some (.int F1)], ?_, ?_⟩
            · simp [tRet, tRetN, tDrop, tAsg, gName, tSeq, tNext, tIfS, tAndV, tOrV, tNotV, tAnd, tOr, tNot, tB, tTest, tVar, tC, tOp, tUn, tCons, tNil, tTup, tLst, tCB, tBM, tBM0, tM1, tM0, tCall, tMeth, tMake, tFldU, sFldU, tChain, tIf, tPar, tPar3, tAug, tDisp, tPairs, tDGet2, sDPut, rIsiU, rIsiTU, rLenU, rIxU, rInU, rNilU, rEqU, rNeU, rEq, rNe, rMax2U, rMin2U, rInt1U, rAbsU, scal, rAddU, rMulU, rI0, rI, rU, rListU, rTupU, rSumU, rAllU, rAnyU, rDictU, rSlU, tSl, tPart, tNoPart, rAppend, rExtend, rPop, rPopAt, rJoinU, rRepr, tSumVals, tyN_non, tyN_bl, tyN_int, tyN_str, tyN_ref, tyO_lst, tyO_tup, tyO_dK, tyO_flst, tyO_ftup, tyO_fdK, and_assoc, tyList, isT, tyAsk, lk_none, lk_frz, lk_lst, lk_tup, lk_dK, lk_ins, kV_str, kV_int, kV_kV, L2.start, E0, tForZ, zList, zTup, zStr, zRng1, zRng2, zEnumS, zEnumL, zKeys, zVals, zItems, tAugS, rGetL, rSetL, ipI, tyN_new, upd_same, tLcV, tDcZ, tYes, wipe, tLcZ, tScZ, cxOf, RVal, RTup, gTupU, gCons, gNil, tProp, tDGetU, sDPutU, rLenO, rDEqU, tBML, tBML0, tConU, tDNewK, rIsiO]
              rw [hF1]
              split <;> simp_all
            rintro σ3 H3 ⟨rfl, rfl⟩
            refine ⟨fun σ H4 => H4 = H3 ∧ σ = [some (.int l), some (.int b), some (.ref p1), some (.int p0), some (.int A), some (.int C), some (.int B), some (.int j), some (.int F2)], ?_, ?_⟩
            · simp [tRet, tRetN, tDrop, tAsg, gName, tSeq, tNext, tIfS, tAndV, tOrV, tNotV, tAnd, tOr, tNot, tB, tTest, tVar, tC, tOp, tUn, tCons, tNil, tTup, tLst, tCB, tBM, tBM0, tM1, tM0, tCall, tMeth, tMake, tFldU, sFldU, tChain, tIf, tPar, tPar3, tAug, tDisp, tPairs, tDGet2, sDPut, rIsiU, rIsiTU, rLenU, rIxU, rInU, rNilU, rEqU, rNeU, rEq, rNe, rMax2U, rMin2U, rInt1U, rAbsU, scal, rAddU, rMulU, rI0, rI, rU, rListU, rTupU, rSumU, rAllU, rAnyU, rDictU, rSlU, tSl, tPart, tNoPart, rAppend, rExtend, rPop, rPopAt, rJoinU, rRepr, tSumVals, tyN_non, tyN_bl, tyN_int, tyN_str, tyN_ref, tyO_lst, tyO_tup, tyO_dK, tyO_flst, tyO_ftup, tyO_fdK, and_assoc, tyList, isT, tyAsk, lk_none, lk_frz, lk_lst, lk_tup, lk_dK, lk_ins, kV_str, kV_int, kV_kV, L2.start, E0, tForZ, zList, zTup, zStr, zRng1, zRng2, zEnumS, zEnumL, zKeys, zVals, zItems, tAugS, rGetL, rSetL, ipI, tyN_new, upd_same, tLcV, tDcZ, tYes, wipe, tLcZ, tScZ, cxOf, RVal, RTup, gTupU, gCons, gNil, tProp, tDGetU, sDPutU, rLenO, rDEqU, tBML, tBML0, tConU, tDNewK, rIsiO]
              rw [hF2]
              split <;> simp_all
            rintro σ4 H4 ⟨rfl, rfl⟩
            refine ⟨fun σ H5 => H5 = upd H4 p1 (.lst ((List.range b.toNat).map fun d : Nat => V.int (if d = j then occN l b i j + max 0 F2 * p0 else occN l b i d + if d < j then fdig l b p0 d else 0))) ∧ σ = [some (.int l), some (.int b), some (.ref p1), some (.int p0), some (.int A), some (.int C), some (.int B), some (.int j), some (.int F2)], ?_, ?_⟩
            · simp [tRet, tRetN, tDrop, tAsg, gName, tSeq, tNext, tIfS, tAndV, tOrV, tNotV, tAnd, tOr, tNot, tB, tTest, tVar, tC, tOp, tUn, tCons, tNil, tTup, tLst, tCB, tBM, tBM0, tM1, tM0, tCall, tMeth, tMake, tFldU, sFldU, tChain, tIf, tPar, tPar3, tAug, tDisp, tPairs, tDGet2, sDPut, rIsiU, rIsiTU, rLenU, rIxU, rInU, rNilU, rEqU, rNeU, rEq, rNe, rMax2U, rMin2U, rInt1U, rAbsU, scal, rAddU, rMulU, rI0, rI, rU, rListU, rTupU, rSumU, rAllU, rAnyU, rDictU, rSlU, tSl, tPart, tNoPart, rAppend, rExtend, rPop, rPopAt, rJoinU, rRepr, tSumVals, tyN_non, tyN_bl, tyN_int, tyN_str, tyN_ref, tyO_lst, tyO_tup, tyO_dK, tyO_flst, tyO_ftup, tyO_fdK, and_assoc, tyList, isT, tyAsk, lk_none, lk_frz, lk_lst, lk_tup, lk_dK, lk_ins, kV_str, kV_int, kV_kV, L2.start, E0, tForZ, zList, zTup, zStr, zRng1, zRng2, zEnumS, zEnumL, zKeys, zVals, zItems, tAugS, rGetL, rSetL, ipI, tyN_new, upd_same, tLcV, tDcZ, tYes, wipe, tLcZ, tScZ, cxOf, RVal, RTup, gTupU, gCons, gNil, tProp, tDGetU, sDPutU, rLenO, rDEqU, tBML, tBML0, tConU, tDNewK, rIsiO, hf1, hj, hix, lk_lst, range_set]
              have hq : (List.range b.toNat)[j]? = some j := List.getElem?_range hj
              refine ⟨cmul ?_ ?_, by rw [hp0]⟩
              · have : max 0 F2 ≤ l + 1 := by
                  rw [hF2, hF1]
                  have := Int.ediv_le_self (b ^ i * b) (show 0 ≤ l by omega)
                  split <;> split <;> omega
                exact few40 (by omega) (by omega)
              · exact few40 (by omega) (by omega)
            rintro σ5 H5 ⟨rfl, rfl⟩
            have hq : (List.range b.toNat)[j]? = some j := List.getElem?_range hj
            have hfd : fdig l b p0 j = max 0 F2 * p0 + (if (j : Int) = C ∧ (0 < (j : Int) ∨ 0 < A) then B + 1 else 0) := by
              unfold fdig
              rw [hF2, hF1, hA, hB, hC, hp0]
              congr 2
              congr 1
              split <;> split <;> omega
            have fin : ∀ (g : Nat → Int), (∀ d, g d = occN l b i d + if d < j + 1 then fdig l b p0 d else 0) → ((List.range b.toNat).map fun d : Nat => V.int (g d)) = (List.range b.toNat).map fun d : Nat => V.int (occN l b i d + if d < j + 1 then fdig l b p0 d else 0) := fun g hg => by
              apply List.map_congr_left
              intro a _
              rw [hg]
            have hne : ∀ a, H a ≠ none → a ≠ p1 := fun a ha e => ha (by rw [e]; exact hp1')
            by_cases c2 : (j : Int) = C ∧ (0 < (j : Int) ∨ 0 < A)
            · rw [if_pos c2] at hfd
              obtain ⟨c2, c3⟩ := c2
              subst c2
              have key : ∃ x y : Option V, Sub H (upd (upd H4 p1 (.lst ((List.range b.toNat).map fun d : Nat => V.int (if d = j then occN l b i j + max 0 F2 * p0 else occN l b i d + if d < j then fdig l b p0 d else 0)))) p1
                  (.lst (((List.range b.toNat).map fun d : Nat => V.int (if d = j then occN l b i j + max 0 F2 * p0 else occN l b i d + if d < j then fdig l b p0 d else 0)).set j (V.int (occN l b i j + max 0 F2 * p0 + (B + 1)))))) ∧
                  (((List.range b.toNat).map fun d : Nat => V.int (if d = j then occN l b i j + max 0 F2 * p0 else occN l b i d + if d < j then fdig l b p0 d else 0)).set j (V.int (occN l b i j + max 0 F2 * p0 + (B + 1)))) = (List.range b.toNat).map fun d : Nat => V.int (occN l b i d + if d < j + 1 then fdig l b p0 d else 0) := by
                refine ⟨none, none, ?_, ?_⟩
                · exact sub_upd (sub_upd hs1 hp1') hp1'
                · rw [range_set]
                  refine fin _ fun d => ?_
                  by_cases e : d = j
                  · subst e
                    simp [hfd]
                    omega
                  · simp [e]
                    have : d < j + 1 ↔ d < j := by omega
                    simp [this]
              obtain ⟨_, _, k1, k2⟩ := key
              rcases c3 with c3 | c3
              · have c3' : 0 < j := by omega
                simp [tRet, tRetN, tDrop, tAsg, gName, tSeq, tNext, tIfS, tAndV, tOrV, tNotV, tAnd, tOr, tNot, tB, tTest, tVar, tC, tOp, tUn, tCons, tNil, tTup, tLst, tCB, tBM, tBM0, tM1, tM0, tCall, tMeth, tMake, tFldU, sFldU, tChain, tIf, tPar, tPar3, tAug, tDisp, tPairs, tDGet2, sDPut, rIsiU, rIsiTU, rLenU, rIxU, rInU, rNilU, rEqU, rNeU, rEq, rNe, rMax2U, rMin2U, rInt1U, rAbsU, scal, rAddU, rMulU, rI0, rI, rU, rListU, rTupU, rSumU, rAllU, rAnyU, rDictU, rSlU, tSl, tPart, tNoPart, rAppend, rExtend, rPop, rPopAt, rJoinU, rRepr, tSumVals, tyN_non, tyN_bl, tyN_int, tyN_str, tyN_ref, tyO_lst, tyO_tup, tyO_dK, tyO_flst, tyO_ftup, tyO_fdK, and_assoc, tyList, isT, tyAsk, lk_none, lk_frz, lk_lst, lk_tup, lk_dK, lk_ins, kV_str, kV_int, kV_kV, L2.start, E0, tForZ, zList, zTup, zStr, zRng1, zRng2, zEnumS, zEnumL, zKeys, zVals, zItems, tAugS, rGetL, rSetL, ipI, tyN_new, upd_same, tLcV, tDcZ, tYes, wipe, tLcZ, tScZ, cxOf, RVal, RTup, gTupU, gCons, gNil, tProp, tDGetU, sDPutU, rLenO, rDEqU, tBML, tBML0, tConU, tDNewK, rIsiO, c3', hq, hix]
                exact ⟨k1, k2⟩
              · by_cases c4 : 0 < j
                · simp [tRet, tRetN, tDrop, tAsg, gName, tSeq, tNext, tIfS, tAndV, tOrV, tNotV, tAnd, tOr, tNot, tB, tTest, tVar, tC, tOp, tUn, tCons, tNil, tTup, tLst, tCB, tBM, tBM0, tM1, tM0, tCall, tMeth, tMake, tFldU, sFldU, tChain, tIf, tPar, tPar3, tAug, tDisp, tPairs, tDGet2, sDPut, rIsiU, rIsiTU, rLenU, rIxU, rInU, rNilU, rEqU, rNeU, rEq, rNe, rMax2U, rMin2U, rInt1U, rAbsU, scal, rAddU, rMulU, rI0, rI, rU, rListU, rTupU, rSumU, rAllU, rAnyU, rDictU, rSlU, tSl, tPart, tNoPart, rAppend, rExtend, rPop, rPopAt, rJoinU, rRepr, tSumVals, tyN_non, tyN_bl, tyN_int, tyN_str, tyN_ref, tyO_lst, tyO_tup, tyO_dK, tyO_flst, tyO_ftup, tyO_fdK, and_assoc, tyList, isT, tyAsk, lk_none, lk_frz, lk_lst, lk_tup, lk_dK, lk_ins, kV_str, kV_int, kV_kV, L2.start, E0, tForZ, zList, zTup, zStr, zRng1, zRng2, zEnumS, zEnumL, zKeys, zVals, zItems, tAugS, rGetL, rSetL, ipI, tyN_new, upd_same, tLcV, tDcZ, tYes, wipe, tLcZ, tScZ, cxOf, RVal, RTup, gTupU, gCons, gNil, tProp, tDGetU, sDPutU, rLenO, rDEqU, tBML, tBML0, tConU, tDNewK, rIsiO, c4, hq, hix]
                  exact ⟨k1, k2⟩
                · simp [tRet, tRetN, tDrop, tAsg, gName, tSeq, tNext, tIfS, tAndV, tOrV, tNotV, tAnd, tOr, tNot, tB, tTest, tVar, tC, tOp, tUn, tCons, tNil, tTup, tLst, tCB, tBM, tBM0, tM1, tM0, tCall, tMeth, tMake, tFldU, sFldU, tChain, tIf, tPar, tPar3, tAug, tDisp, tPairs, tDGet2, sDPut, rIsiU, rIsiTU, rLenU, rIxU, rInU, rNilU, rEqU, rNeU, rEq, rNe, rMax2U, rMin2U, rInt1U, rAbsU, scal, rAddU, rMulU, rI0, rI, rU, rListU, rTupU, rSumU, rAllU, rAnyU, rDictU, rSlU, tSl, tPart, tNoPart, rAppend, rExtend, rPop, rPopAt, rJoinU, rRepr, tSumVals, tyN_non, tyN_bl, tyN_int, tyN_str, tyN_ref, tyO_lst, tyO_tup, tyO_dK, tyO_flst, tyO_ftup, tyO_fdK, and_assoc, tyList, isT, tyAsk, lk_none, lk_frz, lk_lst, lk_tup, lk_dK, lk_ins, kV_str, kV_int, kV_kV, L2.start, E0, tForZ, zList, zTup, zStr, zRng1, zRng2, zEnumS, zEnumL, zKeys, zVals, zItems, tAugS, rGetL, rSetL, ipI, tyN_new, upd_same, tLcV, tDcZ, tYes, wipe, tLcZ, tScZ, cxOf, RVal, RTup, gTupU, gCons, gNil, tProp, tDGetU, sDPutU, rLenO, rDEqU, tBML, tBML0, tConU, tDNewK, rIsiO, c4, c3, hq, hix]
                  exact ⟨k1, k2⟩
            · rw [if_neg c2, Int.add_zero] at hfd
              have k1 : Sub H (upd H4 p1 (.lst ((List.range b.toNat).map fun d : Nat => V.int (if d = j then occN l b i j + max 0 F2 * p0 else occN l b i d + if d < j then fdig l b p0 d else 0)))) := sub_upd hs1 hp1'
              have k2 : ((List.range b.toNat).map fun d : Nat => V.int (if d = j then occN l b i j + max 0 F2 * p0 else occN l b i d + if d < j then fdig l b p0 d else 0)) = (List.range b.toNat).map fun d : Nat => V.int (occN l b i d + if d < j + 1 then fdig l b p0 d else 0) := by
                refine fin _ fun d => ?_
                by_cases e : d = j
                · subst e
                  simp [hfd]
                · simp [e]
                  have : d < j + 1 ↔ d < j := by omega
                  simp [this]
              by_cases c5 : (j : Int) = C
              · have c6 : ¬ 0 < j := fun q => c2 ⟨c5, Or.inl (by omega)⟩
                have c7 : ¬ 0 < A := fun q => c2 ⟨c5, Or.inr q⟩
                subst c5
                simp [tRet, tRetN, tDrop, tAsg, gName, tSeq, tNext, tIfS, tAndV, tOrV, tNotV, tAnd, tOr, tNot, tB, tTest, tVar, tC, tOp, tUn, tCons, tNil, tTup, tLst, tCB, tBM, tBM0, tM1, tM0, tCall, tMeth, tMake, tFldU, sFldU, tChain, tIf, tPar, tPar3, tAug, tDisp, tPairs, tDGet2, sDPut, rIsiU, rIsiTU, rLenU, rIxU, rInU, rNilU, rEqU, rNeU, rEq, rNe, rMax2U, rMin2U, rInt1U, rAbsU, scal, rAddU, rMulU, rI0, rI, rU, rListU, rTupU, rSumU, rAllU, rAnyU, rDictU, rSlU, tSl, tPart, tNoPart, rAppend, rExtend, rPop, rPopAt, rJoinU, rRepr, tSumVals, tyN_non, tyN_bl, tyN_int, tyN_str, tyN_ref, tyO_lst, tyO_tup, tyO_dK, tyO_flst, tyO_ftup, tyO_fdK, and_assoc, tyList, isT, tyAsk, lk_none, lk_frz, lk_lst, lk_tup, lk_dK, lk_ins, kV_str, kV_int, kV_kV, L2.start, E0, tForZ, zList, zTup, zStr, zRng1, zRng2, zEnumS, zEnumL, zKeys, zVals, zItems, tAugS, rGetL, rSetL, ipI, tyN_new, upd_same, tLcV, tDcZ, tYes, wipe, tLcZ, tScZ, cxOf, RVal, RTup, gTupU, gCons, gNil, tProp, tDGetU, sDPutU, rLenO, rDEqU, tBML, tBML0, tConU, tDNewK, rIsiO, c6, c7, -List.map_inj_left]
                exact ⟨k1, k2⟩
              · simp [tRet, tRetN, tDrop, tAsg, gName, tSeq, tNext, tIfS, tAndV, tOrV, tNotV, tAnd, tOr, tNot, tB, tTest, tVar, tC, tOp, tUn, tCons, tNil, tTup, tLst, tCB, tBM, tBM0, tM1, tM0, tCall, tMeth, tMake, tFldU, sFldU, tChain, tIf, tPar, tPar3, tAug, tDisp, tPairs, tDGet2, sDPut, rIsiU, rIsiTU, rLenU, rIxU, rInU, rNilU, rEqU, rNeU, rEq, rNe, rMax2U, rMin2U, rInt1U, rAbsU, scal, rAddU, rMulU, rI0, rI, rU, rListU, rTupU, rSumU, rAllU, rAnyU, rDictU, rSlU, tSl, tPart, tNoPart, rAppend, rExtend, rPop, rPopAt, rJoinU, rRepr, tSumVals, tyN_non, tyN_bl, tyN_int, tyN_str, tyN_ref, tyO_lst, tyO_tup, tyO_dK, tyO_flst, tyO_ftup, tyO_fdK, and_assoc, tyList, isT, tyAsk, lk_none, lk_frz, lk_lst, lk_tup, lk_dK, lk_ins, kV_str, kV_int, kV_kV, L2.start, E0, tForZ, zList, zTup, zStr, zRng1, zRng2, zEnumS, zEnumL, zKeys, zVals, zItems, tAugS, rGetL, rSetL, ipI, tyN_new, upd_same, tLcV, tDcZ, tYes, wipe, tLcZ, tScZ, cxOf, RVal, RTup, gTupU, gCons, gNil, tProp, tDGetU, sDPutU, rLenO, rDEqU, tBML, tBML0, tConU, tDNewK, rIsiO, c5, -List.map_inj_left]
                exact ⟨k1, k2⟩
          · rintro σ' H3 ⟨x, y, rfl, hs3, hf3⟩
            simp [tRet, tRetN, tDrop, tAsg, gName, tSeq, tNext, tIfS, tAndV, tOrV, tNotV, tAnd, tOr, tNot, tB, tTest, tVar, tC, tOp, tUn, tCons, tNil, tTup, tLst, tCB, tBM, tBM0, tM1, tM0, tCall, tMeth, tMake, tFldU, sFldU, tChain, tIf, tPar, tPar3, tAug, tDisp, tPairs, tDGet2, sDPut, rIsiU, rIsiTU, rLenU, rIxU, rInU, rNilU, rEqU, rNeU, rEq, rNe, rMax2U, rMin2U, rInt1U, rAbsU, scal, rAddU, rMulU, rI0, rI, rU, rListU, rTupU, rSumU, rAllU, rAnyU, rDictU, rSlU, tSl, tPart, tNoPart, rAppend, rExtend, rPop, rPopAt, rJoinU, rRepr, tSumVals, tyN_non, tyN_bl, tyN_int, tyN_str, tyN_ref, tyO_lst, tyO_tup, tyO_dK, tyO_flst, tyO_ftup, tyO_fdK, and_assoc, tyList, isT, tyAsk, lk_none, lk_frz, lk_lst, lk_tup, lk_dK, lk_ins, kV_str, kV_int, kV_kV, L2.start, E0, tForZ, zList, zTup, zStr, zRng1, zRng2, zEnumS, zEnumL, zKeys, zVals, zItems, tAugS, rGetL, rSetL, ipI, tyN_new, upd_same, tLcV, tDcZ, tYes, wipe, tLcZ, tScZ, cxOf, RVal, RTup, gTupU, gCons, gNil, tProp, tDGetU, sDPutU, rLenO, rDEqU, tBML, tBML0, tConU, tDNewK, rIsiO]
            refine ⟨cmul (few40 (by omega) (by omega)) (few40 (by omega) (by omega)), (Int.pow_succ b i).symm, hs3, ?_⟩
            rw [hf3, intsZ_len, Int.sub_zero]
            congr 2
            apply List.map_congr_left
            intro d hd
            rw [List.mem_range] at hd
            rw [if_pos hd]
            rfl
      · refine q p1 H' i hp1' hs (by omega) hf
end
end K74

set_option Elab.async false
set_option linter.all false
set_option maxRecDepth 100000
set_option maxHeartbeats 4000000
namespace K74
open PySem PySem.Spec PyProof.Rows L2 G
/-! ### dicts from lists -/
theorem mergeK_app {l : List (Key × V)} {m : List (Key × V)} : (∀ kv ∈ m, kv.1 ∉ l.map (·.1)) → (m.map (·.1)).Nodup → mergeK l m = l ++ m := by
  induction m generalizing l with
  | nil => intro _ _; simp [mergeK]
  | cons kv m ih =>
    intro h hn
    have hk : kv.1 ∉ l.map (·.1) := h kv List.mem_cons_self
    rw [List.map_cons, List.nodup_cons] at hn
    have e : putK l kv.1 kv.2 = l ++ [kv] := by
      unfold putK
      rw [if_neg]
      intro hany
      rw [List.any_eq_true] at hany
      obtain ⟨x, hx, e⟩ := hany
      exact hk (List.mem_map.mpr ⟨x, hx, of_decide_eq_true e⟩)
    show mergeK (putK l kv.1 kv.2) m = l ++ kv :: m
    rw [e, ih]
    · simp
    · intro x hx hm
      rw [List.map_append, List.mem_append] at hm
      rcases hm with hm | hm
      · exact h x (List.mem_cons_of_mem _ hx) hm
      · have e2 : x.1 = kv.1 := by simpa using hm
        exact hn.1 (e2 ▸ List.mem_map.mpr ⟨x, hx, rfl⟩)
    · exact hn.2
theorem mergeK_nd {m : List (Key × V)} (h : (m.map (·.1)).Nodup) : mergeK [] m = m := by
  rw [mergeK_app (by simp) h, List.nil_append]
/-- the key of a sign -/
def sk (c : Nat) : Key := Sum.inr ⟨#[c]⟩
theorem sk_inj {a b : Nat} (h : sk a = sk b) : a = b := by
  unfold sk at h
  injection h with h
  injection h with h
  simpa using h
theorem nodup_map_sk {α : Type} {l : List α} {f : α → Nat} (h : (l.map f).Nodup) : (l.map fun z => sk (f z)).Nodup := by
  have e : (l.map fun z => sk (f z)) = (l.map f).map sk := by rw [List.map_map]; rfl
  rw [e]
  unfold List.Nodup at h ⊢
  rw [List.pairwise_map]
  exact h.imp fun {a b} hab e => hab (sk_inj e)
theorem valV_cons {kv : Key × V} {l : List (Key × V)} {k : Key} : valV (kv :: l) k = if kv.1 = k then some kv.2 else valV l k := by
  unfold valV
  rw [List.find?_cons]
  by_cases h : kv.1 = k
  · simp [h]
  · simp [h]
theorem valV_nil {k : Key} : valV ([] : List (Key × V)) k = none := rfl
theorem valV_map {l : List Nat} {f : Nat → V} {c : Nat} : valV (l.map fun z => (sk z, f z)) (sk c) = if c ∈ l then some (f c) else none := by
  induction l with
  | nil => rfl
  | cons a l ih =>
    rw [List.map_cons, valV_cons, ih]
    by_cases h : a = c
    · subst h
      simp
    · have h2 : ¬ sk a = sk c := fun e => h (sk_inj e)
      have h3 : ¬ c = a := fun e => h e.symm
      simp [h2, h3]
theorem filt {α : Type} {l : List α} : l.filter (fun _ => true) = l := List.filter_eq_self.mpr fun _ _ => rfl
theorem all_true {α : Type} {l : List α} : l.all (fun _ => true) = true := by simp [List.all_eq_true]
/-! ### fonts -/
/-- the signs of a font, as numbers -/
structure SgOk (sg : List Nat) : Prop where
  nd : sg.Nodup
  lo : 2 ≤ sg.length
  hi : sg.length ≤ 10
  lt : ∀ c ∈ sg, c ∈ ("0123456789abcdefghijklmnopqrstuvwxyz" : Str).cps.toList
def txt (sg : List Nat) : Str := ⟨sg.toArray⟩
theorem txt_list (sg : List Nat) : (txt sg).cps.toList = sg := by simp [txt]
theorem txt_len (sg : List Nat) : (txt sg).length = sg.length := by simp [txt, Str.length]
def ranksOf (sg : List Nat) : List (Key × V) := sg.zipIdx.map fun z => (sk z.1, V.int (z.2 : Nat))
theorem map_zipIdx_fst {sg : List Nat} : sg.zipIdx.map (fun z => z.1) = sg := by
  simp
/-- what a font is (its dicts may stand frozen) -/
def FontAt (K : PySem.W.Frag) (H : Hp) (x : Addr) (sg : List Nat) : Prop := ∃ dx r h hs, H x = some (.ins (He.ga K "Font") dx [("word", .str (txt sg)), ("ranks", .ref r), ("heads", .ref h)]) ∧
  lk (H r) = some (.dK (ranksOf sg)) ∧ lk (H h) = some (.dK hs) ∧ (∀ p ∈ hs, flatV p.2 = true) ∧ (hs.map (·.1)).Nodup
/-- as much of a font as a block may know -/
def FontL (K : PySem.W.Frag) (H : Hp) (x : Addr) (sg : List Nat) : Prop := ∃ dx r h, H x = some (.ins (He.ga K "Font") dx [("word", .str (txt sg)), ("ranks", .ref r), ("heads", .ref h)]) ∧ lk (H r) = some (.dK (ranksOf sg))
theorem lk_sub {H H' : Hp} {a : Addr} {u : HO} (s : Sub H H') (h : lk (H a) = some u) : lk (H' a) = some u := by
  rw [s a (fun e => by rw [e] at h; cases h)]
  exact h
theorem FontAt.sub {K : PySem.W.Frag} {H H' : Hp} {x : Addr} {sg : List Nat} (s : Sub H H') (h : FontAt K H x sg) : FontAt K H' x sg := by
  obtain ⟨dx, r, k, hs, h1, h2, h3, h4⟩ := h
  exact ⟨dx, r, k, hs, s.get h1, lk_sub s h2, lk_sub s h3, h4⟩
theorem FontAt.L {K : PySem.W.Frag} {H : Hp} {x : Addr} {sg : List Nat} (h : FontAt K H x sg) : FontL K H x sg := by
  obtain ⟨dx, r, k, hs, h1, h2, h3⟩ := h
  exact ⟨dx, r, k, h1, h2⟩
theorem FontL.sub {K : PySem.W.Frag} {H H' : Hp} {x : Addr} {sg : List Nat} (s : Sub H H') (h : FontL K H x sg) : FontL K H' x sg := by
  obtain ⟨dx, r, k, h1, h2⟩ := h
  exact ⟨dx, r, k, s.get h1, lk_sub s h2⟩
theorem FontL.frz {K : PySem.W.Frag} {H : Hp} {x d : Addr} {sg : List Nat} {kvs : List (Key × V)} {od : Obj} (hd : H d = some (.dK kvs)) (h : FontL K H x sg) : FontL K (upd H d (.frz od (.dK kvs))) x sg := by
  obtain ⟨dx, r, k, h1, h2⟩ := h
  exact ⟨dx, r, k, by rw [upd_ne (ne_of h1 hd nofun)]; exact h1, by rw [lk_freeze hd rfl]; exact h2⟩
theorem valV_ranks {sg : List Nat} {c : Nat} : (valV (ranksOf sg) (sk c)).isSome = decide (c ∈ sg) := by
  have key : ∀ (l : List (Nat × Nat)), (valV (l.map fun z => (sk z.1, V.int (z.2 : Nat))) (sk c)).isSome = decide (c ∈ l.map (·.1)) := by
    intro l
    induction l with
    | nil => rfl
    | cons a l ih =>
      rw [List.map_cons, valV_cons]
      by_cases h : a.1 = c
      · simp [h]
      · have h2 : ¬ sk a.1 = sk c := fun e => h (sk_inj e)
        have h3 : ¬ c = a.1 := fun e => h e.symm
        rw [if_neg h2, ih]
        simp [h3]
  unfold ranksOf
  rw [key, map_zipIdx_fst]
theorem lk_word {a b c : V} : ([(("word" : Str), a), ("ranks", b), ("heads", c)] : List (Str × V)).lookup ("word" : Str) = some a := by rfl
theorem lk_ranks {a b c : V} : ([(("word" : Str), a), ("ranks", b), ("heads", c)] : List (Str × V)).lookup ("ranks" : Str) = some b := by rfl
theorem lk_heads {a b c : V} : ([(("word" : Str), a), ("ranks", b), ("heads", c)] : List (Str × V)).lookup ("heads" : Str) = some c := by rfl
theorem lk_font {a b : V} : ([(("own_font" : Str), a), ("numbers", b)] : List (Str × V)).lookup ("own_font" : Str) = some a := by rfl
theorem lk_numbers {a b : V} : ([(("own_font" : Str), a), ("numbers", b)] : List (Str × V)).lookup ("numbers" : Str) = some b := by rfl
section
variable {P : Program} {w : World} {K : PySem.W.Frag} {mg : Str → Option Value} {base : Heap}
def sp_is_sign (K : PySem.W.Frag) : Sp := fun vs H Q _ => ∃ x sg c, vs = [.ref x, sgn c] ∧ FontL K H x sg ∧ Q (.bl (decide (c ∈ sg))) H
theorem ok_is_sign (T : Txt K mg) : FnOk P w K mg base CX0 1 (He.ga K "is_sign") T.fd_is_sign ["font", "value"] (sp_is_sign K) := by
  refine FunD.ok T.F_is_sign sc_is_sign (fun vs H Q E h => ?_) fun cdv A outer s H vs Q E hr h => ⟨_, PSs.nox (pss_one (ps_ret (pe_and (pe_callB call_isiU rfl T.f_isinstance boot_isinstance (pa_cons (pv 1) (pa_cons (pe_bltn (v := .ty "str") rfl T.f_str boot_str rfl) pa_nil))) (pe_one (pe_cmpR (op_inU (hu_of hr)) (pv 1) (pe_fldU (C := He.ga K "Font") T.cls_Font T.na_Font_ranks (pv 0) rfl) rfl))))), ?_⟩
  · obtain ⟨x, sg, c, rfl, _⟩ := h
    rfl
  · obtain ⟨x, sg, c, rfl, ⟨dx, r, k, h1, h2⟩, q⟩ := h
    simp [tRet, tRetN, tDrop, tAsg, gName, tSeq, tNext, tIfS, tAndV, tOrV, tNotV, tAnd, tOr, tNot, tB, tTest, tVar, tC, tOp, tUn, tCons, tNil, tTup, tLst, tCB, tBM, tBM0, tM1, tM0, tCall, tMeth, tMake, tFldU, sFldU, tChain, tIf, tPar, tPar3, tAug, tDisp, tPairs, tDGet2, sDPut, rIsiU, rIsiTU, rLenU, rIxU, rInU, rNilU, rEqU, rNeU, rEq, rNe, rMax2U, rMin2U, rInt1U, rAbsU, scal, rAddU, rMulU, rI0, rI, rU, rListU, rTupU, rSumU, rAllU, rAnyU, rDictU, rSlU, tSl, tPart, tNoPart, rAppend, rExtend, rPop, rPopAt, rJoinU, rRepr, tSumVals, tyN_non, tyN_bl, tyN_int, tyN_str, tyN_ref, tyO_lst, tyO_tup, tyO_dK, tyO_flst, tyO_ftup, tyO_fdK, and_assoc, tyList, isT, tyAsk, lk_none, lk_frz, lk_lst, lk_tup, lk_dK, lk_ins, kV_str, kV_int, kV_kV, L2.start, E0, tForZ, zList, zTup, zStr, zRng1, zRng2, zEnumS, zEnumL, zKeys, zVals, zItems, tAugS, rGetL, rSetL, ipI, tyN_new, upd_same, tLcV, tDcZ, tYes, wipe, tLcZ, tScZ, cxOf, RVal, RTup, gTupU, gCons, gNil, tProp, tDGetU, sDPutU, rLenO, rDEqU, tBML, tBML0, tConU, tDNewK, rIsiO, sgn, h1, h2, lk_ranks]
    have := valV_ranks (sg := sg) (c := c)
    unfold sk at this
    rw [this]
    exact q
def sp_Font_signs (K : PySem.W.Frag) : Sp := fun vs H Q _ => ∃ x sg, vs = [.ref x] ∧ FontL K H x sg ∧ Q (.str (txt sg)) H
theorem ok_Font_signs (T : Txt K mg) : FnOk P w K mg base CX0 1 (gAd K (He.ga K "Font") "signs") T.fd_Font_signs ["self"] (sp_Font_signs K) := by
  refine FunD.ok T.F_Font_signs sc_Font_signs (fun vs H Q E h => ?_) fun cdv A outer s H vs Q E hr h => ⟨_, PSs.nox (pss_one (ps_ret (pe_fldU (C := He.ga K "Font") T.cls_Font T.na_Font_word (pv 0) rfl))), ?_⟩
  · obtain ⟨x, sg, rfl, _⟩ := h
    rfl
  · obtain ⟨x, sg, rfl, ⟨dx, r, k, h1, h2⟩, q⟩ := h
    simpa [tRet, tRetN, tDrop, tAsg, gName, tSeq, tNext, tIfS, tAndV, tOrV, tNotV, tAnd, tOr, tNot, tB, tTest, tVar, tC, tOp, tUn, tCons, tNil, tTup, tLst, tCB, tBM, tBM0, tM1, tM0, tCall, tMeth, tMake, tFldU, sFldU, tChain, tIf, tPar, tPar3, tAug, tDisp, tPairs, tDGet2, sDPut, rIsiU, rIsiTU, rLenU, rIxU, rInU, rNilU, rEqU, rNeU, rEq, rNe, rMax2U, rMin2U, rInt1U, rAbsU, scal, rAddU, rMulU, rI0, rI, rU, rListU, rTupU, rSumU, rAllU, rAnyU, rDictU, rSlU, tSl, tPart, tNoPart, rAppend, rExtend, rPop, rPopAt, rJoinU, rRepr, tSumVals, tyN_non, tyN_bl, tyN_int, tyN_str, tyN_ref, tyO_lst, tyO_tup, tyO_dK, tyO_flst, tyO_ftup, tyO_fdK, and_assoc, tyList, isT, tyAsk, lk_none, lk_frz, lk_lst, lk_tup, lk_dK, lk_ins, kV_str, kV_int, kV_kV, L2.start, E0, tForZ, zList, zTup, zStr, zRng1, zRng2, zEnumS, zEnumL, zKeys, zVals, zItems, tAugS, rGetL, rSetL, ipI, tyN_new, upd_same, tLcV, tDcZ, tYes, wipe, tLcZ, tScZ, cxOf, RVal, RTup, gTupU, gCons, gNil, tProp, tDGetU, sDPutU, rLenO, rDEqU, tBML, tBML0, tConU, tDNewK, rIsiO, h1, lk_word] using q
/-- a dict of signs and whole numbers -/
def cnts (cs : List (Nat × Int)) : List (Key × V) := cs.map fun z => (sk z.1, V.int z.2)
/-- are_counts: of signs and numbers that are none too small -/
def sp_are_counts (K : PySem.W.Frag) : Sp := fun vs H Q _ => ∃ x sg d cs, vs = [.ref x, .ref d] ∧ FontL K H x sg ∧ H d = some (.dK (cnts cs)) ∧ (∀ z ∈ cs, z.1 ∈ sg ∧ 0 ≤ z.2) ∧ cs.length ≤ 100 ∧ ∀ H', Sub H H' → Q (.bl true) H'
theorem ok_are_counts (T : Txt K mg) : FnOk P w K mg base CX0 2 (He.ga K "are_counts") T.fd_are_counts ["font", "value"] (sp_are_counts K) := by
  refine FunD.ok T.F_are_counts sc_are_counts (fun vs H Q E h => ?_) fun cdv A outer s H vs Q E hr h => ⟨_, PSs.nox (pss_cons (ps_if (PW.pt (pw_or (pt_not (pt_val (pe_callB call_isiU rfl T.f_isinstance boot_isinstance (pa_cons (pv 1) (pa_cons (pe_bltn (v := .ty "dict") rfl T.f_dict boot_dict rfl) pa_nil))))) (pw_or1 (pt_not (pt_val (pe_callB (call_allU rfl) rfl T.f_all boot_all (pa_cons (pe_lock (pe_lcV rfl sc_are_counts.nd (z_keys (pv 1)) (own := [("sign", 2)]) (show BlkOk ["font", "value", "sign", "count"] (defScope s_are_counts) _ [("sign", 2)] from ⟨rfl, by decide +kernel, by decide +kernel, by decide +kernel, by decide +kernel⟩) (fun _ _ _ _ _ => (pg_name (i := 2) sc_are_counts.nd rfl (by first | exact Or.inl rfl | exact Or.inr rfl))) (fun _ _ _ _ _ => pts_nil) (fun _ _ _ _ _ => (pe_call (ok_is_sign T) (hr.mono (by omega)) rfl T.g_is_sign T.F_is_sign.kp (b_is_sign T) .nil pass0 (pa_cons (pv 0) (pa_cons (pv 2) pa_nil)))))) pa_nil))))))) (pss_one (ps_ret pe_bl)) pss_nil)
      (pss_one (ps_ret (pe_callB (call_allU rfl) rfl T.f_all boot_all (pa_cons (pe_lock (pe_lcV rfl sc_are_counts.nd (z_vals (pv 1)) (own := [("count", 3)]) (show BlkOk ["font", "value", "sign", "count"] (defScope s_are_counts) _ [("count", 3)] from ⟨rfl, by decide +kernel, by decide +kernel, by decide +kernel, by decide +kernel⟩) (fun _ _ _ _ _ => (pg_name (i := 3) sc_are_counts.nd rfl (by first | exact Or.inl rfl | exact Or.inr rfl))) (fun _ _ _ _ _ => pts_nil) (fun _ _ _ _ _ => (pe_and (pe_call (ok_is_integer T) (hr.mono (by omega)) rfl T.g_is_integer T.F_is_integer.kp (b_is_integer T) .nil pass0 (pa_cons (pv 3) pa_nil)) (pe_one (pe_cmpR op_ge (pv 3) pe_int (nomark _))))))) pa_nil))))), ?_⟩
  · obtain ⟨x, sg, d, cs, rfl, _⟩ := h
    rfl
  · obtain ⟨x, sg, d, cs, rfl, hF, hd, hc, hl, q⟩ := h
    have hlc : (cnts cs).length ≤ 16777216 := by simp [cnts]; omega
    have hm1 : (cnts cs).map (fun _ => V.bl true) = (cs.map fun _ => true).map V.bl := by simp [cnts, List.map_map]
    simp [tRet, tRetN, tDrop, tAsg, gName, tSeq, tNext, tIfS, tAndV, tOrV, tNotV, tAnd, tOr, tNot, tB, tTest, tVar, tC, tOp, tUn, tCons, tNil, tTup, tLst, tCB, tBM, tBM0, tM1, tM0, tCall, tMeth, tMake, tFldU, sFldU, tChain, tIf, tPar, tPar3, tAug, tDisp, tPairs, tDGet2, sDPut, rIsiU, rIsiTU, rLenU, rIxU, rInU, rNilU, rEqU, rNeU, rEq, rNe, rMax2U, rMin2U, rInt1U, rAbsU, scal, rAddU, rMulU, rI0, rI, rU, rListU, rTupU, rSumU, rAllU, rAnyU, rDictU, rSlU, tSl, tPart, tNoPart, rAppend, rExtend, rPop, rPopAt, rJoinU, rRepr, tSumVals, tyN_non, tyN_bl, tyN_int, tyN_str, tyN_ref, tyO_lst, tyO_tup, tyO_dK, tyO_flst, tyO_ftup, tyO_fdK, and_assoc, tyList, isT, tyAsk, lk_none, lk_frz, lk_lst, lk_tup, lk_dK, lk_ins, kV_str, kV_int, kV_kV, L2.start, E0, tForZ, zList, zTup, zStr, zRng1, zRng2, zEnumS, zEnumL, zKeys, zVals, zItems, tAugS, rGetL, rSetL, ipI, tyN_new, upd_same, tLcV, tDcZ, tYes, wipe, tLcZ, tScZ, cxOf, RVal, RTup, gTupU, gCons, gNil, tProp, tDGetU, sDPutU, rLenO, rDEqU, tBML, tBML0, tConU, tDNewK, rIsiO, hd]
    refine lockE hd fun od => ?_
    simp [tRet, tRetN, tDrop, tAsg, gName, tSeq, tNext, tIfS, tAndV, tOrV, tNotV, tAnd, tOr, tNot, tB, tTest, tVar, tC, tOp, tUn, tCons, tNil, tTup, tLst, tCB, tBM, tBM0, tM1, tM0, tCall, tMeth, tMake, tFldU, sFldU, tChain, tIf, tPar, tPar3, tAug, tDisp, tPairs, tDGet2, sDPut, rIsiU, rIsiTU, rLenU, rIxU, rInU, rNilU, rEqU, rNeU, rEq, rNe, rMax2U, rMin2U, rInt1U, rAbsU, scal, rAddU, rMulU, rI0, rI, rU, rListU, rTupU, rSumU, rAllU, rAnyU, rDictU, rSlU, tSl, tPart, tNoPart, rAppend, rExtend, rPop, rPopAt, rJoinU, rRepr, tSumVals, tyN_non, tyN_bl, tyN_int, tyN_str, tyN_ref, tyO_lst, tyO_tup, tyO_dK, tyO_flst, tyO_ftup, tyO_fdK, and_assoc, tyList, isT, tyAsk, lk_none, lk_frz, lk_lst, lk_tup, lk_dK, lk_ins, kV_str, kV_int, kV_kV, L2.start, E0, tForZ, zList, zTup, zStr, zRng1, zRng2, zEnumS, zEnumL, zKeys, zVals, zItems, tAugS, rGetL, rSetL, ipI, tyN_new, upd_same, tLcV, tDcZ, tYes, wipe, tLcZ, tScZ, cxOf, RVal, RTup, gTupU, gCons, gNil, tProp, tDGetU, sDPutU, rLenO, rDEqU, tBML, tBML0, tConU, tDNewK, rIsiO]
    refine lcv (fun _ => true) (fun _ => V.bl true) hlc (fun H' hs' => hs'.get upd_same) (fun z hz H2 v H3 hs2 hr => ?_) (fun D H2 hD hs2 hH2 => ?_)
    · obtain ⟨rfl, rfl⟩ := hr
      obtain ⟨⟨c0, n0⟩, hm, rfl⟩ := List.mem_map.mp hz
      simp [tRet, tRetN, tDrop, tAsg, gName, tSeq, tNext, tIfS, tAndV, tOrV, tNotV, tAnd, tOr, tNot, tB, tTest, tVar, tC, tOp, tUn, tCons, tNil, tTup, tLst, tCB, tBM, tBM0, tM1, tM0, tCall, tMeth, tMake, tFldU, sFldU, tChain, tIf, tPar, tPar3, tAug, tDisp, tPairs, tDGet2, sDPut, rIsiU, rIsiTU, rLenU, rIxU, rInU, rNilU, rEqU, rNeU, rEq, rNe, rMax2U, rMin2U, rInt1U, rAbsU, scal, rAddU, rMulU, rI0, rI, rU, rListU, rTupU, rSumU, rAllU, rAnyU, rDictU, rSlU, tSl, tPart, tNoPart, rAppend, rExtend, rPop, rPopAt, rJoinU, rRepr, tSumVals, tyN_non, tyN_bl, tyN_int, tyN_str, tyN_ref, tyO_lst, tyO_tup, tyO_dK, tyO_flst, tyO_ftup, tyO_fdK, and_assoc, tyList, isT, tyAsk, lk_none, lk_frz, lk_lst, lk_tup, lk_dK, lk_ins, kV_str, kV_int, kV_kV, L2.start, E0, tForZ, zList, zTup, zStr, zRng1, zRng2, zEnumS, zEnumL, zKeys, zVals, zItems, tAugS, rGetL, rSetL, ipI, tyN_new, upd_same, tLcV, tDcZ, tYes, wipe, tLcZ, tScZ, cxOf, RVal, RTup, gTupU, gCons, gNil, tProp, tDGetU, sDPutU, rLenO, rDEqU, tBML, tBML0, tConU, tDNewK, rIsiO, sp_is_sign, sgn, sk]
      exact ⟨sg, c0, rfl, (hF.frz hd).sub hs2, Sub.refl _, (hc _ hm).1⟩
    · have hDd : D ≠ d := fun e => by rw [e, upd_same] at hD; cases hD
      refine ⟨hs2.get upd_same, ?_⟩
      rw [filt] at hH2
      simp [tRet, tRetN, tDrop, tAsg, gName, tSeq, tNext, tIfS, tAndV, tOrV, tNotV, tAnd, tOr, tNot, tB, tTest, tVar, tC, tOp, tUn, tCons, tNil, tTup, tLst, tCB, tBM, tBM0, tM1, tM0, tCall, tMeth, tMake, tFldU, sFldU, tChain, tIf, tPar, tPar3, tAug, tDisp, tPairs, tDGet2, sDPut, rIsiU, rIsiTU, rLenU, rIxU, rInU, rNilU, rEqU, rNeU, rEq, rNe, rMax2U, rMin2U, rInt1U, rAbsU, scal, rAddU, rMulU, rI0, rI, rU, rListU, rTupU, rSumU, rAllU, rAnyU, rDictU, rSlU, tSl, tPart, tNoPart, rAppend, rExtend, rPop, rPopAt, rJoinU, rRepr, tSumVals, tyN_non, tyN_bl, tyN_int, tyN_str, tyN_ref, tyO_lst, tyO_tup, tyO_dK, tyO_flst, tyO_ftup, tyO_fdK, and_assoc, tyList, isT, tyAsk, lk_none, lk_frz, lk_lst, lk_tup, lk_dK, lk_ins, kV_str, kV_int, kV_kV, L2.start, E0, tForZ, zList, zTup, zStr, zRng1, zRng2, zEnumS, zEnumL, zKeys, zVals, zItems, tAugS, rGetL, rSetL, ipI, tyN_new, upd_same, tLcV, tDcZ, tYes, wipe, tLcZ, tScZ, cxOf, RVal, RTup, gTupU, gCons, gNil, tProp, tDGetU, sDPutU, rLenO, rDEqU, tBML, tBML0, tConU, tDNewK, rIsiO, upd_ne hDd, hH2]
      refine ⟨_, hm1, ?_⟩
      rw [if_neg (by simp)]
      have hs3 := unfrz hd hs2
      have hd3 : (upd H2 d (.dK (cnts cs))) d = some (.dK (cnts cs)) := upd_same
      generalize upd H2 d (.dK (cnts cs)) = H4 at *
      refine lockE hd3 fun od2 => ?_
      simp [tRet, tRetN, tDrop, tAsg, gName, tSeq, tNext, tIfS, tAndV, tOrV, tNotV, tAnd, tOr, tNot, tB, tTest, tVar, tC, tOp, tUn, tCons, tNil, tTup, tLst, tCB, tBM, tBM0, tM1, tM0, tCall, tMeth, tMake, tFldU, sFldU, tChain, tIf, tPar, tPar3, tAug, tDisp, tPairs, tDGet2, sDPut, rIsiU, rIsiTU, rLenU, rIxU, rInU, rNilU, rEqU, rNeU, rEq, rNe, rMax2U, rMin2U, rInt1U, rAbsU, scal, rAddU, rMulU, rI0, rI, rU, rListU, rTupU, rSumU, rAllU, rAnyU, rDictU, rSlU, tSl, tPart, tNoPart, rAppend, rExtend, rPop, rPopAt, rJoinU, rRepr, tSumVals, tyN_non, tyN_bl, tyN_int, tyN_str, tyN_ref, tyO_lst, tyO_tup, tyO_dK, tyO_flst, tyO_ftup, tyO_fdK, and_assoc, tyList, isT, tyAsk, lk_none, lk_frz, lk_lst, lk_tup, lk_dK, lk_ins, kV_str, kV_int, kV_kV, L2.start, E0, tForZ, zList, zTup, zStr, zRng1, zRng2, zEnumS, zEnumL, zKeys, zVals, zItems, tAugS, rGetL, rSetL, ipI, tyN_new, upd_same, tLcV, tDcZ, tYes, wipe, tLcZ, tScZ, cxOf, RVal, RTup, gTupU, gCons, gNil, tProp, tDGetU, sDPutU, rLenO, rDEqU, tBML, tBML0, tConU, tDNewK, rIsiO]
      refine lcv (fun _ => true) (fun _ => V.bl true) hlc (fun H' hs' => hs'.get upd_same) (fun z hz H5 v H6 hs5 hr => ?_) (fun D2 H5 hD2 hs5 hH5 => ?_)
      · obtain ⟨rfl, rfl⟩ := hr
        obtain ⟨⟨c0, n0⟩, hm, rfl⟩ := List.mem_map.mp hz
        simp [tRet, tRetN, tDrop, tAsg, gName, tSeq, tNext, tIfS, tAndV, tOrV, tNotV, tAnd, tOr, tNot, tB, tTest, tVar, tC, tOp, tUn, tCons, tNil, tTup, tLst, tCB, tBM, tBM0, tM1, tM0, tCall, tMeth, tMake, tFldU, sFldU, tChain, tIf, tPar, tPar3, tAug, tDisp, tPairs, tDGet2, sDPut, rIsiU, rIsiTU, rLenU, rIxU, rInU, rNilU, rEqU, rNeU, rEq, rNe, rMax2U, rMin2U, rInt1U, rAbsU, scal, rAddU, rMulU, rI0, rI, rU, rListU, rTupU, rSumU, rAllU, rAnyU, rDictU, rSlU, tSl, tPart, tNoPart, rAppend, rExtend, rPop, rPopAt, rJoinU, rRepr, tSumVals, tyN_non, tyN_bl, tyN_int, tyN_str, tyN_ref, tyO_lst, tyO_tup, tyO_dK, tyO_flst, tyO_ftup, tyO_fdK, and_assoc, tyList, isT, tyAsk, lk_none, lk_frz, lk_lst, lk_tup, lk_dK, lk_ins, kV_str, kV_int, kV_kV, L2.start, E0, tForZ, zList, zTup, zStr, zRng1, zRng2, zEnumS, zEnumL, zKeys, zVals, zItems, tAugS, rGetL, rSetL, ipI, tyN_new, upd_same, tLcV, tDcZ, tYes, wipe, tLcZ, tScZ, cxOf, RVal, RTup, gTupU, gCons, gNil, tProp, tDGetU, sDPutU, rLenO, rDEqU, tBML, tBML0, tConU, tDNewK, rIsiO, sp_is_integer]
        exact ⟨Sub.refl _, (hc _ hm).2⟩
      · have hDd2 : D2 ≠ d := fun e => by rw [e, upd_same] at hD2; cases hD2
        refine ⟨hs5.get upd_same, ?_⟩
        rw [filt] at hH5
        simp [tRet, tRetN, tDrop, tAsg, gName, tSeq, tNext, tIfS, tAndV, tOrV, tNotV, tAnd, tOr, tNot, tB, tTest, tVar, tC, tOp, tUn, tCons, tNil, tTup, tLst, tCB, tBM, tBM0, tM1, tM0, tCall, tMeth, tMake, tFldU, sFldU, tChain, tIf, tPar, tPar3, tAug, tDisp, tPairs, tDGet2, sDPut, rIsiU, rIsiTU, rLenU, rIxU, rInU, rNilU, rEqU, rNeU, rEq, rNe, rMax2U, rMin2U, rInt1U, rAbsU, scal, rAddU, rMulU, rI0, rI, rU, rListU, rTupU, rSumU, rAllU, rAnyU, rDictU, rSlU, tSl, tPart, tNoPart, rAppend, rExtend, rPop, rPopAt, rJoinU, rRepr, tSumVals, tyN_non, tyN_bl, tyN_int, tyN_str, tyN_ref, tyO_lst, tyO_tup, tyO_dK, tyO_flst, tyO_ftup, tyO_fdK, and_assoc, tyList, isT, tyAsk, lk_none, lk_frz, lk_lst, lk_tup, lk_dK, lk_ins, kV_str, kV_int, kV_kV, L2.start, E0, tForZ, zList, zTup, zStr, zRng1, zRng2, zEnumS, zEnumL, zKeys, zVals, zItems, tAugS, rGetL, rSetL, ipI, tyN_new, upd_same, tLcV, tDcZ, tYes, wipe, tLcZ, tScZ, cxOf, RVal, RTup, gTupU, gCons, gNil, tProp, tDGetU, sDPutU, rLenO, rDEqU, tBML, tBML0, tConU, tDNewK, rIsiO, upd_ne hDd2, hH5]
        refine ⟨_, hm1, ?_⟩
        have := q _ (hs3.trans (unfrz hd3 hs5))
        simpa [all_true] using this
def sp_is_font_text (K : PySem.W.Frag) : Sp := fun vs H Q _ => ∃ sg, vs = [.str (txt sg), .int 10] ∧ SgOk sg ∧ ∀ H', Sub H H' → Q (.bl true) H'
theorem ok_is_font_text (T : Txt K mg) : FnOk P w K mg base CX0 1 (He.ga K "is_font_text") T.fd_is_font_text ["value", "most"] (sp_is_font_text K) := by
  refine FunD.ok T.F_is_font_text sc_is_font_text (fun vs H Q E h => ?_) fun cdv A outer s H vs Q E hr h => ⟨_, PSs.nox (pss_cons (ps_if (PW.pt (pw_or (pt_not (pt_val (pe_callB call_isiU rfl T.f_isinstance boot_isinstance (pa_cons (pv 0) (pa_cons (pe_bltn (v := .ty "str") rfl T.f_str boot_str rfl) pa_nil))))) (pw_or1 (pt_not (pt_chain op_le op_le (pe_glob (v := .int (2)) rfl T.c_LEAST_SIGNS.choose_spec ⟨_, rfl⟩) (pe_callB call_lenU rfl T.f_len boot_len (pa_cons (pv 0) pa_nil)) (pv 1)))))) (pss_one (ps_ret pe_bl)) pss_nil)
      (pss_one (ps_ret (pe_and (pe_callB (call_allU rfl) rfl T.f_all boot_all (pa_cons (pe_lcV rfl sc_is_font_text.nd (z_str (pv 0)) (own := [("sign", 2)]) (show BlkOk ["value", "most", "sign"] (defScope s_is_font_text) _ [("sign", 2)] from ⟨rfl, by decide +kernel, by decide +kernel, by decide +kernel, by decide +kernel⟩) (fun _ _ _ _ _ => (pg_name (i := 2) sc_is_font_text.nd rfl (by first | exact Or.inl rfl | exact Or.inr rfl))) (fun _ _ _ _ _ => pts_nil) (fun _ _ _ _ _ => (pe_cmpR (op_inU (hu_of hr)) (pv 2) (pe_glob (v := .str "0123456789abcdefghijklmnopqrstuvwxyz") rfl T.c_SIGNS.choose_spec ⟨_, rfl⟩) rfl))) pa_nil)) (pe_one (pe_cmpR (op_eqU (hu0 hr)) (pe_callB call_lenU rfl T.f_len boot_len (pa_cons (pe_scZ rfl sc_is_font_text.nd (z_str (pv 0)) (own := [("sign", 2)]) (show BlkOk ["value", "most", "sign"] (defScope s_is_font_text) _ [("sign", 2)] from ⟨rfl, by decide +kernel, by decide +kernel, by decide +kernel, by decide +kernel⟩) (fun _ _ _ _ _ => (pg_name (i := 2) sc_is_font_text.nd rfl (by first | exact Or.inl rfl | exact Or.inr rfl))) (fun _ _ _ _ _ => pts_nil) (fun _ _ _ _ _ => (pv 2))) pa_nil)) (pe_callB call_lenU rfl T.f_len boot_len (pa_cons (pv 0) pa_nil)) (nomark _))))))), ?_⟩
  · obtain ⟨sg, rfl, _⟩ := h
    rfl
  · obtain ⟨sg, rfl, ok, q⟩ := h
    have hlo := ok.lo
    have hhi := ok.hi
    have hsl := sizeLine_eq
    have hlen := txt_len sg
    simp [tRet, tRetN, tDrop, tAsg, gName, tSeq, tNext, tIfS, tAndV, tOrV, tNotV, tAnd, tOr, tNot, tB, tTest, tVar, tC, tOp, tUn, tCons, tNil, tTup, tLst, tCB, tBM, tBM0, tM1, tM0, tCall, tMeth, tMake, tFldU, sFldU, tChain, tIf, tPar, tPar3, tAug, tDisp, tPairs, tDGet2, sDPut, rIsiU, rIsiTU, rLenU, rIxU, rInU, rNilU, rEqU, rNeU, rEq, rNe, rMax2U, rMin2U, rInt1U, rAbsU, scal, rAddU, rMulU, rI0, rI, rU, rListU, rTupU, rSumU, rAllU, rAnyU, rDictU, rSlU, tSl, tPart, tNoPart, rAppend, rExtend, rPop, rPopAt, rJoinU, rRepr, tSumVals, tyN_non, tyN_bl, tyN_int, tyN_str, tyN_ref, tyO_lst, tyO_tup, tyO_dK, tyO_flst, tyO_ftup, tyO_fdK, and_assoc, tyList, isT, tyAsk, lk_none, lk_frz, lk_lst, lk_tup, lk_dK, lk_ins, kV_str, kV_int, kV_kV, L2.start, E0, tForZ, zList, zTup, zStr, zRng1, zRng2, zEnumS, zEnumL, zKeys, zVals, zItems, tAugS, rGetL, rSetL, ipI, tyN_new, upd_same, tLcV, tDcZ, tYes, wipe, tLcZ, tScZ, cxOf, RVal, RTup, gTupU, gCons, gNil, tProp, tDGetU, sDPutU, rLenO, rDEqU, tBML, tBML0, tConU, tDNewK, rIsiO]
    rw [hlen, if_pos (by omega), if_pos (by omega)]
    refine ⟨by omega, ?_⟩
    refine lcv (fun _ => true) (fun _ => V.bl true) (by rw [txt_list]; omega) (fun _ _ => trivial) (fun z hz H2 v H3 hs2 hr => ?_) (fun D H2 hD hs2 hH2 => ?_)
    · obtain ⟨rfl, rfl⟩ := hr
      rw [txt_list] at hz
      simp [tRet, tRetN, tDrop, tAsg, gName, tSeq, tNext, tIfS, tAndV, tOrV, tNotV, tAnd, tOr, tNot, tB, tTest, tVar, tC, tOp, tUn, tCons, tNil, tTup, tLst, tCB, tBM, tBM0, tM1, tM0, tCall, tMeth, tMake, tFldU, sFldU, tChain, tIf, tPar, tPar3, tAug, tDisp, tPairs, tDGet2, sDPut, rIsiU, rIsiTU, rLenU, rIxU, rInU, rNilU, rEqU, rNeU, rEq, rNe, rMax2U, rMin2U, rInt1U, rAbsU, scal, rAddU, rMulU, rI0, rI, rU, rListU, rTupU, rSumU, rAllU, rAnyU, rDictU, rSlU, tSl, tPart, tNoPart, rAppend, rExtend, rPop, rPopAt, rJoinU, rRepr, tSumVals, tyN_non, tyN_bl, tyN_int, tyN_str, tyN_ref, tyO_lst, tyO_tup, tyO_dK, tyO_flst, tyO_ftup, tyO_fdK, and_assoc, tyList, isT, tyAsk, lk_none, lk_frz, lk_lst, lk_tup, lk_dK, lk_ins, kV_str, kV_int, kV_kV, L2.start, E0, tForZ, zList, zTup, zStr, zRng1, zRng2, zEnumS, zEnumL, zKeys, zVals, zItems, tAugS, rGetL, rSetL, ipI, tyN_new, upd_same, tLcV, tDcZ, tYes, wipe, tLcZ, tScZ, cxOf, RVal, RTup, gTupU, gCons, gNil, tProp, tDGetU, sDPutU, rLenO, rDEqU, tBML, tBML0, tConU, tDNewK, rIsiO, sgn, inS_sign]
      exact ⟨Sub.refl _, by simpa using ok.lt z hz⟩
    · rw [filt, txt_list] at hH2
      simp [tRet, tRetN, tDrop, tAsg, gName, tSeq, tNext, tIfS, tAndV, tOrV, tNotV, tAnd, tOr, tNot, tB, tTest, tVar, tC, tOp, tUn, tCons, tNil, tTup, tLst, tCB, tBM, tBM0, tM1, tM0, tCall, tMeth, tMake, tFldU, sFldU, tChain, tIf, tPar, tPar3, tAug, tDisp, tPairs, tDGet2, sDPut, rIsiU, rIsiTU, rLenU, rIxU, rInU, rNilU, rEqU, rNeU, rEq, rNe, rMax2U, rMin2U, rInt1U, rAbsU, scal, rAddU, rMulU, rI0, rI, rU, rListU, rTupU, rSumU, rAllU, rAnyU, rDictU, rSlU, tSl, tPart, tNoPart, rAppend, rExtend, rPop, rPopAt, rJoinU, rRepr, tSumVals, tyN_non, tyN_bl, tyN_int, tyN_str, tyN_ref, tyO_lst, tyO_tup, tyO_dK, tyO_flst, tyO_ftup, tyO_fdK, and_assoc, tyList, isT, tyAsk, lk_none, lk_frz, lk_lst, lk_tup, lk_dK, lk_ins, kV_str, kV_int, kV_kV, L2.start, E0, tForZ, zList, zTup, zStr, zRng1, zRng2, zEnumS, zEnumL, zKeys, zVals, zItems, tAugS, rGetL, rSetL, ipI, tyN_new, upd_same, tLcV, tDcZ, tYes, wipe, tLcZ, tScZ, cxOf, RVal, RTup, gTupU, gCons, gNil, tProp, tDGetU, sDPutU, rLenO, rDEqU, tBML, tBML0, tConU, tDNewK, rIsiO, hH2]
      refine ⟨sg.map fun _ => true, by simp [List.map_map], ?_⟩
      rw [if_neg (by simp)]
      refine scv (fun _ => true) sk (by rw [txt_list]; omega) (fun _ _ => trivial) (fun z hz H3 v H4 hs3 hr => ?_) (fun D2 H3 S n hD2 hs3 hH3 hS hn => ?_)
      · obtain ⟨rfl, rfl⟩ := hr
        simp [tRet, tRetN, tDrop, tAsg, gName, tSeq, tNext, tIfS, tAndV, tOrV, tNotV, tAnd, tOr, tNot, tB, tTest, tVar, tC, tOp, tUn, tCons, tNil, tTup, tLst, tCB, tBM, tBM0, tM1, tM0, tCall, tMeth, tMake, tFldU, sFldU, tChain, tIf, tPar, tPar3, tAug, tDisp, tPairs, tDGet2, sDPut, rIsiU, rIsiTU, rLenU, rIxU, rInU, rNilU, rEqU, rNeU, rEq, rNe, rMax2U, rMin2U, rInt1U, rAbsU, scal, rAddU, rMulU, rI0, rI, rU, rListU, rTupU, rSumU, rAllU, rAnyU, rDictU, rSlU, tSl, tPart, tNoPart, rAppend, rExtend, rPop, rPopAt, rJoinU, rRepr, tSumVals, tyN_non, tyN_bl, tyN_int, tyN_str, tyN_ref, tyO_lst, tyO_tup, tyO_dK, tyO_flst, tyO_ftup, tyO_fdK, and_assoc, tyList, isT, tyAsk, lk_none, lk_frz, lk_lst, lk_tup, lk_dK, lk_ins, kV_str, kV_int, kV_kV, L2.start, E0, tForZ, zList, zTup, zStr, zRng1, zRng2, zEnumS, zEnumL, zKeys, zVals, zItems, tAugS, rGetL, rSetL, ipI, tyN_new, upd_same, tLcV, tDcZ, tYes, wipe, tLcZ, tScZ, cxOf, RVal, RTup, gTupU, gCons, gNil, tProp, tDGetU, sDPutU, rLenO, rDEqU, tBML, tBML0, tConU, tDNewK, rIsiO, sgn, sk]
        exact Sub.refl _
      · right; right; right; right
        have en : n = sg.length := by
          rw [filt, txt_list] at hn
          have h2 := hn.2 (nodup_map_sk (f := fun z => z) (by simpa using ok.nd))
          simpa using h2
        subst en
        refine ⟨D2, rfl, S, _, hH3, by omega, ?_⟩
        have := q _ (hs2.trans hs3)
        simpa using this
end
end K74

set_option Elab.async false
set_option linter.all false
set_option maxRecDepth 100000
set_option maxHeartbeats 4000000
namespace K74
open PySem PySem.Spec PyProof.Rows L2 G
section
variable {P : Program} {w : World} {K : PySem.W.Frag} {mg : Str → Option Value} {base : Heap}
theorem FontL.upd {H : Hp} {x y C dy : Addr} {sg : List Nat} {fs : List (Str × V)} {o : HO} (hy : H y = some (.ins C dy fs)) (hne : x ≠ y) (h : FontL K H x sg) : FontL K (upd H y o) x sg := by
  obtain ⟨dx, r, k, h1, h2⟩ := h
  refine ⟨dx, r, k, by rw [upd_ne hne]; exact h1, ?_⟩
  rw [upd_ne fun e => ?_]
  · exact h2
  · rw [e, hy] at h2
    cases h2
theorem FontL.ne {H : Hp} {x y C dy : Addr} {sg : List Nat} {fs : List (Str × V)} (hy : H y = some (.ins C dy fs)) (hf : fs.length < 3) (h : FontL K H x sg) : x ≠ y := by
  intro e
  obtain ⟨dx, r, k, h1, h2⟩ := h
  rw [e, hy] at h1
  injection h1 with h1
  injection h1 with _ _ h3
  rw [h3] at hf
  simp at hf
/-- the numbers of wants made of counts -/
def numsOf (sg : List Nat) (cs : List (Nat × Int)) : List (Key × V) := sg.map fun c => (sk c, ((valV (cnts cs) (sk c)).getD (.int 0)))
/-- Wants.__init__ on a new instance -/
def sp_Wants_ddinitdd (K : PySem.W.Frag) : Sp := fun vs H Q _ => ∃ y dy x sg d cs, vs = [.ref y, .ref x, .ref d] ∧ H y = some (.ins (He.ga K "Wants") dy []) ∧ FontL K H x sg ∧ SgOk sg ∧ H d = some (.dK (cnts cs)) ∧ (∀ z ∈ cs, z.1 ∈ sg ∧ 0 ≤ z.2) ∧ cs.length ≤ 100 ∧
  ∀ H' n, H n = none → SubX y H H' → H' y = some (.ins (He.ga K "Wants") dy [("own_font", .ref x), ("numbers", .ref n)]) → H' n = some (.dK (numsOf sg cs)) → Q .non H'
theorem ok_Wants_ddinitdd (T : Txt K mg) : FnOk P w K mg base CX0 3 (He.ma K (He.ga K "Wants") "__init__") T.fd_Wants_ddinitdd ["self", "font", "counts"] (sp_Wants_ddinitdd K) := by
  refine FunD.ok T.F_Wants_ddinitdd sc_Wants_ddinitdd (fun vs H Q E h => ?_) fun cdv A outer s H vs Q E hr h => ⟨_, PSs.nox (pss_cons (ps_if (pt_not (pt_val (pe_call (ok_are_counts T) (hr.mono (by omega)) rfl T.g_are_counts T.F_are_counts.kp (b_are_counts T) .nil pass0 (pa_cons (pv 1) (pa_cons (pv 2) pa_nil))))) (pss_one ps_never) pss_nil)
      (pss_cons (ps_fldU (C := He.ga K "Wants") T.cls_Wants T.na_Wants_own_font (pv 0) (pv 1) rfl)
      (pss_one (ps_fldU (C := He.ga K "Wants") T.cls_Wants T.na_Wants_numbers (pv 0) (pe_dcZ rfl sc_Wants_ddinitdd.nd (z_str (pe_prop (pv 1) T.cls_Font T.pr_Font_signs (ok_Font_signs T) (hr.mono (by omega)) (b_Font_signs T) .nil pass0 rfl)) (own := [("sign", 3)]) (show BlkOk ["self", "font", "counts", "sign"] (defScope s_Wants_ddinitdd) _ [("sign", 3)] from ⟨rfl, by decide +kernel, by decide +kernel, by decide +kernel, by decide +kernel⟩) (fun _ _ _ _ _ => (pg_name (i := 3) sc_Wants_ddinitdd.nd rfl (by first | exact Or.inl rfl | exact Or.inr rfl))) (fun _ _ _ _ _ => pts_nil) (fun _ _ _ _ _ => (pv 3)) (fun _ _ _ _ _ => (pe_dget2U (hu_of hr) (pv 2) (pv 3) pe_int ⟨rfl, rfl, rfl, rfl⟩))) rfl)))), ?_⟩
  · obtain ⟨y, dy, x, sg, d, cs, rfl, _⟩ := h
    rfl
  · obtain ⟨y, dy, x, sg, d, cs, rfl, hy, hF, ok, hd, hc, hl, q⟩ := h
    simp [tRet, tRetN, tDrop, tAsg, gName, tSeq, tNext, tIfS, tAndV, tOrV, tNotV, tAnd, tOr, tNot, tB, tTest, tVar, tC, tOp, tUn, tCons, tNil, tTup, tLst, tCB, tBM, tBM0, tM1, tM0, tCall, tMeth, tMake, tFldU, sFldU, tChain, tIf, tPar, tPar3, tAug, tDisp, tPairs, tDGet2, sDPut, rIsiU, rIsiTU, rLenU, rIxU, rInU, rNilU, rEqU, rNeU, rEq, rNe, rMax2U, rMin2U, rInt1U, rAbsU, scal, rAddU, rMulU, rI0, rI, rU, rListU, rTupU, rSumU, rAllU, rAnyU, rDictU, rSlU, tSl, tPart, tNoPart, rAppend, rExtend, rPop, rPopAt, rJoinU, rRepr, tSumVals, tyN_non, tyN_bl, tyN_int, tyN_str, tyN_ref, tyO_lst, tyO_tup, tyO_dK, tyO_flst, tyO_ftup, tyO_fdK, and_assoc, tyList, isT, tyAsk, lk_none, lk_frz, lk_lst, lk_tup, lk_dK, lk_ins, kV_str, kV_int, kV_kV, L2.start, E0, tForZ, zList, zTup, zStr, zRng1, zRng2, zEnumS, zEnumL, zKeys, zVals, zItems, tAugS, rGetL, rSetL, ipI, tyN_new, upd_same, tLcV, tDcZ, tYes, wipe, tLcZ, tScZ, cxOf, RVal, RTup, gTupU, gCons, gNil, tProp, tDGetU, sDPutU, rLenO, rDEqU, tBML, tBML0, tConU, tDNewK, rIsiO, sp_are_counts]
    refine ⟨sg, hF, cs, hd, fun a b => hc (a, b), hl, fun H1 hs1 => ?_⟩
    have hy1 := hs1.get hy
    have hF1 := hF.sub hs1
    have hxy := hF1.ne hy1 (by simp)
    have hdy : d ≠ y := fun e => by rw [e, hy] at hd; cases hd
    simp [tRet, tRetN, tDrop, tAsg, gName, tSeq, tNext, tIfS, tAndV, tOrV, tNotV, tAnd, tOr, tNot, tB, tTest, tVar, tC, tOp, tUn, tCons, tNil, tTup, tLst, tCB, tBM, tBM0, tM1, tM0, tCall, tMeth, tMake, tFldU, sFldU, tChain, tIf, tPar, tPar3, tAug, tDisp, tPairs, tDGet2, sDPut, rIsiU, rIsiTU, rLenU, rIxU, rInU, rNilU, rEqU, rNeU, rEq, rNe, rMax2U, rMin2U, rInt1U, rAbsU, scal, rAddU, rMulU, rI0, rI, rU, rListU, rTupU, rSumU, rAllU, rAnyU, rDictU, rSlU, tSl, tPart, tNoPart, rAppend, rExtend, rPop, rPopAt, rJoinU, rRepr, tSumVals, tyN_non, tyN_bl, tyN_int, tyN_str, tyN_ref, tyO_lst, tyO_tup, tyO_dK, tyO_flst, tyO_ftup, tyO_fdK, and_assoc, tyList, isT, tyAsk, lk_none, lk_frz, lk_lst, lk_tup, lk_dK, lk_ins, kV_str, kV_int, kV_kV, L2.start, E0, tForZ, zList, zTup, zStr, zRng1, zRng2, zEnumS, zEnumL, zKeys, zVals, zItems, tAugS, rGetL, rSetL, ipI, tyN_new, upd_same, tLcV, tDcZ, tYes, wipe, tLcZ, tScZ, cxOf, RVal, RTup, gTupU, gCons, gNil, tProp, tDGetU, sDPutU, rLenO, rDEqU, tBML, tBML0, tConU, tDNewK, rIsiO, hy1, putF, sp_Font_signs]
    have hF2 := hF1.upd (o := .ins (He.ga K "Wants") dy [("own_font", .ref x)]) hy1 hxy
    obtain ⟨H2, e2⟩ : ∃ H2, H2 = upd H1 y (.ins (He.ga K "Wants") dy [("own_font", .ref x)]) := ⟨_, rfl⟩
    have hy2 : H2 y = some (.ins (He.ga K "Wants") dy [("own_font", .ref x)]) := by rw [e2, upd_same]
    have hd2 : H2 d = some (.dK (cnts cs)) := by rw [e2, upd_ne hdy]; exact hs1.get hd
    rw [← e2] at hF2 ⊢
    refine ⟨?_, sg, hF2, ?_⟩
    · obtain ⟨dx, r, k, h1, h2⟩ := hF2
      exact ⟨_, _, h1⟩
    refine dcv (fun _ => true) sk (fun c => (valV (cnts cs) (sk c)).getD (.int 0)) (by rw [txt_list]; have := ok.hi; omega) (fun _ _ => trivial) (fun z hz H3 v H4 hs3 hr => ?_) (fun D H3 hD hs3 hH3 => ?_)
    · obtain ⟨rfl, rfl⟩ := hr
      simp [tRet, tRetN, tDrop, tAsg, gName, tSeq, tNext, tIfS, tAndV, tOrV, tNotV, tAnd, tOr, tNot, tB, tTest, tVar, tC, tOp, tUn, tCons, tNil, tTup, tLst, tCB, tBM, tBM0, tM1, tM0, tCall, tMeth, tMake, tFldU, sFldU, tChain, tIf, tPar, tPar3, tAug, tDisp, tPairs, tDGet2, sDPut, rIsiU, rIsiTU, rLenU, rIxU, rInU, rNilU, rEqU, rNeU, rEq, rNe, rMax2U, rMin2U, rInt1U, rAbsU, scal, rAddU, rMulU, rI0, rI, rU, rListU, rTupU, rSumU, rAllU, rAnyU, rDictU, rSlU, tSl, tPart, tNoPart, rAppend, rExtend, rPop, rPopAt, rJoinU, rRepr, tSumVals, tyN_non, tyN_bl, tyN_int, tyN_str, tyN_ref, tyO_lst, tyO_tup, tyO_dK, tyO_flst, tyO_ftup, tyO_fdK, and_assoc, tyList, isT, tyAsk, lk_none, lk_frz, lk_lst, lk_tup, lk_dK, lk_ins, kV_str, kV_int, kV_kV, L2.start, E0, tForZ, zList, zTup, zStr, zRng1, zRng2, zEnumS, zEnumL, zKeys, zVals, zItems, tAugS, rGetL, rSetL, ipI, tyN_new, upd_same, tLcV, tDcZ, tYes, wipe, tLcZ, tScZ, cxOf, RVal, RTup, gTupU, gCons, gNil, tProp, tDGetU, sDPutU, rLenO, rDEqU, tBML, tBML0, tConU, tDNewK, rIsiO, sgn, sk, hs3.get hd2]
      exact Sub.refl _
    · have hDy : D ≠ y := fun e => by rw [e, hy2] at hD; cases hD
      refine ⟨_, _, hs3.get hy2, by simp, ?_⟩
      rw [filt, txt_list, mergeK_nd] at hH3
      · refine q _ D ?_ (fun a ha hn => ?_) upd_same ?_
        · cases e : H D with
          | none => rfl
          | some o =>
            rw [e2, upd_ne hDy, hs1.get e] at hD
            cases hD
        · have h1 : H1 a ≠ none := by rw [hs1 a hn]; exact hn
          rw [upd_ne ha, hs3 a (by rw [e2, upd_ne ha]; exact h1), e2, upd_ne ha, hs1 a hn]
        · rw [upd_ne hDy]
          exact hH3
      · rw [List.map_map]
        exact nodup_map_sk (f := fun z => z) (by simpa using ok.nd)
/-- what wants are -/
def WantsAt (K : PySem.W.Frag) (H : Hp) (y x : Addr) (ns : List (Key × V)) : Prop := ∃ dy n, H y = some (.ins (He.ga K "Wants") dy [("own_font", .ref x), ("numbers", .ref n)]) ∧ H n = some (.dK ns)
def sp_Wants_font (K : PySem.W.Frag) : Sp := fun vs H Q _ => ∃ y x ns, vs = [.ref y] ∧ WantsAt K H y x ns ∧ Q (.ref x) H
theorem ok_Wants_font (T : Txt K mg) : FnOk P w K mg base CX0 1 (gAd K (He.ga K "Wants") "font") T.fd_Wants_font ["self"] (sp_Wants_font K) := by
  refine FunD.ok T.F_Wants_font sc_Wants_font (fun vs H Q E h => ?_) fun cdv A outer s H vs Q E hr h => ⟨_, PSs.nox (pss_one (ps_ret (pe_fldU (C := He.ga K "Wants") T.cls_Wants T.na_Wants_own_font (pv 0) rfl))), ?_⟩
  · obtain ⟨y, x, ns, rfl, _⟩ := h
    rfl
  · obtain ⟨y, x, ns, rfl, ⟨dy, n, h1, h2⟩, q⟩ := h
    simpa [tRet, tRetN, tDrop, tAsg, gName, tSeq, tNext, tIfS, tAndV, tOrV, tNotV, tAnd, tOr, tNot, tB, tTest, tVar, tC, tOp, tUn, tCons, tNil, tTup, tLst, tCB, tBM, tBM0, tM1, tM0, tCall, tMeth, tMake, tFldU, sFldU, tChain, tIf, tPar, tPar3, tAug, tDisp, tPairs, tDGet2, sDPut, rIsiU, rIsiTU, rLenU, rIxU, rInU, rNilU, rEqU, rNeU, rEq, rNe, rMax2U, rMin2U, rInt1U, rAbsU, scal, rAddU, rMulU, rI0, rI, rU, rListU, rTupU, rSumU, rAllU, rAnyU, rDictU, rSlU, tSl, tPart, tNoPart, rAppend, rExtend, rPop, rPopAt, rJoinU, rRepr, tSumVals, tyN_non, tyN_bl, tyN_int, tyN_str, tyN_ref, tyO_lst, tyO_tup, tyO_dK, tyO_flst, tyO_ftup, tyO_fdK, and_assoc, tyList, isT, tyAsk, lk_none, lk_frz, lk_lst, lk_tup, lk_dK, lk_ins, kV_str, kV_int, kV_kV, L2.start, E0, tForZ, zList, zTup, zStr, zRng1, zRng2, zEnumS, zEnumL, zKeys, zVals, zItems, tAugS, rGetL, rSetL, ipI, tyN_new, upd_same, tLcV, tDcZ, tYes, wipe, tLcZ, tScZ, cxOf, RVal, RTup, gTupU, gCons, gNil, tProp, tDGetU, sDPutU, rLenO, rDEqU, tBML, tBML0, tConU, tDNewK, rIsiO, h1, lk_font] using q
def sp_Wants_total (K : PySem.W.Frag) : Sp := fun vs H Q _ => ∃ y x ns, vs = [.ref y] ∧ WantsAt K H y x (cnts ns) ∧ Q (.int (ns.map (·.2)).sum) H
theorem ok_Wants_total (T : Txt K mg) : FnOk P w K mg base CX0 1 (gAd K (He.ga K "Wants") "total") T.fd_Wants_total ["self"] (sp_Wants_total K) := by
  refine FunD.ok T.F_Wants_total sc_Wants_total (fun vs H Q E h => ?_) fun cdv A outer s H vs Q E hr h => ⟨_, PSs.nox (pss_one (ps_ret (pe_sumVals rfl rfl T.f_sum (pe_fldU (C := He.ga K "Wants") T.cls_Wants T.na_Wants_numbers (pv 0) rfl)))), ?_⟩
  · obtain ⟨y, x, ns, rfl, _⟩ := h
    rfl
  · obtain ⟨y, x, ns, rfl, ⟨dy, n, h1, h2⟩, q⟩ := h
    simp [tRet, tRetN, tDrop, tAsg, gName, tSeq, tNext, tIfS, tAndV, tOrV, tNotV, tAnd, tOr, tNot, tB, tTest, tVar, tC, tOp, tUn, tCons, tNil, tTup, tLst, tCB, tBM, tBM0, tM1, tM0, tCall, tMeth, tMake, tFldU, sFldU, tChain, tIf, tPar, tPar3, tAug, tDisp, tPairs, tDGet2, sDPut, rIsiU, rIsiTU, rLenU, rIxU, rInU, rNilU, rEqU, rNeU, rEq, rNe, rMax2U, rMin2U, rInt1U, rAbsU, scal, rAddU, rMulU, rI0, rI, rU, rListU, rTupU, rSumU, rAllU, rAnyU, rDictU, rSlU, tSl, tPart, tNoPart, rAppend, rExtend, rPop, rPopAt, rJoinU, rRepr, tSumVals, tyN_non, tyN_bl, tyN_int, tyN_str, tyN_ref, tyO_lst, tyO_tup, tyO_dK, tyO_flst, tyO_ftup, tyO_fdK, and_assoc, tyList, isT, tyAsk, lk_none, lk_frz, lk_lst, lk_tup, lk_dK, lk_ins, kV_str, kV_int, kV_kV, L2.start, E0, tForZ, zList, zTup, zStr, zRng1, zRng2, zEnumS, zEnumL, zKeys, zVals, zItems, tAugS, rGetL, rSetL, ipI, tyN_new, upd_same, tLcV, tDcZ, tYes, wipe, tLcZ, tScZ, cxOf, RVal, RTup, gTupU, gCons, gNil, tProp, tDGetU, sDPutU, rLenO, rDEqU, tBML, tBML0, tConU, tDNewK, rIsiO, h1, lk_numbers, h2]
    exact ⟨ns.map (·.2), by simp [cnts, List.map_map], q⟩
def sp_Wants_counts (K : PySem.W.Frag) : Sp := fun vs H Q _ => ∃ y x ns, vs = [.ref y] ∧ WantsAt K H y x (cnts ns) ∧ (ns.map (·.1)).Nodup ∧ ns.length ≤ 1000 ∧ ∀ p H', H p = none → Sub H H' → H' p = some (.dK (cnts (ns.filter fun z => decide (0 < z.2)))) → Q (.ref p) H'
theorem ok_Wants_counts (T : Txt K mg) : FnOk P w K mg base CX0 1 (gAd K (He.ga K "Wants") "counts") T.fd_Wants_counts ["self"] (sp_Wants_counts K) := by
  refine FunD.ok T.F_Wants_counts sc_Wants_counts (fun vs H Q E h => ?_) fun cdv A outer s H vs Q E hr h => ⟨_, PSs.nox (pss_one (ps_ret (pe_lock (pe_dcZ rfl sc_Wants_counts.nd (z_items (pe_fldU (C := He.ga K "Wants") T.cls_Wants T.na_Wants_numbers (pv 0) rfl)) (own := [("sign", 1), ("count", 2)]) (show BlkOk ["self", "sign", "count"] (defScope s_Wants_counts) _ [("sign", 1), ("count", 2)] from ⟨rfl, by decide +kernel, by decide +kernel, by decide +kernel, by decide +kernel⟩) (fun _ _ _ _ _ => (pg_tupU (n := 2) rfl (pgs_cons (pg_name (i := 1) sc_Wants_counts.nd rfl (by first | exact Or.inl rfl | exact Or.inr rfl)) (pgs_cons (pg_name (i := 2) sc_Wants_counts.nd rfl (by first | exact Or.inl rfl | exact Or.inr rfl)) pgs_nil)))) (fun _ _ _ _ _ => (pts_one (pt_cmpR op_gt (pv 2) pe_int (nomark _)))) (fun _ _ _ _ _ => (pv 1)) (fun _ _ _ _ _ => (pv 2)))))), ?_⟩
  · obtain ⟨y, x, ns, rfl, _⟩ := h
    rfl
  · obtain ⟨y, x, ns, rfl, ⟨dy, n, h1, h2⟩, hn, hl, q⟩ := h
    simp [tRet, tRetN, tDrop, tAsg, gName, tSeq, tNext, tIfS, tAndV, tOrV, tNotV, tAnd, tOr, tNot, tB, tTest, tVar, tC, tOp, tUn, tCons, tNil, tTup, tLst, tCB, tBM, tBM0, tM1, tM0, tCall, tMeth, tMake, tFldU, sFldU, tChain, tIf, tPar, tPar3, tAug, tDisp, tPairs, tDGet2, sDPut, rIsiU, rIsiTU, rLenU, rIxU, rInU, rNilU, rEqU, rNeU, rEq, rNe, rMax2U, rMin2U, rInt1U, rAbsU, scal, rAddU, rMulU, rI0, rI, rU, rListU, rTupU, rSumU, rAllU, rAnyU, rDictU, rSlU, tSl, tPart, tNoPart, rAppend, rExtend, rPop, rPopAt, rJoinU, rRepr, tSumVals, tyN_non, tyN_bl, tyN_int, tyN_str, tyN_ref, tyO_lst, tyO_tup, tyO_dK, tyO_flst, tyO_ftup, tyO_fdK, and_assoc, tyList, isT, tyAsk, lk_none, lk_frz, lk_lst, lk_tup, lk_dK, lk_ins, kV_str, kV_int, kV_kV, L2.start, E0, tForZ, zList, zTup, zStr, zRng1, zRng2, zEnumS, zEnumL, zKeys, zVals, zItems, tAugS, rGetL, rSetL, ipI, tyN_new, upd_same, tLcV, tDcZ, tYes, wipe, tLcZ, tScZ, cxOf, RVal, RTup, gTupU, gCons, gNil, tProp, tDGetU, sDPutU, rLenO, rDEqU, tBML, tBML0, tConU, tDNewK, rIsiO]
    refine lockE h2 fun od => ?_
    have hyn : y ≠ n := ne_of h1 h2 nofun
    simp [tRet, tRetN, tDrop, tAsg, gName, tSeq, tNext, tIfS, tAndV, tOrV, tNotV, tAnd, tOr, tNot, tB, tTest, tVar, tC, tOp, tUn, tCons, tNil, tTup, tLst, tCB, tBM, tBM0, tM1, tM0, tCall, tMeth, tMake, tFldU, sFldU, tChain, tIf, tPar, tPar3, tAug, tDisp, tPairs, tDGet2, sDPut, rIsiU, rIsiTU, rLenU, rIxU, rInU, rNilU, rEqU, rNeU, rEq, rNe, rMax2U, rMin2U, rInt1U, rAbsU, scal, rAddU, rMulU, rI0, rI, rU, rListU, rTupU, rSumU, rAllU, rAnyU, rDictU, rSlU, tSl, tPart, tNoPart, rAppend, rExtend, rPop, rPopAt, rJoinU, rRepr, tSumVals, tyN_non, tyN_bl, tyN_int, tyN_str, tyN_ref, tyO_lst, tyO_tup, tyO_dK, tyO_flst, tyO_ftup, tyO_fdK, and_assoc, tyList, isT, tyAsk, lk_none, lk_frz, lk_lst, lk_tup, lk_dK, lk_ins, kV_str, kV_int, kV_kV, L2.start, E0, tForZ, zList, zTup, zStr, zRng1, zRng2, zEnumS, zEnumL, zKeys, zVals, zItems, tAugS, rGetL, rSetL, ipI, tyN_new, upd_same, tLcV, tDcZ, tYes, wipe, tLcZ, tScZ, cxOf, RVal, RTup, gTupU, gCons, gNil, tProp, tDGetU, sDPutU, rLenO, rDEqU, tBML, tBML0, tConU, tDNewK, rIsiO, upd_ne hyn, h1, lk_numbers]
    refine dcv (fun kv => match kv.2 with | .int i => decide (0 < i) | _ => false) (fun kv => kv.1) (fun kv => kv.2) (by simp [cnts]; omega) (fun H' hs' => hs'.get upd_same) (fun z hz H3 v H4 hs3 hr => ?_) (fun D H3 hD hs3 hH3 => ?_)
    · obtain ⟨t, rfl, ht, rfl⟩ := hr
      obtain ⟨⟨c0, n0⟩, hm, rfl⟩ := List.mem_map.mp hz
      simp [tRet, tRetN, tDrop, tAsg, gName, tSeq, tNext, tIfS, tAndV, tOrV, tNotV, tAnd, tOr, tNot, tB, tTest, tVar, tC, tOp, tUn, tCons, tNil, tTup, tLst, tCB, tBM, tBM0, tM1, tM0, tCall, tMeth, tMake, tFldU, sFldU, tChain, tIf, tPar, tPar3, tAug, tDisp, tPairs, tDGet2, sDPut, rIsiU, rIsiTU, rLenU, rIxU, rInU, rNilU, rEqU, rNeU, rEq, rNe, rMax2U, rMin2U, rInt1U, rAbsU, scal, rAddU, rMulU, rI0, rI, rU, rListU, rTupU, rSumU, rAllU, rAnyU, rDictU, rSlU, tSl, tPart, tNoPart, rAppend, rExtend, rPop, rPopAt, rJoinU, rRepr, tSumVals, tyN_non, tyN_bl, tyN_int, tyN_str, tyN_ref, tyO_lst, tyO_tup, tyO_dK, tyO_flst, tyO_ftup, tyO_fdK, and_assoc, tyList, isT, tyAsk, lk_none, lk_frz, lk_lst, lk_tup, lk_dK, lk_ins, kV_str, kV_int, kV_kV, L2.start, E0, tForZ, zList, zTup, zStr, zRng1, zRng2, zEnumS, zEnumL, zKeys, zVals, zItems, tAugS, rGetL, rSetL, ipI, tyN_new, upd_same, tLcV, tDcZ, tYes, wipe, tLcZ, tScZ, cxOf, RVal, RTup, gTupU, gCons, gNil, tProp, tDGetU, sDPutU, rLenO, rDEqU, tBML, tBML0, tConU, tDNewK, rIsiO, sk]
      by_cases h0 : 0 < n0
      · simpa [h0] using Sub.new ht
      · simpa [h0] using Sub.new ht
    · have hDn : D ≠ n := fun e => by rw [e, upd_same] at hD; cases hD
      refine ⟨hs3.get upd_same, q D _ ?_ (unfrz h2 hs3) ?_⟩
      · rw [upd_ne hDn] at hD
        exact hD
      · rw [upd_ne hDn, hH3]
        have e1 : ((cnts ns).filter fun kv => match kv.2 with | .int i => decide (0 < i) | _ => false).map (fun z => (z.1, z.2)) = cnts (ns.filter fun z => decide (0 < z.2)) := by
          unfold cnts
          rw [List.filter_map, List.map_map]
          rfl
        rw [e1, mergeK_nd]
        unfold cnts
        rw [List.map_map]
        exact nodup_map_sk (f := fun z : Nat × Int => z.1) (hn.sublist (List.Sublist.map _ List.filter_sublist))
def sp_Font_ddlendd (K : PySem.W.Frag) : Sp := fun vs H Q _ => ∃ x sg, vs = [.ref x] ∧ FontL K H x sg ∧ sg.length ≤ 100 ∧ Q (.int sg.length) H
theorem ok_Font_ddlendd (T : Txt K mg) : FnOk P w K mg base CX0 1 (He.ma K (He.ga K "Font") "__len__") T.fd_Font_ddlendd ["self"] (sp_Font_ddlendd K) := by
  refine FunD.ok T.F_Font_ddlendd sc_Font_ddlendd (fun vs H Q E h => ?_) fun cdv A outer s H vs Q E hr h => ⟨_, PSs.nox (pss_one (ps_ret (pe_callB call_lenU rfl T.f_len boot_len (pa_cons (pe_fldU (C := He.ga K "Font") T.cls_Font T.na_Font_word (pv 0) rfl) pa_nil)))), ?_⟩
  · obtain ⟨x, sg, rfl, _⟩ := h
    rfl
  · obtain ⟨x, sg, rfl, ⟨dx, r, k, h1, h2⟩, hl, q⟩ := h
    have hsl := sizeLine_eq
    have e := txt_len sg
    simp [tRet, tRetN, tDrop, tAsg, gName, tSeq, tNext, tIfS, tAndV, tOrV, tNotV, tAnd, tOr, tNot, tB, tTest, tVar, tC, tOp, tUn, tCons, tNil, tTup, tLst, tCB, tBM, tBM0, tM1, tM0, tCall, tMeth, tMake, tFldU, sFldU, tChain, tIf, tPar, tPar3, tAug, tDisp, tPairs, tDGet2, sDPut, rIsiU, rIsiTU, rLenU, rIxU, rInU, rNilU, rEqU, rNeU, rEq, rNe, rMax2U, rMin2U, rInt1U, rAbsU, scal, rAddU, rMulU, rI0, rI, rU, rListU, rTupU, rSumU, rAllU, rAnyU, rDictU, rSlU, tSl, tPart, tNoPart, rAppend, rExtend, rPop, rPopAt, rJoinU, rRepr, tSumVals, tyN_non, tyN_bl, tyN_int, tyN_str, tyN_ref, tyO_lst, tyO_tup, tyO_dK, tyO_flst, tyO_ftup, tyO_fdK, and_assoc, tyList, isT, tyAsk, lk_none, lk_frz, lk_lst, lk_tup, lk_dK, lk_ins, kV_str, kV_int, kV_kV, L2.start, E0, tForZ, zList, zTup, zStr, zRng1, zRng2, zEnumS, zEnumL, zKeys, zVals, zItems, tAugS, rGetL, rSetL, ipI, tyN_new, upd_same, tLcV, tDcZ, tYes, wipe, tLcZ, tScZ, cxOf, RVal, RTup, gTupU, gCons, gNil, tProp, tDGetU, sDPutU, rLenO, rDEqU, tBML, tBML0, tConU, tDNewK, rIsiO, h1, lk_word]
    rw [e]
    exact ⟨by omega, q⟩
theorem valV_cnts {cs : List (Nat × Int)} (hn : (cs.map (·.1)).Nodup) {c : Nat} {n : Int} (h : (c, n) ∈ cs) : valV (cnts cs) (sk c) = some (.int n) := by
  induction cs with
  | nil => cases h
  | cons z cs ih =>
    rw [List.map_cons, List.nodup_cons] at hn
    show valV ((sk z.1, V.int z.2) :: cnts cs) (sk c) = _
    rw [valV_cons]
    rcases List.mem_cons.mp h with e | h
    · rw [← e]
      simp
    · rw [if_neg, ih hn.2 h]
      intro e
      have e2 : z.1 = c := sk_inj e
      exact hn.1 (e2 ▸ List.mem_map.mpr ⟨(c, n), h, rfl⟩)
theorem numsOf_cnts {sg : List Nat} (nd : sg.Nodup) (g : Nat → Int) : numsOf sg (sg.zipIdx.map fun z : Nat × Nat => (z.1, g z.2)) = cnts (sg.zipIdx.map fun z : Nat × Nat => (z.1, g z.2)) := by
  have nd2 : ((sg.zipIdx.map fun z : Nat × Nat => (z.1, g z.2)).map (·.1)).Nodup := by
    rw [List.map_map]
    show (sg.zipIdx.map fun z : Nat × Nat => z.1).Nodup
    rw [map_zipIdx_fst]
    exact nd
  have e : numsOf sg (sg.zipIdx.map fun z : Nat × Nat => (z.1, g z.2)) = sg.zipIdx.map fun z : Nat × Nat => (sk z.1, ((valV (cnts (sg.zipIdx.map fun z : Nat × Nat => (z.1, g z.2))) (sk z.1)).getD (.int 0))) := by
    unfold numsOf
    generalize (cnts (sg.zipIdx.map fun z : Nat × Nat => (z.1, g z.2))) = L
    have : (sg.zipIdx.map fun z : Nat × Nat => (sk z.1, (valV L (sk z.1)).getD (.int 0))) = (sg.zipIdx.map fun z : Nat × Nat => z.1).map fun c => (sk c, (valV L (sk c)).getD (.int 0)) := by rw [List.map_map]; rfl
    rw [this, map_zipIdx_fst]
  rw [e]
  show _ = (sg.zipIdx.map fun z : Nat × Nat => (z.1, g z.2)).map fun z => (sk z.1, V.int z.2)
  rw [List.map_map]
  apply List.map_congr_left
  intro z hz
  rw [valV_cnts nd2 (List.mem_map.mpr ⟨z, hz, rfl⟩)]
  rfl
/-- street_wants: 0 ≤ first - 1 ≤ last -/
def sp_street_wants (K : PySem.W.Frag) : Sp := fun vs H Q _ => ∃ x sg, ∃ f k : Nat, vs = [.ref x, .int f, .int ((f + k : Nat) - 1 : Int)] ∧ FontL K H x sg ∧ SgOk sg ∧ 1 ≤ f ∧ f + k ≤ 10 ^ 30 + 1 ∧
  ∀ y H', H y = none → Sub H H' → WantsAt K H' y x (cnts (sg.zipIdx.map fun z : Nat × Nat => (z.1, ((tallyD sg.length z.2 f k : Nat) : Int)))) → Q (.ref y) H'
theorem ok_street_wants (T : Txt K mg) : FnOk P w K mg base CX0 5 (He.ga K "street_wants") T.fd_street_wants ["font", "first", "last"] (sp_street_wants K) := by
  refine FunD.ok T.F_street_wants sc_street_wants (fun vs H Q E h => ?_) fun cdv A outer s H vs Q E hr h => ⟨_, PSs.nox (pss_cons (ps_asg (pe_tup (pa_cons (pe_call (ok_occurrences T) (hr.mono (by omega)) rfl T.g_occurrences T.F_occurrences.kp (b_occurrences T) .nil pass0 (pa_cons (pe_op op_sub (pv 1) pe_int) (pa_cons (pe_callB (call_lenO T.me_Font_ddlendd (ok_Font_ddlendd T) (hr.mono (by decide)) (b_Font_ddlendd T) pass0) rfl T.f_len boot_len (pa_cons (pv 0) pa_nil)) pa_nil))) (pa_cons (pe_call (ok_occurrences T) (hr.mono (by omega)) rfl T.g_occurrences T.F_occurrences.kp (b_occurrences T) .nil pass0 (pa_cons (pv 2) (pa_cons (pe_callB (call_lenO T.me_Font_ddlendd (ok_Font_ddlendd T) (hr.mono (by decide)) (b_Font_ddlendd T) pass0) rfl T.f_len boot_len (pa_cons (pv 0) pa_nil)) pa_nil))) pa_nil))) (pg_tupU (n := 2) rfl (pgs_cons (pg_name (i := 3) sc_street_wants.nd rfl (by first | exact Or.inl rfl | exact Or.inr rfl)) (pgs_cons (pg_name (i := 4) sc_street_wants.nd rfl (by first | exact Or.inl rfl | exact Or.inr rfl)) pgs_nil))))
      (pss_one (ps_ret (pe_make T.mk_Wants (ok_Wants_ddinitdd T) (hr.mono (by omega)) rfl T.g_Wants (b_Wants_ddinitdd T) .nil pass0 (pa_cons (pv 0) (pa_cons (pe_dcZ rfl sc_street_wants.nd (z_enumS (by exact rfl) T.f_enumerate (pa_cons (pe_prop (pv 0) T.cls_Font T.pr_Font_signs (ok_Font_signs T) (hr.mono (by omega)) (b_Font_signs T) .nil pass0 rfl) pa_nil)) (own := [("digit", 5), ("sign", 6)]) (show BlkOk ["font", "first", "last", "ahead", "there", "digit", "sign"] (defScope s_street_wants) _ [("digit", 5), ("sign", 6)] from ⟨rfl, by decide +kernel, by decide +kernel, by decide +kernel, by decide +kernel⟩) (fun _ _ _ _ _ => (pg_tupU (n := 2) rfl (pgs_cons (pg_name (i := 5) sc_street_wants.nd rfl (by first | exact Or.inl rfl | exact Or.inr rfl)) (pgs_cons (pg_name (i := 6) sc_street_wants.nd rfl (by first | exact Or.inl rfl | exact Or.inr rfl)) pgs_nil)))) (fun _ _ _ _ _ => pts_nil) (fun _ _ _ _ _ => (pv 6)) (fun _ _ _ _ _ => (pe_op op_sub (pe_ix (ix_U (hu_of hr)) (pv 4) (pv 5) (fun _ _ => rfl)) (pe_ix (ix_U (hu_of hr)) (pv 3) (pv 5) (fun _ _ => rfl))))) pa_nil)))))), ?_⟩
  · obtain ⟨x, sg, f, k, rfl, _⟩ := h
    rfl
  · obtain ⟨x, sg, f, k, rfl, hF, ok, hf, hk, q⟩ := h
    have hlo := ok.lo
    have hhi := ok.hi
    have hsl := sizeLine_eq
    simp [tRet, tRetN, tDrop, tAsg, gName, tSeq, tNext, tIfS, tAndV, tOrV, tNotV, tAnd, tOr, tNot, tB, tTest, tVar, tC, tOp, tUn, tCons, tNil, tTup, tLst, tCB, tBM, tBM0, tM1, tM0, tCall, tMeth, tMake, tFldU, sFldU, tChain, tIf, tPar, tPar3, tAug, tDisp, tPairs, tDGet2, sDPut, rIsiU, rIsiTU, rLenU, rIxU, rInU, rNilU, rEqU, rNeU, rEq, rNe, rMax2U, rMin2U, rInt1U, rAbsU, scal, rAddU, rMulU, rI0, rI, rU, rListU, rTupU, rSumU, rAllU, rAnyU, rDictU, rSlU, tSl, tPart, tNoPart, rAppend, rExtend, rPop, rPopAt, rJoinU, rRepr, tSumVals, tyN_non, tyN_bl, tyN_int, tyN_str, tyN_ref, tyO_lst, tyO_tup, tyO_dK, tyO_flst, tyO_ftup, tyO_fdK, and_assoc, tyList, isT, tyAsk, lk_none, lk_frz, lk_lst, lk_tup, lk_dK, lk_ins, kV_str, kV_int, kV_kV, L2.start, E0, tForZ, zList, zTup, zStr, zRng1, zRng2, zEnumS, zEnumL, zKeys, zVals, zItems, tAugS, rGetL, rSetL, ipI, tyN_new, upd_same, tLcV, tDcZ, tYes, wipe, tLcZ, tScZ, cxOf, RVal, RTup, gTupU, gCons, gNil, tProp, tDGetU, sDPutU, rLenO, rDEqU, tBML, tBML0, tConU, tDNewK, rIsiO, sp_Font_ddlendd, sp_occurrences]
    have ins : ∀ {H' : Hp}, FontL K H' x sg → ∃ dx fs, H' x = some (.ins (He.ga K "Font") dx fs) := fun h => by
      obtain ⟨dx, r, k, h1, h2⟩ := h
      exact ⟨_, _, h1⟩
    refine ⟨ins hF, sg, hF, by omega, by omega, by omega, by omega, by omega, by omega, fun p H1 n1 hp hs1 hn1 hH1 => ?_⟩
    have hF1 := hF.sub hs1
    refine ⟨ins hF1, sg, hF1, by omega, by omega, by omega, by omega, by omega, by omega, fun p2 H2 n2 hp2 hs2 hn2 hH2 => ?_⟩
    have hF2 := hF1.sub hs2
    refine ⟨sz2, fun p3 hp3 => ?_⟩
    have hF3 := hF2.sub (Sub.new (o := .tup [V.ref p, V.ref p2]) hp3)
    have hs3 : Sub H2 (upd H2 p3 (.tup [V.ref p, V.ref p2])) := Sub.new hp3
    have hA := hs3.get (hs2.get hH1)
    have hB := hs3.get hH2
    generalize upd H2 p3 (.tup [V.ref p, V.ref p2]) = H3 at *
    refine ⟨ins hF3, x, sg, rfl, hF3, _, rfl, ?_⟩
    have tal : ∀ d : Nat, d < sg.length → occN ((f : Int) + k - 1) sg.length n2 d - occN ((f : Int) - 1) sg.length n1 d = ((tallyD sg.length d f k : Nat) : Int) := fun d hd => by
      have e1 : (f : Int) + k - 1 = ((f - 1 + k : Nat) : Int) := by omega
      have e2 : (f : Int) - 1 = ((f - 1 : Nat) : Int) := by omega
      rw [e1] at hn2 ⊢
      rw [e2] at hn1 ⊢
      have hn1' : ((f - 1 : Nat) : Int) < (sg.length : Int) ^ n2 := by omega
      rw [occN_same (n := n1) (n' := n2) (by omega) (by omega) (by omega) (f - 1) hn1 hn1']
      exact occ_tally (b := sg.length) (by omega) hd k n2 f hf (by exact_mod_cast hn2)
    refine dcv (fun _ => true) (fun z => sk z.1) (fun z => V.int ((tallyD sg.length z.2 f k : Nat) : Int)) (by rw [txt_list, List.length_zipIdx]; omega) (fun _ _ => trivial) (fun z hz H4 v H5 hs4 hr => ?_) (fun D H4 hD hs4 hH4 => ?_)
    · obtain ⟨t, rfl, ht, hs5, hT⟩ := rtup hr
      obtain ⟨c, i⟩ := z
      rw [txt_list] at hz
      have hi : i < sg.length := by
        have := List.mem_zipIdx hz
        omega
      have hA2 := hs5.get (hs4.get hA)
      have hB2 := hs5.get (hs4.get hB)
      have gA : atI ((List.range sg.length).map fun d : Nat => V.int (occN ((f : Int) - 1) sg.length n1 d)) (i : Nat) = some (V.int (occN ((f : Int) - 1) sg.length n1 i)) := atI_at (by simp [hi])
      have gB : atI ((List.range sg.length).map fun d : Nat => V.int (occN ((f : Int) + k - 1) sg.length n2 d)) (i : Nat) = some (V.int (occN ((f : Int) + k - 1) sg.length n2 i)) := atI_at (by simp [hi])
      simp [tRet, tRetN, tDrop, tAsg, gName, tSeq, tNext, tIfS, tAndV, tOrV, tNotV, tAnd, tOr, tNot, tB, tTest, tVar, tC, tOp, tUn, tCons, tNil, tTup, tLst, tCB, tBM, tBM0, tM1, tM0, tCall, tMeth, tMake, tFldU, sFldU, tChain, tIf, tPar, tPar3, tAug, tDisp, tPairs, tDGet2, sDPut, rIsiU, rIsiTU, rLenU, rIxU, rInU, rNilU, rEqU, rNeU, rEq, rNe, rMax2U, rMin2U, rInt1U, rAbsU, scal, rAddU, rMulU, rI0, rI, rU, rListU, rTupU, rSumU, rAllU, rAnyU, rDictU, rSlU, tSl, tPart, tNoPart, rAppend, rExtend, rPop, rPopAt, rJoinU, rRepr, tSumVals, tyN_non, tyN_bl, tyN_int, tyN_str, tyN_ref, tyO_lst, tyO_tup, tyO_dK, tyO_flst, tyO_ftup, tyO_fdK, and_assoc, tyList, isT, tyAsk, lk_none, lk_frz, lk_lst, lk_tup, lk_dK, lk_ins, kV_str, kV_int, kV_kV, L2.start, E0, tForZ, zList, zTup, zStr, zRng1, zRng2, zEnumS, zEnumL, zKeys, zVals, zItems, tAugS, rGetL, rSetL, ipI, tyN_new, upd_same, tLcV, tDcZ, tYes, wipe, tLcZ, tScZ, cxOf, RVal, RTup, gTupU, gCons, gNil, tProp, tDGetU, sDPutU, rLenO, rDEqU, tBML, tBML0, tConU, tDNewK, rIsiO, hT, hA2, hB2, gA, gB, sgn, sk, tal i hi]
      exact hs5
    · rw [filt, txt_list] at hH4
      have nd : ((sg.zipIdx.map fun z : Nat × Nat => (z.1, ((tallyD sg.length z.2 f k : Nat) : Int))).map (·.1)).Nodup := by
        rw [List.map_map]
        have : (sg.zipIdx.map fun z : Nat × Nat => z.1) = sg := map_zipIdx_fst
        show (sg.zipIdx.map fun z : Nat × Nat => z.1).Nodup
        rw [this]
        exact ok.nd
      obtain ⟨cs, hcs⟩ : ∃ cs : List (Nat × Int), cs = sg.zipIdx.map fun z : Nat × Nat => (z.1, ((tallyD sg.length z.2 f k : Nat) : Int)) := ⟨_, rfl⟩
      have hH5 : H4 D = some (.dK (cnts cs)) := by
        rw [hH4, mergeK_nd, hcs]
        · simp [cnts, List.map_map]
        · have : (sg.zipIdx.map fun z : Nat × Nat => (sk z.1, V.int ((tallyD sg.length z.2 f k : Nat) : Int))).map (·.1) = sg.zipIdx.map fun z : Nat × Nat => sk z.1 := by rw [List.map_map]; rfl
          rw [this]
          exact nodup_map_sk (f := fun z : Nat × Nat => z.1) (by rw [map_zipIdx_fst]; exact ok.nd)
      intro y dy hy hdy hne
      have hs5 : Sub H4 (upd (upd H4 dy (.own y)) y (.ins (He.ga K "Wants") dy [])) := sub_upd (Sub.new hdy) hy
      have hy5 : (upd (upd H4 dy (.own y)) y (.ins (He.ga K "Wants") dy [])) y = some (.ins (He.ga K "Wants") dy []) := upd_same
      have hn5 : ∀ a, (upd (upd H4 dy (.own y)) y (.ins (He.ga K "Wants") dy [])) a = none → H4 a = none := fun a ha => by
        by_cases e1 : a = y
        · rw [e1]; exact hy
        · rw [upd_ne e1] at ha
          by_cases e2 : a = dy
          · rw [e2]; exact hdy
          · rw [upd_ne e2] at ha
            exact ha
      generalize upd (upd H4 dy (.own y)) y (.ins (He.ga K "Wants") dy []) = H5 at *
      refine ⟨y, dy, x, sg, D, cs, rfl, hy5, (hF3.sub hs4).sub hs5, ok, hs5.get hH5, ?_, ?_, fun H6 n hn hs6 hy6 hn6 => ⟨rfl, ?_⟩⟩
      · intro z hz
        rw [hcs] at hz
        obtain ⟨⟨c, i⟩, hm, rfl⟩ := List.mem_map.mp hz
        refine ⟨?_, by omega⟩
        have := (List.mem_zipIdx hm)
        obtain ⟨_, h2, h3⟩ := this
        show c ∈ sg
        rw [h3]
        exact List.getElem_mem _
      · rw [hcs, List.length_map, List.length_zipIdx]
        omega
      · rw [hcs, numsOf_cnts ok.nd (fun i => ((tallyD sg.length i f k : Nat) : Int))] at hn6
        have hs04 : Sub H H4 := (hs1.trans hs2).trans (hs3.trans hs4)
        have hy0 : H y = none := hs04.none hy
        refine q y H6 hy0 (fun a ha => ?_) ⟨dy, n, hy6, hn6⟩
        have h5 : H5 a = H a := (hs04.trans hs5) a ha
        rw [hs6 a (fun e => ha (e ▸ hy0)) (by rw [h5]; exact ha), h5]
/-- street -/
def sp_street (K : PySem.W.Frag) : Sp := fun vs H Q E => (∃ x : V, ∃ f l : Int, vs = [x, .int f, .int l] ∧ f ≤ 10 ^ 30) ∧ sp_street_wants K vs H Q E
theorem ok_street (T : Txt K mg) : FnOk P w K mg base CX0 6 (He.ga K "street") T.fd_street ["font", "first", "last"] (sp_street K) := by
  refine FunD.ok T.F_street sc_street (fun vs H Q E h => ?_) fun cdv A outer s H vs Q E hr h => ⟨_, PSs.nox (pss_cons (ps_expr (pe_call (ok_need_number T) (hr.mono (by omega)) rfl T.g_need_number T.F_need_number.kp (b_need_number T) .nil pass0 (pa_cons (pv 1) (pa_cons pe_int (pa_cons (pe_glob (v := .int (10 ^ 30)) rfl T.c_MAX_COUNT.choose_spec ⟨_, rfl⟩) pa_nil)))))
      (pss_cons (ps_expr (pe_call (ok_need_number T) (hr.mono (by omega)) rfl T.g_need_number T.F_need_number.kp (b_need_number T) .nil pass0 (pa_cons (pv 2) (pa_cons (pe_op op_sub (pv 1) pe_int) (pa_cons (pe_glob (v := .int (10 ^ 30)) rfl T.c_MAX_COUNT.choose_spec ⟨_, rfl⟩) pa_nil)))))
      (pss_one (ps_ret (pe_call (ok_street_wants T) (hr.mono (by omega)) rfl T.g_street_wants T.F_street_wants.kp (b_street_wants T) .nil pass0 (pa_cons (pv 0) (pa_cons (pv 1) (pa_cons (pv 2) pa_nil)))))))), ?_⟩
  · obtain ⟨_, x, sg, f, k, rfl, _⟩ := h
    rfl
  · obtain ⟨⟨x', f', l', e', hf'⟩, x, sg, f, k, rfl, hF, ok, hf, hk, q⟩ := h
    simp at e'
    obtain ⟨rfl, rfl, rfl⟩ := e'
    simp [tRet, tRetN, tDrop, tAsg, gName, tSeq, tNext, tIfS, tAndV, tOrV, tNotV, tAnd, tOr, tNot, tB, tTest, tVar, tC, tOp, tUn, tCons, tNil, tTup, tLst, tCB, tBM, tBM0, tM1, tM0, tCall, tMeth, tMake, tFldU, sFldU, tChain, tIf, tPar, tPar3, tAug, tDisp, tPairs, tDGet2, sDPut, rIsiU, rIsiTU, rLenU, rIxU, rInU, rNilU, rEqU, rNeU, rEq, rNe, rMax2U, rMin2U, rInt1U, rAbsU, scal, rAddU, rMulU, rI0, rI, rU, rListU, rTupU, rSumU, rAllU, rAnyU, rDictU, rSlU, tSl, tPart, tNoPart, rAppend, rExtend, rPop, rPopAt, rJoinU, rRepr, tSumVals, tyN_non, tyN_bl, tyN_int, tyN_str, tyN_ref, tyO_lst, tyO_tup, tyO_dK, tyO_flst, tyO_ftup, tyO_fdK, and_assoc, tyList, isT, tyAsk, lk_none, lk_frz, lk_lst, lk_tup, lk_dK, lk_ins, kV_str, kV_int, kV_kV, L2.start, E0, tForZ, zList, zTup, zStr, zRng1, zRng2, zEnumS, zEnumL, zKeys, zVals, zItems, tAugS, rGetL, rSetL, ipI, tyN_new, upd_same, tLcV, tDcZ, tYes, wipe, tLcZ, tScZ, cxOf, RVal, RTup, gTupU, gCons, gNil, tProp, tDGetU, sDPutU, rLenO, rDEqU, tBML, tBML0, tConU, tDNewK, rIsiO, sp_need_number]
    refine ⟨by omega, by omega, by omega, by omega, ?_⟩
    exact ⟨x, sg, f, k, by simp, hF, ok, hf, hk, q⟩
/-- Font.__eq__ of a font and itself -/
def sp_Font_ddeqdd (K : PySem.W.Frag) : Sp := fun vs H Q _ => ∃ x sg, vs = [.ref x, .ref x] ∧ FontAt K H x sg ∧ Q (.bl true) H
end
end K74

set_option Elab.async false
set_option linter.all false
set_option maxRecDepth 100000
set_option maxHeartbeats 4000000
namespace K74
open PySem PySem.Spec PyProof.Rows L2 G
theorem eqV_refl {v : V} (h : flatV v = true) : eqV v v = true := by
  cases v <;> simp_all [eqV, flatV]
theorem valV_mem {l : List (Key × V)} (hn : (l.map (·.1)).Nodup) {p : Key × V} (hp : p ∈ l) : valV l p.1 = some p.2 := by
  induction l with
  | nil => cases hp
  | cons z l ih =>
    rw [List.map_cons, List.nodup_cons] at hn
    rw [valV_cons]
    rcases List.mem_cons.mp hp with e | h
    · rw [← e]
      simp
    · rw [if_neg, ih hn.2 h]
      intro e
      exact hn.1 (e ▸ List.mem_map.mpr ⟨p, h, rfl⟩)
theorem dEq_self {l : List (Key × V)} (hn : (l.map (·.1)).Nodup) (hf : ∀ p ∈ l, flatV p.2 = true) : dEq l l = true := by
  unfold dEq
  simp only [beq_self_eq_true, Bool.true_and, List.all_eq_true]
  intro p hp
  rw [valV_mem hn hp]
  exact eqV_refl (hf p hp)
theorem eqV_sgn {a b : Nat} : eqV (sgn a) (sgn b) = decide (b = a) := by
  unfold sgn eqV
  rw [Bool.eq_iff_iff]
  simp
  exact eq_comm
theorem inV_sgn {c : Nat} {l : List Nat} : inV (sgn c) (l.map sgn) = decide (c ∈ l) := by
  unfold inV
  rw [List.any_map, Bool.eq_iff_iff]
  simp [eqV_sgn]
theorem tyO_ltup {o : Option HO} {xs : List V} (h : lk o = some (.tup xs)) : tyO o = some "tuple" := by
  cases o with
  | none => cases h
  | some u =>
    cases u with
    | frz ob v => cases (Option.some.inj h); rfl
    | tup ys => rfl
    | _ => cases (Option.some.inj h)
theorem paired_at {α β : Type} {R : α → β → Prop} : ∀ {l : List α} {m : List β} {i : Nat} {x : α}, Paired R l m → l[i]? = some x → ∃ y, m[i]? = some y ∧ R x y
  | _, _, _, _, .nil, h => by simp at h
  | _, _, 0, x, .cons r _, h => by simp at h; subst h; exact ⟨_, rfl, r⟩
  | _, _, i + 1, x, .cons _ t, h => by
    obtain ⟨y, h1, h2⟩ := paired_at (i := i) t (by simpa using h)
    exact ⟨y, by simpa using h1, h2⟩
section
variable {P : Program} {w : World} {K : PySem.W.Frag} {mg : Str → Option Value} {base : Heap}
/-- pairs of signs, as a list of tuples -/
def TurnsAt (H : Hp) (t : Addr) (ts : List (Nat × Nat)) : Prop := ∃ rs : List Addr, H t = some (.lst (rs.map V.ref)) ∧ Paired (fun r p => H r = some (.tup [sgn p.1, sgn p.2])) rs ts
def pairOf (sg : List Nat) (p : Nat × Nat) : List Nat := sg.filter fun c => c == p.1 || c == p.2
structure TsOk (sg : List Nat) (ts : List (Nat × Nat)) : Prop where
  mem : ∀ p ∈ ts, p.1 ∈ sg ∧ p.2 ∈ sg
  nd : (ts.flatMap (pairOf sg)).Nodup
  len : ts.length ≤ 100
theorem ranks_filter {sg : List Nat} {u v : Nat} : ((ranksOf sg).filter fun kv => decide (kv.1 = sk u) || decide (kv.1 = sk v)).map (fun kv => kV kv.1) = (pairOf sg (u, v)).map sgn := by
  unfold ranksOf pairOf
  rw [List.filter_map, List.map_map]
  have key : ∀ (l : List (Nat × Nat)), (l.filter ((fun kv : Key × V => decide (kv.1 = sk u) || decide (kv.1 = sk v)) ∘ fun z : Nat × Nat => (sk z.1, V.int (z.2 : Nat)))).map ((fun kv : Key × V => kV kv.1) ∘ fun z : Nat × Nat => (sk z.1, V.int (z.2 : Nat))) =
      ((l.map (·.1)).filter fun c => c == u || c == v).map sgn := by
    intro l
    induction l with
    | nil => rfl
    | cons z l ih =>
      have e : (((fun kv : Key × V => decide (kv.1 = sk u) || decide (kv.1 = sk v)) ∘ fun z : Nat × Nat => (sk z.1, V.int (z.2 : Nat))) z) = (z.1 == u || z.1 == v) := by
        have h1 : ∀ w, decide (sk z.1 = sk w) = (z.1 == w) := fun w => by
          rw [Bool.eq_iff_iff]
          simp only [decide_eq_true_eq, beq_iff_eq]
          exact ⟨sk_inj, fun e => by rw [e]⟩
        show (decide (sk z.1 = sk u) || decide (sk z.1 = sk v)) = _
        rw [h1, h1]
      rw [List.map_cons, List.filter_cons, List.filter_cons, e]
      split
      · rw [List.map_cons, List.map_cons, ih]
        rfl
      · exact ih
  rw [key, map_zipIdx_fst]
def sp_is_tuple_of (K : PySem.W.Frag) : Sp := fun vs H Q _ => ∃ r xs n, vs = [.ref r, .int n] ∧ lk (H r) = some (.tup xs) ∧ Q (.bl (decide ((xs.length : Int) = n))) H
theorem ok_is_tuple_of (T : Txt K mg) : FnOk P w K mg base CX0 1 (He.ga K "is_tuple_of") T.fd_is_tuple_of ["value", "size"] (sp_is_tuple_of K) := by
  refine FunD.ok T.F_is_tuple_of sc_is_tuple_of (fun vs H Q E h => ?_) fun cdv A outer s H vs Q E hr h => ⟨_, PSs.nox (pss_one (ps_ret (pe_and (pe_callB call_isiU rfl T.f_isinstance boot_isinstance (pa_cons (pv 0) (pa_cons (pe_bltn (v := .ty "tuple") rfl T.f_tuple boot_tuple rfl) pa_nil))) (pe_one (pe_cmpR (op_eqU (hu0 hr)) (pe_callB call_lenU rfl T.f_len boot_len (pa_cons (pv 0) pa_nil)) (pv 1) (nomark _)))))), ?_⟩
  · obtain ⟨r, xs, n, rfl, _⟩ := h
    rfl
  · obtain ⟨r, xs, n, rfl, hr, q⟩ := h
    simp [tRet, tRetN, tDrop, tAsg, gName, tSeq, tNext, tIfS, tAndV, tOrV, tNotV, tAnd, tOr, tNot, tB, tTest, tVar, tC, tOp, tUn, tCons, tNil, tTup, tLst, tCB, tBM, tBM0, tM1, tM0, tCall, tMeth, tMake, tFldU, sFldU, tChain, tIf, tPar, tPar3, tAug, tDisp, tPairs, tDGet2, sDPut, rIsiU, rIsiTU, rLenU, rIxU, rInU, rNilU, rEqU, rNeU, rEq, rNe, rMax2U, rMin2U, rInt1U, rAbsU, scal, rAddU, rMulU, rI0, rI, rU, rListU, rTupU, rSumU, rAllU, rAnyU, rDictU, rSlU, tSl, tPart, tNoPart, rAppend, rExtend, rPop, rPopAt, rJoinU, rRepr, tSumVals, tyN_non, tyN_bl, tyN_int, tyN_str, tyN_ref, tyO_lst, tyO_tup, tyO_dK, tyO_flst, tyO_ftup, tyO_fdK, and_assoc, tyList, isT, tyAsk, lk_none, lk_frz, lk_lst, lk_tup, lk_dK, lk_ins, kV_str, kV_int, kV_kV, L2.start, E0, tForZ, zList, zTup, zStr, zRng1, zRng2, zEnumS, zEnumL, zKeys, zVals, zItems, tAugS, rGetL, rSetL, ipI, tyN_new, upd_same, tLcV, tDcZ, tYes, wipe, tLcZ, tScZ, cxOf, RVal, RTup, gTupU, gCons, gNil, tProp, tDGetU, sDPutU, rLenO, rDEqU, tBML, tBML0, tConU, tDNewK, rIsiO, hr, tyO_ltup hr]
    exact Or.inl q
theorem pair_len {sg : List Nat} (h : sg.length ≤ 10) (p : Nat × Nat) : (pairOf sg p).length ≤ 10 := Nat.le_trans (List.length_filter_le _ _) h
theorem flat_len {sg : List Nat} (h : sg.length ≤ 10) : ∀ l : List (Nat × Nat), (l.flatMap (pairOf sg)).length ≤ 10 * l.length
  | [] => by simp
  | p :: l => by
    have := flat_len h l
    have := pair_len h p
    rw [List.flatMap_cons, List.length_append, List.length_cons]
    omega
def sp_are_turns (K : PySem.W.Frag) : Sp := fun vs H Q _ => ∃ t r sg ts, vs = [.ref t, .ref r] ∧ TurnsAt H t ts ∧ H r = some (.dK (ranksOf sg)) ∧ SgOk sg ∧ TsOk sg ts ∧ ∀ H', Sub H H' → Q (.bl true) H'
theorem ok_are_turns (T : Txt K mg) : FnOk P w K mg base CX0 2 (He.ga K "are_turns") T.fd_are_turns ["value", "ranks"] (sp_are_turns K) := by
  refine FunD.ok T.F_are_turns sc_are_turns (fun vs H Q E h => ?_) fun cdv A outer s H vs Q E hr h => ⟨_, PSs.nox (pss_cons (ps_if (pt_not (pt_val (pe_call (ok_is_list T) (hr.mono (by omega)) rfl T.g_is_list T.F_is_list.kp (b_is_list T) .nil pass0 (pa_cons (pv 0) pa_nil)))) (pss_one (ps_ret pe_bl)) pss_nil)
      (pss_cons (ps_set (i := 2) sc_are_turns.nd rfl (by first | exact Or.inl rfl | exact Or.inr rfl) (pe_lst pa_nil))
      (pss_cons (ps_forZ PassesOwn.never rfl (z_list (pv 0)) (pg_name (i := 3) sc_are_turns.nd rfl (by first | exact Or.inl rfl | exact Or.inr rfl)) (pss_cons (ps_if (PW.pt (pw_or (pt_not (pt_val (pe_call (ok_is_tuple_of T) (hr.mono (by omega)) rfl T.g_is_tuple_of T.F_is_tuple_of.kp (b_is_tuple_of T) .nil pass0 (pa_cons (pv 3) (pa_cons pe_int pa_nil))))) (pw_or1 (pt_not (pt_val (pe_callB (call_allU rfl) rfl T.f_all boot_all (pa_cons (pe_lcV rfl sc_are_turns.nd (z_tup (pv 3)) (own := [("sign", 4)]) (show BlkOk ["value", "ranks", "seen", "pair", "sign"] (defScope s_are_turns) _ [("sign", 4)] from ⟨rfl, by decide +kernel, by decide +kernel, by decide +kernel, by decide +kernel⟩) (fun _ _ _ _ _ => (pg_name (i := 4) sc_are_turns.nd rfl (by first | exact Or.inl rfl | exact Or.inr rfl))) (fun _ _ _ _ _ => pts_nil) (fun _ _ _ _ _ => (pe_and (pe_callB call_isiU rfl T.f_isinstance boot_isinstance (pa_cons (pv 4) (pa_cons (pe_bltn (v := .ty "str") rfl T.f_str boot_str rfl) pa_nil))) (pe_one (pe_cmpR (op_inU (hu_of hr)) (pv 4) (pv 1) rfl))))) pa_nil))))))) (pss_one (ps_ret pe_bl)) pss_nil)
      (pss_one (ps_expr (pe_bmL PySem.F.slot_list_extend PySem.F.type_list_extend mt_extend (pv 2) (pa_cons (pe_lock (pe_lcV rfl sc_are_turns.nd (z_keys (pv 1)) (own := [("sign", 4)]) (show BlkOk ["value", "ranks", "seen", "pair", "sign"] (defScope s_are_turns) _ [("sign", 4)] from ⟨rfl, by decide +kernel, by decide +kernel, by decide +kernel, by decide +kernel⟩) (fun _ _ _ _ _ => (pg_name (i := 4) sc_are_turns.nd rfl (by first | exact Or.inl rfl | exact Or.inr rfl))) (fun _ _ _ _ _ => (pts_one (pt_cmpR (op_inU (hu_of hr)) (pv 4) (pv 3) rfl))) (fun _ _ _ _ _ => (pv 4)))) pa_nil))))))
      (pss_one (ps_ret (pe_cmpR (op_eqU (hu0 hr)) (pe_callB call_lenU rfl T.f_len boot_len (pa_cons (pe_scZ rfl sc_are_turns.nd (z_list (pv 2)) (own := [("sign", 4)]) (show BlkOk ["value", "ranks", "seen", "pair", "sign"] (defScope s_are_turns) _ [("sign", 4)] from ⟨rfl, by decide +kernel, by decide +kernel, by decide +kernel, by decide +kernel⟩) (fun _ _ _ _ _ => (pg_name (i := 4) sc_are_turns.nd rfl (by first | exact Or.inl rfl | exact Or.inr rfl))) (fun _ _ _ _ _ => pts_nil) (fun _ _ _ _ _ => (pv 4))) pa_nil)) (pe_callB call_lenU rfl T.f_len boot_len (pa_cons (pv 2) pa_nil)) (nomark _))))))), ?_⟩
  · obtain ⟨t, r, sg, ts, rfl, _⟩ := h
    rfl
  · obtain ⟨t, r, sg, ts, rfl, ⟨rs, ht, hprs⟩, hr, ok, tok, q⟩ := h
    simp [tRet, tRetN, tDrop, tAsg, gName, tSeq, tNext, tIfS, tAndV, tOrV, tNotV, tAnd, tOr, tNot, tB, tTest, tVar, tC, tOp, tUn, tCons, tNil, tTup, tLst, tCB, tBM, tBM0, tM1, tM0, tCall, tMeth, tMake, tFldU, sFldU, tChain, tIf, tPar, tPar3, tAug, tDisp, tPairs, tDGet2, sDPut, rIsiU, rIsiTU, rLenU, rIxU, rInU, rNilU, rEqU, rNeU, rEq, rNe, rMax2U, rMin2U, rInt1U, rAbsU, scal, rAddU, rMulU, rI0, rI, rU, rListU, rTupU, rSumU, rAllU, rAnyU, rDictU, rSlU, tSl, tPart, tNoPart, rAppend, rExtend, rPop, rPopAt, rJoinU, rRepr, tSumVals, tyN_non, tyN_bl, tyN_int, tyN_str, tyN_ref, tyO_lst, tyO_tup, tyO_dK, tyO_flst, tyO_ftup, tyO_fdK, and_assoc, tyList, isT, tyAsk, lk_none, lk_frz, lk_lst, lk_tup, lk_dK, lk_ins, kV_str, kV_int, kV_kV, L2.start, E0, tForZ, zList, zTup, zStr, zRng1, zRng2, zEnumS, zEnumL, zKeys, zVals, zItems, tAugS, rGetL, rSetL, ipI, tyN_new, upd_same, tLcV, tDcZ, tYes, wipe, tLcZ, tScZ, cxOf, RVal, RTup, gTupU, gCons, gNil, tProp, tDGetU, sDPutU, rLenO, rDEqU, tBML, tBML0, tConU, tDNewK, rIsiO, sp_is_list, ht]
    intro H1 hs1 p hp
    have hp0 : H p = none := hs1.none hp
    have hsp : Sub H (upd H1 p (.lst [])) := sub_upd hs1 hp0
    have hpp : upd H1 p (.lst []) p = some (.lst []) := upd_same
    generalize upd H1 p (.lst []) = H2 at *
    refine ⟨_, by rw [hsp.get ht]; rfl, ?_⟩
    refine loop_ix (fun i σ H3 => ∃ a, σ = [some (.ref t), some (.ref r), some (.ref p), a, none] ∧ Sub H H3 ∧ H3 p = some (.lst (((ts.take i).flatMap (pairOf sg)).map sgn))) ⟨none, rfl, hsp, by simpa using hpp⟩ (fun i σ H3 hh => ?_) ?_ ?_
    · obtain ⟨a, rfl, h1, h2⟩ := hh
      rw [h1.get ht]
      rfl
    · rintro i z σ H3 v H4 hz ⟨a, rfl, h1, h2⟩ ⟨rfl, rfl⟩
      rw [List.getElem?_map] at hz
      obtain ⟨ri, hri, rfl⟩ := Option.map_eq_some_iff.mp hz
      obtain ⟨⟨u, v⟩, hts, hR⟩ := paired_at hprs hri
      have hRi := h1.get hR
      obtain ⟨hu, hv⟩ := tok.mem _ (List.mem_of_getElem? hts)
      simp [tRet, tRetN, tDrop, tAsg, gName, tSeq, tNext, tIfS, tAndV, tOrV, tNotV, tAnd, tOr, tNot, tB, tTest, tVar, tC, tOp, tUn, tCons, tNil, tTup, tLst, tCB, tBM, tBM0, tM1, tM0, tCall, tMeth, tMake, tFldU, sFldU, tChain, tIf, tPar, tPar3, tAug, tDisp, tPairs, tDGet2, sDPut, rIsiU, rIsiTU, rLenU, rIxU, rInU, rNilU, rEqU, rNeU, rEq, rNe, rMax2U, rMin2U, rInt1U, rAbsU, scal, rAddU, rMulU, rI0, rI, rU, rListU, rTupU, rSumU, rAllU, rAnyU, rDictU, rSlU, tSl, tPart, tNoPart, rAppend, rExtend, rPop, rPopAt, rJoinU, rRepr, tSumVals, tyN_non, tyN_bl, tyN_int, tyN_str, tyN_ref, tyO_lst, tyO_tup, tyO_dK, tyO_flst, tyO_ftup, tyO_fdK, and_assoc, tyList, isT, tyAsk, lk_none, lk_frz, lk_lst, lk_tup, lk_dK, lk_ins, kV_str, kV_int, kV_kV, L2.start, E0, tForZ, zList, zTup, zStr, zRng1, zRng2, zEnumS, zEnumL, zKeys, zVals, zItems, tAugS, rGetL, rSetL, ipI, tyN_new, upd_same, tLcV, tDcZ, tYes, wipe, tLcZ, tScZ, cxOf, RVal, RTup, gTupU, gCons, gNil, tProp, tDGetU, sDPutU, rLenO, rDEqU, tBML, tBML0, tConU, tDNewK, rIsiO, sp_is_tuple_of, hRi]
      have hr4 := h1.get hr
      have inr : ∀ c, c ∈ sg → (valV (ranksOf sg) (Sum.inr ⟨#[c]⟩)).isSome = true := fun c hc => by
        have := valV_ranks (sg := sg) (c := c)
        unfold sk at this
        rw [this]
        simpa using hc
      refine lcv (fun _ => true) (fun _ => V.bl true) (by simp) (fun H' hs' => by rw [hs'.get hRi]; rfl) (fun z hz H5 x H6 hs5 hr5 => ?_) (fun D H5 hD hs5 hH5 => ?_)
      · obtain ⟨rfl, hx⟩ := hr5
        have hx : x = z := hx
        subst hx
        have hz2 : ∃ c, c ∈ sg ∧ x = sgn c := by
          rcases List.mem_cons.mp hz with e | e
          · exact ⟨u, hu, e⟩
          · exact ⟨v, hv, List.mem_singleton.mp e⟩
        obtain ⟨c, hc, rfl⟩ := hz2
        simp [tRet, tRetN, tDrop, tAsg, gName, tSeq, tNext, tIfS, tAndV, tOrV, tNotV, tAnd, tOr, tNot, tB, tTest, tVar, tC, tOp, tUn, tCons, tNil, tTup, tLst, tCB, tBM, tBM0, tM1, tM0, tCall, tMeth, tMake, tFldU, sFldU, tChain, tIf, tPar, tPar3, tAug, tDisp, tPairs, tDGet2, sDPut, rIsiU, rIsiTU, rLenU, rIxU, rInU, rNilU, rEqU, rNeU, rEq, rNe, rMax2U, rMin2U, rInt1U, rAbsU, scal, rAddU, rMulU, rI0, rI, rU, rListU, rTupU, rSumU, rAllU, rAnyU, rDictU, rSlU, tSl, tPart, tNoPart, rAppend, rExtend, rPop, rPopAt, rJoinU, rRepr, tSumVals, tyN_non, tyN_bl, tyN_int, tyN_str, tyN_ref, tyO_lst, tyO_tup, tyO_dK, tyO_flst, tyO_ftup, tyO_fdK, and_assoc, tyList, isT, tyAsk, lk_none, lk_frz, lk_lst, lk_tup, lk_dK, lk_ins, kV_str, kV_int, kV_kV, L2.start, E0, tForZ, zList, zTup, zStr, zRng1, zRng2, zEnumS, zEnumL, zKeys, zVals, zItems, tAugS, rGetL, rSetL, ipI, tyN_new, upd_same, tLcV, tDcZ, tYes, wipe, tLcZ, tScZ, cxOf, RVal, RTup, gTupU, gCons, gNil, tProp, tDGetU, sDPutU, rLenO, rDEqU, tBML, tBML0, tConU, tDNewK, rIsiO, sgn, hs5.get hr4, inr c hc]
        exact Sub.refl _
      · rw [filt] at hH5
        have hp5 := hs5.get h2
        have hr5 := hs5.get hr4
        have hRi5 := hs5.get hRi
        simp [tRet, tRetN, tDrop, tAsg, gName, tSeq, tNext, tIfS, tAndV, tOrV, tNotV, tAnd, tOr, tNot, tB, tTest, tVar, tC, tOp, tUn, tCons, tNil, tTup, tLst, tCB, tBM, tBM0, tM1, tM0, tCall, tMeth, tMake, tFldU, sFldU, tChain, tIf, tPar, tPar3, tAug, tDisp, tPairs, tDGet2, sDPut, rIsiU, rIsiTU, rLenU, rIxU, rInU, rNilU, rEqU, rNeU, rEq, rNe, rMax2U, rMin2U, rInt1U, rAbsU, scal, rAddU, rMulU, rI0, rI, rU, rListU, rTupU, rSumU, rAllU, rAnyU, rDictU, rSlU, tSl, tPart, tNoPart, rAppend, rExtend, rPop, rPopAt, rJoinU, rRepr, tSumVals, tyN_non, tyN_bl, tyN_int, tyN_str, tyN_ref, tyO_lst, tyO_tup, tyO_dK, tyO_flst, tyO_ftup, tyO_fdK, and_assoc, tyList, isT, tyAsk, lk_none, lk_frz, lk_lst, lk_tup, lk_dK, lk_ins, kV_str, kV_int, kV_kV, L2.start, E0, tForZ, zList, zTup, zStr, zRng1, zRng2, zEnumS, zEnumL, zKeys, zVals, zItems, tAugS, rGetL, rSetL, ipI, tyN_new, upd_same, tLcV, tDcZ, tYes, wipe, tLcZ, tScZ, cxOf, RVal, RTup, gTupU, gCons, gNil, tProp, tDGetU, sDPutU, rLenO, rDEqU, tBML, tBML0, tConU, tDNewK, rIsiO, hH5, hp5]
        refine ⟨[true, true], rfl, ?_⟩
        rw [if_neg (by simp)]
        refine lockE hr5 fun od => ?_
        have hRi6 : lk (upd H5 r (.frz od (.dK (ranksOf sg))) ri) = some (.tup [sgn u, sgn v]) := by rw [lk_freeze hr5 rfl, hRi5]; rfl
        simp [tRet, tRetN, tDrop, tAsg, gName, tSeq, tNext, tIfS, tAndV, tOrV, tNotV, tAnd, tOr, tNot, tB, tTest, tVar, tC, tOp, tUn, tCons, tNil, tTup, tLst, tCB, tBM, tBM0, tM1, tM0, tCall, tMeth, tMake, tFldU, sFldU, tChain, tIf, tPar, tPar3, tAug, tDisp, tPairs, tDGet2, sDPut, rIsiU, rIsiTU, rLenU, rIxU, rInU, rNilU, rEqU, rNeU, rEq, rNe, rMax2U, rMin2U, rInt1U, rAbsU, scal, rAddU, rMulU, rI0, rI, rU, rListU, rTupU, rSumU, rAllU, rAnyU, rDictU, rSlU, tSl, tPart, tNoPart, rAppend, rExtend, rPop, rPopAt, rJoinU, rRepr, tSumVals, tyN_non, tyN_bl, tyN_int, tyN_str, tyN_ref, tyO_lst, tyO_tup, tyO_dK, tyO_flst, tyO_ftup, tyO_fdK, and_assoc, tyList, isT, tyAsk, lk_none, lk_frz, lk_lst, lk_tup, lk_dK, lk_ins, kV_str, kV_int, kV_kV, L2.start, E0, tForZ, zList, zTup, zStr, zRng1, zRng2, zEnumS, zEnumL, zKeys, zVals, zItems, tAugS, rGetL, rSetL, ipI, tyN_new, upd_same, tLcV, tDcZ, tYes, wipe, tLcZ, tScZ, cxOf, RVal, RTup, gTupU, gCons, gNil, tProp, tDGetU, sDPutU, rLenO, rDEqU, tBML, tBML0, tConU, tDNewK, rIsiO]
        refine lcv (fun kv => decide (kv.1 = sk u) || decide (kv.1 = sk v)) (fun kv => kV kv.1) (by simp [ranksOf]; have := ok.hi; omega) (fun H' hs' => hs'.get upd_same) (fun z hz H6 x H7 hs6 hr6 => ?_) (fun D2 H6 hD2 hs6 hH6 => ?_)
        · obtain ⟨rfl, rfl⟩ := hr6
          obtain ⟨⟨c0, n0⟩, hm, rfl⟩ := List.mem_map.mp hz
          have hRi7 := lk_sub hs6 hRi6
          have e1 : kV (sk c0) = sgn c0 := rfl
          have e2 : inV (sgn c0) [sgn u, sgn v] = (decide (sk c0 = sk u) || decide (sk c0 = sk v)) := by
            have := inV_sgn (c := c0) (l := [u, v])
            rw [show [sgn u, sgn v] = [u, v].map sgn from rfl, this, Bool.eq_iff_iff]
            simp only [List.mem_cons, List.not_mem_nil, or_false, Bool.or_eq_true, decide_eq_true_eq]
            exact ⟨fun h => h.imp (fun e => by rw [e]) fun e => by rw [e], fun h => h.imp sk_inj sk_inj⟩
          simp [tRet, tRetN, tDrop, tAsg, gName, tSeq, tNext, tIfS, tAndV, tOrV, tNotV, tAnd, tOr, tNot, tB, tTest, tVar, tC, tOp, tUn, tCons, tNil, tTup, tLst, tCB, tBM, tBM0, tM1, tM0, tCall, tMeth, tMake, tFldU, sFldU, tChain, tIf, tPar, tPar3, tAug, tDisp, tPairs, tDGet2, sDPut, rIsiU, rIsiTU, rLenU, rIxU, rInU, rNilU, rEqU, rNeU, rEq, rNe, rMax2U, rMin2U, rInt1U, rAbsU, scal, rAddU, rMulU, rI0, rI, rU, rListU, rTupU, rSumU, rAllU, rAnyU, rDictU, rSlU, tSl, tPart, tNoPart, rAppend, rExtend, rPop, rPopAt, rJoinU, rRepr, tSumVals, tyN_non, tyN_bl, tyN_int, tyN_str, tyN_ref, tyO_lst, tyO_tup, tyO_dK, tyO_flst, tyO_ftup, tyO_fdK, and_assoc, tyList, isT, tyAsk, lk_none, lk_frz, lk_lst, lk_tup, lk_dK, lk_ins, kV_str, kV_int, kV_kV, L2.start, E0, tForZ, zList, zTup, zStr, zRng1, zRng2, zEnumS, zEnumL, zKeys, zVals, zItems, tAugS, rGetL, rSetL, ipI, tyN_new, upd_same, tLcV, tDcZ, tYes, wipe, tLcZ, tScZ, cxOf, RVal, RTup, gTupU, gCons, gNil, tProp, tDGetU, sDPutU, rLenO, rDEqU, tBML, tBML0, tConU, tDNewK, rIsiO, hRi7, e1, e2, -kV_str]
          exact Or.inl ⟨rfl, rfl, rfl, Sub.refl _⟩
        · have hpr : p ≠ r := fun e => by rw [e, hr] at hp0; cases hp0
          have hD2r : D2 ≠ r := fun e => by rw [e, upd_same] at hD2; cases hD2
          have hs7 := unfrz hr5 hs6
          have hD2p : D2 ≠ p := fun e => by
            rw [e, upd_ne hpr] at hD2
            rw [hp5] at hD2
            cases hD2
          rw [ranks_filter] at hH6
          refine ⟨hs6.get upd_same, D2, rfl, _, hs7.get hp5, _, by rw [upd_ne hD2r]; exact hH6, ?_, ?_, ?_⟩
          · rw [List.length_map, List.length_map]
            have l1 := flat_len ok.hi (ts.take i)
            have l2 := pair_len ok.hi (u, v)
            have l3 : (ts.take i).length ≤ 100 := by
              rw [List.length_take]
              have := tok.len
              omega
            rw [sizeLine_eq]
            omega
          · exact sub_upd ((h1.trans hs5).trans hs7) hp0
          · rw [take_at hts, List.flatMap_append, List.map_append]
            simp
    · rintro σ H3 ⟨a, rfl, h1, h2⟩
      rw [List.length_map, show rs.length = ts.length from Paired.length hprs, List.take_length] at h2
      have l1 := flat_len ok.hi ts
      have l2 := tok.len
      simp [tRet, tRetN, tDrop, tAsg, gName, tSeq, tNext, tIfS, tAndV, tOrV, tNotV, tAnd, tOr, tNot, tB, tTest, tVar, tC, tOp, tUn, tCons, tNil, tTup, tLst, tCB, tBM, tBM0, tM1, tM0, tCall, tMeth, tMake, tFldU, sFldU, tChain, tIf, tPar, tPar3, tAug, tDisp, tPairs, tDGet2, sDPut, rIsiU, rIsiTU, rLenU, rIxU, rInU, rNilU, rEqU, rNeU, rEq, rNe, rMax2U, rMin2U, rInt1U, rAbsU, scal, rAddU, rMulU, rI0, rI, rU, rListU, rTupU, rSumU, rAllU, rAnyU, rDictU, rSlU, tSl, tPart, tNoPart, rAppend, rExtend, rPop, rPopAt, rJoinU, rRepr, tSumVals, tyN_non, tyN_bl, tyN_int, tyN_str, tyN_ref, tyO_lst, tyO_tup, tyO_dK, tyO_flst, tyO_ftup, tyO_fdK, and_assoc, tyList, isT, tyAsk, lk_none, lk_frz, lk_lst, lk_tup, lk_dK, lk_ins, kV_str, kV_int, kV_kV, L2.start, E0, tForZ, zList, zTup, zStr, zRng1, zRng2, zEnumS, zEnumL, zKeys, zVals, zItems, tAugS, rGetL, rSetL, ipI, tyN_new, upd_same, tLcV, tDcZ, tYes, wipe, tLcZ, tScZ, cxOf, RVal, RTup, gTupU, gCons, gNil, tProp, tDGetU, sDPutU, rLenO, rDEqU, tBML, tBML0, tConU, tDNewK, rIsiO, h2]
      refine scv (fun _ => true) (fun z => match z with | .str x => Sum.inr x | _ => Sum.inl 0) (by rw [List.length_map]; omega) (fun H' hs' => by rw [hs'.get h2]; rfl) (fun z hz H4 x H5 hs4 hr4 => ?_) (fun D2 H4 S n hD2 hs4 hH4 hS hn => ?_)
      · obtain ⟨rfl, hx⟩ := hr4
        have hx : x = z := hx
        subst hx
        obtain ⟨c, hc, rfl⟩ := List.mem_map.mp hz
        simp [tRet, tRetN, tDrop, tAsg, gName, tSeq, tNext, tIfS, tAndV, tOrV, tNotV, tAnd, tOr, tNot, tB, tTest, tVar, tC, tOp, tUn, tCons, tNil, tTup, tLst, tCB, tBM, tBM0, tM1, tM0, tCall, tMeth, tMake, tFldU, sFldU, tChain, tIf, tPar, tPar3, tAug, tDisp, tPairs, tDGet2, sDPut, rIsiU, rIsiTU, rLenU, rIxU, rInU, rNilU, rEqU, rNeU, rEq, rNe, rMax2U, rMin2U, rInt1U, rAbsU, scal, rAddU, rMulU, rI0, rI, rU, rListU, rTupU, rSumU, rAllU, rAnyU, rDictU, rSlU, tSl, tPart, tNoPart, rAppend, rExtend, rPop, rPopAt, rJoinU, rRepr, tSumVals, tyN_non, tyN_bl, tyN_int, tyN_str, tyN_ref, tyO_lst, tyO_tup, tyO_dK, tyO_flst, tyO_ftup, tyO_fdK, and_assoc, tyList, isT, tyAsk, lk_none, lk_frz, lk_lst, lk_tup, lk_dK, lk_ins, kV_str, kV_int, kV_kV, L2.start, E0, tForZ, zList, zTup, zStr, zRng1, zRng2, zEnumS, zEnumL, zKeys, zVals, zItems, tAugS, rGetL, rSetL, ipI, tyN_new, upd_same, tLcV, tDcZ, tYes, wipe, tLcZ, tScZ, cxOf, RVal, RTup, gTupU, gCons, gNil, tProp, tDGetU, sDPutU, rLenO, rDEqU, tBML, tBML0, tConU, tDNewK, rIsiO, sgn]
        exact Sub.refl _
      · right; right; right; right
        have en : n = (ts.flatMap (pairOf sg)).length := by
          rw [filt, List.map_map] at hn
          have h2 := hn.2 (nodup_map_sk (f := fun z => z) (by simpa using tok.nd))
          simpa using h2
        subst en
        have h4 := hs4.get h2
        refine ⟨D2, rfl, S, _, hH4, ?_⟩
        left
        have := q _ (h1.trans hs4)
        exact ⟨_, by rw [h4]; rfl, by simpa using this⟩
/-- the heads after the turns -/
def headsOf (ts : List (Nat × Nat)) : List (Key × V) := ts.foldl (fun l p => putK (putK l (sk p.1) (sgn p.2)) (sk p.2) (sgn p.1)) []
theorem putK_keys {l : List (Key × V)} {k : Key} {v : V} (h : (l.map (·.1)).Nodup) : ((putK l k v).map (·.1)).Nodup := by
  unfold putK
  split
  · have : (l.map fun kv => if kv.1 = k then (kv.1, v) else kv).map (·.1) = l.map (·.1) := by
      rw [List.map_map]
      apply List.map_congr_left
      intro z _
      show (if z.1 = k then (z.1, v) else z).1 = z.1
      split <;> rfl
    rw [this]
    exact h
  · rename_i hn
    rw [List.map_append]
    refine nodup_snoc.mpr ⟨h, fun hm => hn ?_⟩
    obtain ⟨z, hz, e⟩ := List.mem_map.mp hm
    exact List.any_eq_true.mpr ⟨z, hz, decide_eq_true e⟩
theorem putK_flat {l : List (Key × V)} {k : Key} {v : V} (h : ∀ p ∈ l, flatV p.2 = true) (hv : flatV v = true) : ∀ p ∈ putK l k v, flatV p.2 = true := by
  unfold putK
  split
  · intro p hp
    obtain ⟨z, hz, rfl⟩ := List.mem_map.mp hp
    show flatV (if z.1 = k then (z.1, v) else z).2 = true
    split
    · exact hv
    · exact h z hz
  · intro p hp
    rcases List.mem_append.mp hp with hp | hp
    · exact h p hp
    · rw [List.mem_singleton.mp hp]
      exact hv
theorem headsOf_ok : ∀ (ts : List (Nat × Nat)) (l : List (Key × V)), (l.map (·.1)).Nodup → (∀ p ∈ l, flatV p.2 = true) →
    ((ts.foldl (fun l p => putK (putK l (sk p.1) (sgn p.2)) (sk p.2) (sgn p.1)) l).map (·.1)).Nodup ∧ ∀ p ∈ ts.foldl (fun l p => putK (putK l (sk p.1) (sgn p.2)) (sk p.2) (sgn p.1)) l, flatV p.2 = true
  | [], l, h1, h2 => ⟨h1, h2⟩
  | p :: ts, l, h1, h2 => headsOf_ok ts _ (putK_keys (putK_keys h1)) (putK_flat (putK_flat h2 rfl) rfl)
theorem TurnsAt.subx {H H' : Hp} {t x C dx : Addr} {fs : List (Str × V)} {ts : List (Nat × Nat)} (hx : H x = some (.ins C dx fs)) (s : SubX x H H') (h : TurnsAt H t ts) : TurnsAt H' t ts := by
  have sg : ∀ {a : Addr} {o : HO}, H a = some o → (∀ C dx fs, o ≠ .ins C dx fs) → H' a = some o := fun {a o} h1 h2 => by
    rw [s a (fun e => by rw [e, hx] at h1; exact h2 _ _ _ (Option.some.inj h1).symm) (by rw [h1]; nofun), h1]
  obtain ⟨rs, h1, h2⟩ := h
  refine ⟨rs, sg h1 nofun, ?_⟩
  clear h1
  induction h2 with
  | nil => exact .nil
  | cons r _ ih => exact .cons (sg r nofun) ih
theorem putK_len {l : List (Key × V)} {k : Key} {v : V} : (putK l k v).length ≤ l.length + 1 := by
  unfold putK
  split
  · rw [List.length_map]; omega
  · rw [List.length_append]; simp
theorem headsOf_len (ts : List (Nat × Nat)) : (headsOf ts).length ≤ 2 * ts.length := by
  have key : ∀ (ts : List (Nat × Nat)) (l : List (Key × V)), (ts.foldl (fun l p => putK (putK l (sk p.1) (sgn p.2)) (sk p.2) (sgn p.1)) l).length ≤ l.length + 2 * ts.length := by
    intro ts
    induction ts with
    | nil => intro l; simp
    | cons p ts ih =>
      intro l
      have h1 := ih (putK (putK l (sk p.1) (sgn p.2)) (sk p.2) (sgn p.1))
      have h2 := putK_len (l := putK l (sk p.1) (sgn p.2)) (k := sk p.2) (v := sgn p.1)
      have h3 := putK_len (l := l) (k := sk p.1) (v := sgn p.2)
      rw [List.foldl_cons, List.length_cons]
      omega
  have := key ts []
  simpa [headsOf] using this
theorem headsOf_snoc (ts : List (Nat × Nat)) (p : Nat × Nat) : headsOf (ts ++ [p]) = putK (putK (headsOf ts) (sk p.1) (sgn p.2)) (sk p.2) (sgn p.1) := by
  unfold headsOf
  rw [List.foldl_append]
  rfl
def sp_Font_ddinitdd (K : PySem.W.Frag) : Sp := fun vs H Q _ => ∃ x dx sg t ts, vs = [.ref x, .str (txt sg), .ref t] ∧ H x = some (.ins (He.ga K "Font") dx []) ∧ SgOk sg ∧ TurnsAt H t ts ∧ TsOk sg ts ∧
  ∀ H' r h, SubX x H H' → H' x = some (.ins (He.ga K "Font") dx [("word", .str (txt sg)), ("ranks", .ref r), ("heads", .ref h)]) → H' r = some (.dK (ranksOf sg)) → H' h = some (.dK (headsOf ts)) → Q .non H'
theorem ok_Font_ddinitdd (T : Txt K mg) : FnOk P w K mg base CX0 3 (He.ma K (He.ga K "Font") "__init__") T.fd_Font_ddinitdd ["self", "signs", "turns"] (sp_Font_ddinitdd K) := by
  refine FunD.ok T.F_Font_ddinitdd sc_Font_ddinitdd (fun vs H Q E h => ?_) fun cdv A outer s H vs Q E hr h => ⟨_, PSs.nox (pss_cons (ps_if (pt_not (pt_val (pe_call (ok_is_font_text T) (hr.mono (by omega)) rfl T.g_is_font_text T.F_is_font_text.kp (b_is_font_text T) .nil pass0 (pa_cons (pv 1) (pa_cons (pe_conU (C := He.ga K "Font") T.cls_Font T.co_Font_MAX_SIGNS (pv 0) rfl) pa_nil))))) (pss_one ps_never) pss_nil)
      (pss_cons (ps_fldU (C := He.ga K "Font") T.cls_Font T.na_Font_word (pv 0) (pv 1) rfl)
      (pss_cons (ps_fldU (C := He.ga K "Font") T.cls_Font T.na_Font_ranks (pv 0) (pe_dcZ rfl sc_Font_ddinitdd.nd (z_enumS (by exact rfl) T.f_enumerate (pa_cons (pv 1) pa_nil)) (own := [("rank", 5), ("sign", 6)]) (show BlkOk ["self", "signs", "turns", "one", "other", "rank", "sign"] (defScope s_Font_ddinitdd) _ [("rank", 5), ("sign", 6)] from ⟨rfl, by decide +kernel, by decide +kernel, by decide +kernel, by decide +kernel⟩) (fun _ _ _ _ _ => (pg_tupU (n := 2) rfl (pgs_cons (pg_name (i := 5) sc_Font_ddinitdd.nd rfl (by first | exact Or.inl rfl | exact Or.inr rfl)) (pgs_cons (pg_name (i := 6) sc_Font_ddinitdd.nd rfl (by first | exact Or.inl rfl | exact Or.inr rfl)) pgs_nil)))) (fun _ _ _ _ _ => pts_nil) (fun _ _ _ _ _ => (pv 6)) (fun _ _ _ _ _ => (pv 5))) rfl)
      (pss_cons (ps_if (pt_not (pt_val (pe_call (ok_are_turns T) (hr.mono (by omega)) rfl T.g_are_turns T.F_are_turns.kp (b_are_turns T) .nil pass0 (pa_cons (pv 2) (pa_cons (pe_fldU (C := He.ga K "Font") T.cls_Font T.na_Font_ranks (pv 0) rfl) pa_nil))))) (pss_one ps_never) pss_nil)
      (pss_cons (ps_fldU (C := He.ga K "Font") T.cls_Font T.na_Font_heads (pv 0) pe_dnewK rfl)
      (pss_one (ps_forZ PassesOwn.never rfl (z_list (pv 2)) (pg_tupU (n := 2) rfl (pgs_cons (pg_name (i := 3) sc_Font_ddinitdd.nd rfl (by first | exact Or.inl rfl | exact Or.inr rfl)) (pgs_cons (pg_name (i := 4) sc_Font_ddinitdd.nd rfl (by first | exact Or.inl rfl | exact Or.inr rfl)) pgs_nil))) (pss_cons (ps_dputU (hu_of hr) (pe_fldU (C := He.ga K "Font") T.cls_Font T.na_Font_heads (pv 0) rfl) (pv 3) (pv 4) rfl)
      (pss_one (ps_dputU (hu_of hr) (pe_fldU (C := He.ga K "Font") T.cls_Font T.na_Font_heads (pv 0) rfl) (pv 4) (pv 3) rfl)))))))))), ?_⟩
  · obtain ⟨x, dx, sg, t, ts, rfl, _⟩ := h
    rfl
  · obtain ⟨x, dx, sg, t, ts, rfl, hx, ok, htu, tok, q⟩ := h
    simp [tRet, tRetN, tDrop, tAsg, gName, tSeq, tNext, tIfS, tAndV, tOrV, tNotV, tAnd, tOr, tNot, tB, tTest, tVar, tC, tOp, tUn, tCons, tNil, tTup, tLst, tCB, tBM, tBM0, tM1, tM0, tCall, tMeth, tMake, tFldU, sFldU, tChain, tIf, tPar, tPar3, tAug, tDisp, tPairs, tDGet2, sDPut, rIsiU, rIsiTU, rLenU, rIxU, rInU, rNilU, rEqU, rNeU, rEq, rNe, rMax2U, rMin2U, rInt1U, rAbsU, scal, rAddU, rMulU, rI0, rI, rU, rListU, rTupU, rSumU, rAllU, rAnyU, rDictU, rSlU, tSl, tPart, tNoPart, rAppend, rExtend, rPop, rPopAt, rJoinU, rRepr, tSumVals, tyN_non, tyN_bl, tyN_int, tyN_str, tyN_ref, tyO_lst, tyO_tup, tyO_dK, tyO_flst, tyO_ftup, tyO_fdK, and_assoc, tyList, isT, tyAsk, lk_none, lk_frz, lk_lst, lk_tup, lk_dK, lk_ins, kV_str, kV_int, kV_kV, L2.start, E0, tForZ, zList, zTup, zStr, zRng1, zRng2, zEnumS, zEnumL, zKeys, zVals, zItems, tAugS, rGetL, rSetL, ipI, tyN_new, upd_same, tLcV, tDcZ, tYes, wipe, tLcZ, tScZ, cxOf, RVal, RTup, gTupU, gCons, gNil, tProp, tDGetU, sDPutU, rLenO, rDEqU, tBML, tBML0, tConU, tDNewK, rIsiO, sp_is_font_text, hx]
    refine ⟨sg, rfl, ok, fun H1 hs1 => ⟨_, _, hs1.get hx, by simp, ?_⟩⟩
    have hx1 := hs1.get hx
    obtain ⟨H2, e2⟩ : ∃ H2, H2 = upd H1 x (.ins (He.ga K "Font") dx [("word", .str (txt sg))]) := ⟨_, rfl⟩
    have hx2 : H2 x = some (.ins (He.ga K "Font") dx [("word", .str (txt sg))]) := by rw [e2, upd_same]
    show DcV _ _ _ _ _ _ _ _ _ (upd H1 x (.ins (He.ga K "Font") dx [("word", .str (txt sg))])) _
    rw [← e2]
    have hsx2 : SubX x H H2 := fun a ha hn => by rw [e2, upd_ne ha, hs1 a hn]
    refine dcv (fun _ => true) (fun z => sk z.1) (fun z => V.int (z.2 : Nat)) (by rw [txt_list, List.length_zipIdx]; have := ok.hi; omega) (fun _ _ => trivial) (fun z hz H3 v H4 hs3 hr => ?_) (fun D H3 hD hs3 hH3 => ?_)
    · obtain ⟨t, rfl, ht, hs5, hT⟩ := rtup hr
      simp [tRet, tRetN, tDrop, tAsg, gName, tSeq, tNext, tIfS, tAndV, tOrV, tNotV, tAnd, tOr, tNot, tB, tTest, tVar, tC, tOp, tUn, tCons, tNil, tTup, tLst, tCB, tBM, tBM0, tM1, tM0, tCall, tMeth, tMake, tFldU, sFldU, tChain, tIf, tPar, tPar3, tAug, tDisp, tPairs, tDGet2, sDPut, rIsiU, rIsiTU, rLenU, rIxU, rInU, rNilU, rEqU, rNeU, rEq, rNe, rMax2U, rMin2U, rInt1U, rAbsU, scal, rAddU, rMulU, rI0, rI, rU, rListU, rTupU, rSumU, rAllU, rAnyU, rDictU, rSlU, tSl, tPart, tNoPart, rAppend, rExtend, rPop, rPopAt, rJoinU, rRepr, tSumVals, tyN_non, tyN_bl, tyN_int, tyN_str, tyN_ref, tyO_lst, tyO_tup, tyO_dK, tyO_flst, tyO_ftup, tyO_fdK, and_assoc, tyList, isT, tyAsk, lk_none, lk_frz, lk_lst, lk_tup, lk_dK, lk_ins, kV_str, kV_int, kV_kV, L2.start, E0, tForZ, zList, zTup, zStr, zRng1, zRng2, zEnumS, zEnumL, zKeys, zVals, zItems, tAugS, rGetL, rSetL, ipI, tyN_new, upd_same, tLcV, tDcZ, tYes, wipe, tLcZ, tScZ, cxOf, RVal, RTup, gTupU, gCons, gNil, tProp, tDGetU, sDPutU, rLenO, rDEqU, tBML, tBML0, tConU, tDNewK, rIsiO, hT, sgn, sk]
      exact hs5
    · have hDx : D ≠ x := fun e => by rw [e, hx2] at hD; cases hD
      rw [filt, txt_list, mergeK_nd] at hH3
      · refine ⟨_, _, hs3.get hx2, by simp, _, by exact rfl, ?_⟩
        obtain ⟨H4, e4⟩ : ∃ H4, H4 = upd H3 x (.ins (He.ga K "Font") dx [("word", .str (txt sg)), ("ranks", .ref D)]) := ⟨_, rfl⟩
        show sp_are_turns K [V.ref t, V.ref D] (upd H3 x (.ins (He.ga K "Font") dx [("word", .str (txt sg)), ("ranks", .ref D)])) _ _
        rw [← e4]
        have hx4 : H4 x = some (.ins (He.ga K "Font") dx [("word", .str (txt sg)), ("ranks", .ref D)]) := by rw [e4, upd_same]
        have hD4 : H4 D = some (.dK (ranksOf sg)) := by rw [e4, upd_ne hDx]; exact hH3
        have hsx4 : SubX x H H4 := fun a ha hn => by rw [e4, upd_ne ha, hs3 a (by rw [hsx2 a ha hn]; exact hn), hsx2 a ha hn]
        refine ⟨t, D, sg, ts, rfl, htu.subx hx hsx4, hD4, ok, tok, fun H5 hs5 => Or.inr ⟨rfl, fun p hp5 => ?_⟩⟩
        have hxp : x ≠ p := fun e => by rw [← e, hs5.get hx4] at hp5; cases hp5
        have hDp : D ≠ p := fun e => by rw [← e, hs5.get hD4] at hp5; cases hp5
        have hx5 : upd H5 p (.dK []) x = some (.ins (He.ga K "Font") dx [("word", .str (txt sg)), ("ranks", .ref D)]) := by rw [upd_ne hxp]; exact hs5.get hx4
        refine ⟨_, _, hx5, by simp, ?_⟩
        obtain ⟨H6, e6⟩ : ∃ H6, H6 = upd (upd H5 p (.dK [])) x (.ins (He.ga K "Font") dx [("word", .str (txt sg)), ("ranks", .ref D), ("heads", .ref p)]) := ⟨_, rfl⟩
        have e6' : upd (upd H5 p (.dK [])) x (.ins (He.ga K "Font") dx (putF "heads" (.ref p) [("word", .str (txt sg)), ("ranks", .ref D)])) = H6 := e6.symm
        rw [e6']
        have hx6 : H6 x = some (.ins (He.ga K "Font") dx [("word", .str (txt sg)), ("ranks", .ref D), ("heads", .ref p)]) := by rw [e6, upd_same]
        have hD6 : H6 D = some (.dK (ranksOf sg)) := by rw [e6, upd_ne hDx, upd_ne hDp]; exact hs5.get hD4
        have hp6 : H6 p = some (.dK []) := by rw [e6, upd_ne hxp.symm, upd_same]
        have hHp : H p = none := by
          cases e : H p with
          | none => rfl
          | some o =>
            have h1 := hsx4 p hxp.symm (by rw [e]; nofun)
            rw [← hs5 p (by rw [h1, e]; nofun), hp5, e] at h1
            cases h1
        have hsx6 : SubX x H H6 := fun a ha hn => by
          have hap : a ≠ p := fun e => hn (by rw [e]; exact hHp)
          rw [e6, upd_ne ha, upd_ne hap, hs5 a (by rw [hsx4 a ha hn]; exact hn), hsx4 a ha hn]
        obtain ⟨rs, ht6, hprs⟩ := htu.subx hx hsx6
        refine ⟨_, by rw [ht6]; rfl, ?_⟩
        refine loop_ix (fun i σ H7 => ∃ a b c d, σ = [some (.ref x), some (.str (txt sg)), some (.ref t), a, b, c, d] ∧ SubX x H H7 ∧ H7 x = some (.ins (He.ga K "Font") dx [("word", .str (txt sg)), ("ranks", .ref D), ("heads", .ref p)]) ∧
          H7 D = some (.dK (ranksOf sg)) ∧ H7 p = some (.dK (headsOf (ts.take i)))) ⟨none, none, none, none, rfl, hsx6, hx6, hD6, by simpa [headsOf] using hp6⟩ (fun i σ H7 hh => ?_) ?_ ?_
        · obtain ⟨a, b, c, d, rfl, h1, h2, h3, h4⟩ := hh
          have htx : t ≠ x := fun e => by rw [e, hx6] at ht6; cases ht6
          obtain ⟨rs', h5, _⟩ := htu
          have h6 := hsx6 t htx (by rw [h5]; nofun)
          have h7 := h1 t htx (by rw [h5]; nofun)
          rw [h7, ← h6, ht6]
          rfl
        · rintro i z σ H7 v H8 hz ⟨a, b, c, d, rfl, h1, h2, h3, h4⟩ ⟨rfl, rfl⟩
          rw [List.getElem?_map] at hz
          obtain ⟨ri, hri, rfl⟩ := Option.map_eq_some_iff.mp hz
          obtain ⟨rs', h5, h6⟩ := htu.subx hx h1
          have ers : rs' = rs := by
            have htx : t ≠ x := fun e => by rw [e, hx6] at ht6; cases ht6
            obtain ⟨rs2, h7, _⟩ := htu
            have h8 := hsx6 t htx (by rw [h7]; nofun)
            have h9 := h1 t htx (by rw [h7]; nofun)
            rw [h9, ← h8, ht6] at h5
            injection h5 with h5
            injection h5 with h5
            exact (List.map_inj_right (fun a b e => by injection e)).mp h5.symm
          subst ers
          obtain ⟨⟨u, v⟩, hts, hR⟩ := paired_at h6 hri
          have l1 := headsOf_len (ts.take i)
          have l2 : (ts.take i).length ≤ 100 := by rw [List.length_take]; have := tok.len; omega
          have l3 := putK_len (l := headsOf (ts.take i)) (k := sk u) (v := sgn v)
          have hsl := sizeLine_eq
          have lkh : ∀ {a b c : V}, ([(("word" : Str), a), ("ranks", b), ("heads", c)] : List (Str × V)).lookup ("heads" : Str) = some c := rfl
          simp [tRet, tRetN, tDrop, tAsg, gName, tSeq, tNext, tIfS, tAndV, tOrV, tNotV, tAnd, tOr, tNot, tB, tTest, tVar, tC, tOp, tUn, tCons, tNil, tTup, tLst, tCB, tBM, tBM0, tM1, tM0, tCall, tMeth, tMake, tFldU, sFldU, tChain, tIf, tPar, tPar3, tAug, tDisp, tPairs, tDGet2, sDPut, rIsiU, rIsiTU, rLenU, rIxU, rInU, rNilU, rEqU, rNeU, rEq, rNe, rMax2U, rMin2U, rInt1U, rAbsU, scal, rAddU, rMulU, rI0, rI, rU, rListU, rTupU, rSumU, rAllU, rAnyU, rDictU, rSlU, tSl, tPart, tNoPart, rAppend, rExtend, rPop, rPopAt, rJoinU, rRepr, tSumVals, tyN_non, tyN_bl, tyN_int, tyN_str, tyN_ref, tyO_lst, tyO_tup, tyO_dK, tyO_flst, tyO_ftup, tyO_fdK, and_assoc, tyList, isT, tyAsk, lk_none, lk_frz, lk_lst, lk_tup, lk_dK, lk_ins, kV_str, kV_int, kV_kV, L2.start, E0, tForZ, zList, zTup, zStr, zRng1, zRng2, zEnumS, zEnumL, zKeys, zVals, zItems, tAugS, rGetL, rSetL, ipI, tyN_new, upd_same, tLcV, tDcZ, tYes, wipe, tLcZ, tScZ, cxOf, RVal, RTup, gTupU, gCons, gNil, tProp, tDGetU, sDPutU, rLenO, rDEqU, tBML, tBML0, tConU, tDNewK, rIsiO, hR, h2, lkh, h4]
          refine ⟨sk u, rfl, by omega, _, _, by rw [upd_ne hxp]; exact h2, _, rfl, p, rfl, _, upd_same, sk v, rfl, by omega, fun a ha hn => ?_, by rw [upd_ne hxp, upd_ne hxp]; exact h2, by rw [upd_ne hDp, upd_ne hDp]; exact h3, ?_⟩
          · have hap : a ≠ p := fun e => hn (by rw [e]; exact hHp)
            rw [upd_ne hap, upd_ne hap, h1 a ha hn]
          · rw [upd_same, take_at hts, headsOf_snoc]
        · rintro σ H7 ⟨a, b, c, d, rfl, h1, h2, h3, h4⟩
          rw [List.length_map, show rs.length = ts.length from Paired.length hprs, List.take_length] at h4
          simpa [tRet, tRetN, tDrop, tAsg, gName, tSeq, tNext, tIfS, tAndV, tOrV, tNotV, tAnd, tOr, tNot, tB, tTest, tVar, tC, tOp, tUn, tCons, tNil, tTup, tLst, tCB, tBM, tBM0, tM1, tM0, tCall, tMeth, tMake, tFldU, sFldU, tChain, tIf, tPar, tPar3, tAug, tDisp, tPairs, tDGet2, sDPut, rIsiU, rIsiTU, rLenU, rIxU, rInU, rNilU, rEqU, rNeU, rEq, rNe, rMax2U, rMin2U, rInt1U, rAbsU, scal, rAddU, rMulU, rI0, rI, rU, rListU, rTupU, rSumU, rAllU, rAnyU, rDictU, rSlU, tSl, tPart, tNoPart, rAppend, rExtend, rPop, rPopAt, rJoinU, rRepr, tSumVals, tyN_non, tyN_bl, tyN_int, tyN_str, tyN_ref, tyO_lst, tyO_tup, tyO_dK, tyO_flst, tyO_ftup, tyO_fdK, and_assoc, tyList, isT, tyAsk, lk_none, lk_frz, lk_lst, lk_tup, lk_dK, lk_ins, kV_str, kV_int, kV_kV, L2.start, E0, tForZ, zList, zTup, zStr, zRng1, zRng2, zEnumS, zEnumL, zKeys, zVals, zItems, tAugS, rGetL, rSetL, ipI, tyN_new, upd_same, tLcV, tDcZ, tYes, wipe, tLcZ, tScZ, cxOf, RVal, RTup, gTupU, gCons, gNil, tProp, tDGetU, sDPutU, rLenO, rDEqU, tBML, tBML0, tConU, tDNewK, rIsiO] using q H7 D p h1 h2 h3 h4
      · rw [List.map_map]
        show (sg.zipIdx.map fun z : Nat × Nat => sk z.1).Nodup
        refine nodup_map_sk (f := fun z : Nat × Nat => z.1) ?_
        rw [map_zipIdx_fst]
        exact ok.nd
theorem ok_Font_ddeqdd (T : Txt K mg) : FnOk P w K mg base CX0 1 (He.ma K (He.ga K "Font") "__eq__") T.fd_Font_ddeqdd ["self", "other"] (sp_Font_ddeqdd K) := by
  refine FunD.ok T.F_Font_ddeqdd sc_Font_ddeqdd (fun vs H Q E h => ?_) fun cdv A outer s H vs Q E hr h => ⟨_, PSs.nox (pss_one (ps_ret (pe_and (pe_callB (call_isiO T.it_Font) rfl T.f_isinstance boot_isinstance (pa_cons (pv 1) (pa_cons (pe_glob (v := .ref (He.ga K "Font")) rfl T.g_Font rfl) pa_nil))) (pe_and (pe_cmpR (op_eqU (hu0 hr)) (pe_fldU (C := He.ga K "Font") T.cls_Font T.na_Font_word (pv 0) rfl) (pe_fldU (C := He.ga K "Font") T.cls_Font T.na_Font_word (pv 1) rfl) (nomark _)) (pe_one (pe_cmpR (op_eqU (hu0 hr)) (pe_fldU (C := He.ga K "Font") T.cls_Font T.na_Font_heads (pv 0) rfl) (pe_fldU (C := He.ga K "Font") T.cls_Font T.na_Font_heads (pv 1) rfl) (nomark _))))))), ?_⟩
  · obtain ⟨x, sg, rfl, _⟩ := h
    rfl
  · obtain ⟨x, sg, rfl, ⟨dx, r, hh, hs, h1, h2, h3, h4, h5⟩, q⟩ := h
    have hd := dEq_self h5 h4
    simp [tRet, tRetN, tDrop, tAsg, gName, tSeq, tNext, tIfS, tAndV, tOrV, tNotV, tAnd, tOr, tNot, tB, tTest, tVar, tC, tOp, tUn, tCons, tNil, tTup, tLst, tCB, tBM, tBM0, tM1, tM0, tCall, tMeth, tMake, tFldU, sFldU, tChain, tIf, tPar, tPar3, tAug, tDisp, tPairs, tDGet2, sDPut, rIsiU, rIsiTU, rLenU, rIxU, rInU, rNilU, rEqU, rNeU, rEq, rNe, rMax2U, rMin2U, rInt1U, rAbsU, scal, rAddU, rMulU, rI0, rI, rU, rListU, rTupU, rSumU, rAllU, rAnyU, rDictU, rSlU, tSl, tPart, tNoPart, rAppend, rExtend, rPop, rPopAt, rJoinU, rRepr, tSumVals, tyN_non, tyN_bl, tyN_int, tyN_str, tyN_ref, tyO_lst, tyO_tup, tyO_dK, tyO_flst, tyO_ftup, tyO_fdK, and_assoc, tyList, isT, tyAsk, lk_none, lk_frz, lk_lst, lk_tup, lk_dK, lk_ins, kV_str, kV_int, kV_kV, L2.start, E0, tForZ, zList, zTup, zStr, zRng1, zRng2, zEnumS, zEnumL, zKeys, zVals, zItems, tAugS, rGetL, rSetL, ipI, tyN_new, upd_same, tLcV, tDcZ, tYes, wipe, tLcZ, tScZ, cxOf, RVal, RTup, gTupU, gCons, gNil, tProp, tDGetU, sDPutU, rLenO, rDEqU, tBML, tBML0, tConU, tDNewK, rIsiO, h1, lk_word, lk_heads, h3, hd]
    exact ⟨fun a b hm => h4 (a, b) hm, q⟩
end
end K74

set_option Elab.async false
set_option linter.all false
set_option maxRecDepth 100000
set_option maxHeartbeats 4000000
/-! k74: turns of a font, plain. -/
namespace K74
open PySem PySem.Spec PyProof.Rows L2 G
structure HsOk (sg : List Nat) (prs : List (Nat × Nat)) : Prop where
  nd : (prs.map (·.1)).Nodup
  mem : ∀ p ∈ prs, p.1 ∈ sg
  sym : ∀ a b, (a, b) ∈ prs → (b, a) ∈ prs
def hdV (prs : List (Nat × Nat)) : List (Key × V) := prs.map fun p => (sk p.1, sgn p.2)
theorem valV_hd (c : Nat) : ∀ prs : List (Nat × Nat), valV (hdV prs) (sk c) = (prs.lookup c).map sgn
  | [] => rfl
  | (a, b) :: prs => by
    show valV ((sk a, sgn b) :: hdV prs) (sk c) = _
    rw [valV_cons, List.lookup_cons, valV_hd c prs]
    by_cases e : a = c
    · subst e
      simp
    · have h2 : ¬ sk a = sk c := fun q => e (sk_inj q)
      have h3 : (c == a) = false := by simpa using fun q : c = a => e q.symm
      simp [h2, h3]
theorem mem_of_lookup {c b : Nat} : ∀ {prs : List (Nat × Nat)}, prs.lookup c = some b → (c, b) ∈ prs
  | [], h => by cases h
  | (a, d) :: prs, h => by
    rw [List.lookup_cons] at h
    by_cases e : c = a
    · subst e
      simp at h
      subst h
      exact List.mem_cons_self
    · have h3 : (c == a) = false := by simpa using e
      rw [h3] at h
      exact List.mem_cons_of_mem _ (mem_of_lookup h)
theorem lookup_of_mem {c b : Nat} : ∀ {prs : List (Nat × Nat)}, (prs.map (·.1)).Nodup → (c, b) ∈ prs → prs.lookup c = some b
  | [], _, h => by cases h
  | (a, d) :: prs, hn, h => by
    rw [List.map_cons, List.nodup_cons] at hn
    rw [List.lookup_cons]
    rcases List.mem_cons.mp h with e | h
    · cases e
      simp
    · have h3 : (c == a) = false := by
        have : c ≠ a := fun e => hn.1 (e ▸ List.mem_map.mpr ⟨(c, b), h, rfl⟩)
        simpa using this
      rw [h3]
      exact lookup_of_mem hn.2 h
theorem lookup_none {c : Nat} : ∀ {prs : List (Nat × Nat)}, c ∉ prs.map (·.1) → prs.lookup c = none
  | [], _ => rfl
  | (a, d) :: prs, h => by
    rw [List.map_cons, List.mem_cons, not_or] at h
    have h3 : (c == a) = false := by simpa using h.1
    rw [List.lookup_cons, h3]
    exact lookup_none h.2
structure TsInv (sg : List Nat) (prs : List (Nat × Nat)) (done : List Nat) (ts : List (Nat × Nat)) : Prop where
  mem : ∀ p ∈ ts, ∃ a b, (a, b) ∈ prs ∧ (p = (a, b) ∨ p = (b, a)) ∧ a ∈ done ∧ sg.idxOf a ≤ sg.idxOf b
  nd : (ts.flatMap (pairOf sg)).Nodup
  len : ts.length ≤ done.length
theorem TsInv.nil {sg : List Nat} {prs : List (Nat × Nat)} : TsInv sg prs [] [] := ⟨by simp, by simp, by simp⟩
theorem TsInv.skip {sg : List Nat} {prs : List (Nat × Nat)} {done : List Nat} {ts : List (Nat × Nat)} (h : TsInv sg prs done ts) (a : Nat) : TsInv sg prs (done ++ [a]) ts := by
  refine ⟨fun p hp => ?_, h.nd, by have := h.len; rw [List.length_append]; omega⟩
  obtain ⟨a, b, h1, h2, h3, h4⟩ := h.mem p hp
  exact ⟨a, b, h1, h2, List.mem_append_left _ h3, h4⟩
theorem idx_inj {sg : List Nat} {a b : Nat} (ha : a ∈ sg) (h : sg.idxOf a = sg.idxOf b) : a = b := by
  have h1 := List.idxOf_lt_length_iff.mpr ha
  have h2 : sg.idxOf b < sg.length := h ▸ h1
  have e1 := List.getElem_idxOf h1
  have e2 := List.getElem_idxOf h2
  rw [← e1, ← e2]
  congr 1
theorem TsInv.add {sg : List Nat} {prs : List (Nat × Nat)} {done : List Nat} {ts : List (Nat × Nat)} {a b : Nat} {p : Nat × Nat} (ok : HsOk sg prs) (nd : sg.Nodup) (h : TsInv sg prs done ts) (hab : (a, b) ∈ prs) (hp : p = (a, b) ∨ p = (b, a)) (hd : a ∉ done) (hi : sg.idxOf a ≤ sg.idxOf b) :
    TsInv sg prs (done ++ [a]) (ts ++ [p]) := by
  refine ⟨fun q hq => ?_, ?_, by have := h.len; simp; omega⟩
  · rcases List.mem_append.mp hq with hq | hq
    · exact (h.skip a).mem q hq
    · rw [List.mem_singleton.mp hq]
      exact ⟨a, b, hab, hp, by simp, hi⟩
  · rw [List.flatMap_append, List.nodup_append]
    refine ⟨h.nd, ?_, ?_⟩
    · simp [pairOf]
      exact nd.filter _
    · intro c hc d hd2 e
      subst e
      have h1 : c = a ∨ c = b := by
        simp [pairOf] at hd2
        rcases hp with rfl | rfl
        · exact hd2.2
        · exact hd2.2.symm
      obtain ⟨q, hq, hcq⟩ := List.mem_flatMap.mp hc
      obtain ⟨a', b', h2, h3, h4, h5⟩ := h.mem q hq
      have h6 : c = a' ∨ c = b' := by
        simp [pairOf] at hcq
        rcases h3 with rfl | rfl
        · exact hcq.2
        · exact hcq.2.symm
      have fn : ∀ x y z, (x, y) ∈ prs → (x, z) ∈ prs → y = z := fun x y z q1 q2 => by
        have e1 := lookup_of_mem ok.nd q1
        rw [lookup_of_mem ok.nd q2] at e1
        exact (Option.some.inj e1).symm
      have haa : a ≠ a' := fun e => hd (e ▸ h4)
      rcases h1 with e1 | e1 <;> rcases h6 with e2 | e2
      · exact haa (e1.symm.trans e2)
      · -- a = b'
        have q1 : (a, a') ∈ prs := by rw [← e1, e2]; exact ok.sym _ _ h2
        have e3 : b = a' := fn _ _ _ hab q1
        subst e3
        have e4 : a = b' := e1.symm.trans e2
        subst e4
        exact haa (idx_inj (ok.mem _ hab) (by omega))
      · -- b = a'
        have q1 : (a', a) ∈ prs := by rw [← e2, e1]; exact ok.sym _ _ hab
        have e3 : b' = a := fn _ _ _ h2 q1
        subst e3
        have e4 : a' = b := e2.symm.trans e1
        subst e4
        exact haa (idx_inj (ok.mem _ hab) (by omega))
      · -- b = b'
        have q1 : (b, a) ∈ prs := ok.sym _ _ hab
        have q2 : (b', a') ∈ prs := ok.sym _ _ h2
        have e4 : b = b' := e1.symm.trans e2
        subst e4
        exact haa (fn _ _ _ q1 q2)
theorem TsInv.ok {sg : List Nat} {prs : List (Nat × Nat)} {done : List Nat} {ts ts' : List (Nat × Nat)} (ok : HsOk sg prs) (h : TsInv sg prs done ts) (hl : done.length ≤ 100) (hp : ts'.Perm ts) : TsOk sg ts' := by
  refine ⟨fun p hq => ?_, ?_, ?_⟩
  · obtain ⟨a, b, h1, h2, h3, h4⟩ := h.mem p (hp.mem_iff.mp hq)
    have e1 := ok.mem _ h1
    have e2 := ok.mem _ (ok.sym _ _ h1)
    rcases h2 with rfl | rfl
    · exact ⟨e1, e2⟩
    · exact ⟨e2, e1⟩
  · exact (hp.flatMap_right _).nodup_iff.mpr h.nd
  · rw [hp.length_eq]
    exact Nat.le_trans h.len hl
/-- while the heads are drawn -/
structure HInv (sg left : List Nat) (prs : List (Nat × Nat)) : Prop where
  ok : HsOk sg prs
  sub : ∀ c ∈ left, c ∈ sg
  nd : left.Nodup
  off : ∀ p ∈ prs, p.1 ∉ left
  len : prs.length + left.length ≤ sg.length
theorem HInv.start {sg left : List Nat} (nd : sg.Nodup) (h : left.Perm sg) : HInv sg left [] :=
  ⟨⟨by simp, by simp, by simp⟩, fun c hc => h.mem_iff.mp hc, h.nodup_iff.mpr nd, by simp, by rw [h.length_eq]; simp⟩
/-- one is drawn: it is no more left -/
structure HOne (sg left : List Nat) (prs : List (Nat × Nat)) (one : Nat) : Prop where
  inv : HInv sg left prs
  mem : one ∈ sg
  nl : one ∉ left
  nk : one ∉ prs.map (·.1)
  len : prs.length + left.length + 1 ≤ sg.length
theorem HInv.pop {sg left : List Nat} {prs : List (Nat × Nat)} {one : Nat} (h : HInv sg (left ++ [one]) prs) : HOne sg left prs one := by
  have h2 := nodup_snoc.mp h.nd
  have h3 := h.len
  rw [List.length_append, List.length_singleton] at h3
  refine ⟨⟨h.ok, fun c hc => h.sub c (by simp [hc]), h2.1, fun p hp hq => h.off p hp (by simp [hq]), by omega⟩, h.sub one (by simp), h2.2, fun hm => ?_, by omega⟩
  obtain ⟨p, hp, e⟩ := List.mem_map.mp hm
  exact h.off p hp (by simp [e])
theorem HOne.put0 {sg left : List Nat} {prs : List (Nat × Nat)} {one : Nat} (h : HOne sg left prs one) : HInv sg left (prs ++ [(one, one)]) := by
  have hl := h.len
  refine ⟨⟨?_, fun p hp => ?_, fun a b hp => ?_⟩, h.inv.sub, h.inv.nd, fun p hp => ?_, by simp; omega⟩
  · rw [List.map_append]
    exact nodup_snoc.mpr ⟨h.inv.ok.nd, h.nk⟩
  · rcases List.mem_append.mp hp with hp | hp
    · exact h.inv.ok.mem p hp
    · rw [List.mem_singleton.mp hp]
      exact h.mem
  · rcases List.mem_append.mp hp with hp | hp
    · exact List.mem_append_left _ (h.inv.ok.sym a b hp)
    · cases (List.mem_singleton.mp hp)
      simp
  · rcases List.mem_append.mp hp with hp | hp
    · exact h.inv.off p hp
    · rw [List.mem_singleton.mp hp]
      exact h.nl
theorem HOne.put1 {sg left : List Nat} {prs : List (Nat × Nat)} {one two : Nat} (h : HOne sg (left ++ [two]) prs one) : two ∉ prs.map (·.1) ∧ two ≠ one ∧ HInv sg left (prs ++ [(one, two), (two, one)]) := by
  have h2 := h.inv.pop
  have hl := h.len
  have h1 := h.nl
  rw [List.length_append, List.length_singleton] at hl
  simp at h1
  have hne : two ≠ one := fun e => h1.2 e.symm
  refine ⟨h2.nk, hne, ⟨?_, fun p hp => ?_, fun a b hp => ?_⟩, h2.inv.sub, h2.inv.nd, fun p hp => ?_, by simp; omega⟩
  · have e : prs ++ [(one, two), (two, one)] = (prs ++ [(one, two)]) ++ [(two, one)] := by simp
    rw [e, List.map_append, List.map_append]
    refine nodup_snoc.mpr ⟨nodup_snoc.mpr ⟨h.inv.ok.nd, h.nk⟩, fun hm => ?_⟩
    rcases List.mem_append.mp hm with hm | hm
    · exact h2.nk hm
    · exact hne (by simpa using hm)
  · simp at hp
    rcases hp with hp | rfl | rfl
    · exact h.inv.ok.mem p hp
    · exact h.mem
    · exact h2.mem
  · simp at hp ⊢
    rcases hp with hp | ⟨rfl, rfl⟩ | ⟨rfl, rfl⟩
    · exact Or.inl (h.inv.ok.sym a b hp)
    · simp
    · simp
  · simp at hp
    rcases hp with hp | rfl | rfl
    · exact h2.inv.off p hp
    · exact h1.1
    · exact h2.nl
theorem putK_hd {prs : List (Nat × Nat)} {a b : Nat} (h : a ∉ prs.map (·.1)) : putK (hdV prs) (sk a) (sgn b) = hdV (prs ++ [(a, b)]) := by
  unfold putK
  rw [if_neg]
  · unfold hdV
    simp
  · intro hany
    obtain ⟨x, hx, e⟩ := List.any_eq_true.mp hany
    obtain ⟨p, hp, rfl⟩ := List.mem_map.mp hx
    have e2 : p.1 = a := sk_inj (of_decide_eq_true e)
    exact h (e2 ▸ List.mem_map.mpr ⟨p, hp, rfl⟩)
theorem paired_perm {α β : Type} {R : α → β → Prop} {l l' : List α} {m : List β} (hp : l'.Perm l) (h : Paired R l m) : ∃ m', Paired R l' m' ∧ m'.Perm m := by
  induction hp generalizing m with
  | nil => exact ⟨m, h, List.Perm.refl _⟩
  | cons x _ ih =>
    cases h with
    | cons r t =>
      obtain ⟨m', h1, h2⟩ := ih t
      exact ⟨_ :: m', .cons r h1, h2.cons _⟩
  | swap x y l =>
    cases h with
    | cons r t =>
      cases t with
      | cons r2 t2 => exact ⟨_, .cons r2 (.cons r t2), List.Perm.swap _ _ _⟩
  | trans _ _ ih1 ih2 =>
    obtain ⟨m1, h1, h2⟩ := ih2 h
    obtain ⟨m2, h3, h4⟩ := ih1 h1
    exact ⟨m2, h3, h4.trans h2⟩
theorem paired_mapL {α β : Type} {f : α → β} : ∀ {l : List α} {ys : List β}, Paired (fun y z => y = f z) ys l → ys = l.map f
  | _, _, .nil => rfl
  | _, _, .cons h t => by rw [List.map_cons, h, paired_mapL t]
theorem paired_selfL {α β : Type} {f : α → β} : ∀ {l : List α}, Paired (fun y z => y = f z) (l.map f) l
  | [] => .nil
  | _ :: _ => .cons rfl paired_selfL
theorem perm_of_map {α β : Type} {f : α → β} {l : List α} {ys : List β} (h : ys.Perm (l.map f)) : ∃ l' : List α, ys = l'.map f ∧ l'.Perm l := by
  obtain ⟨m, h1, h2⟩ := paired_perm h (paired_selfL (f := f) (l := l))
  exact ⟨m, paired_mapL h1, h2⟩
end K74

set_option Elab.async false
set_option linter.all false
/-! k74: rows of signs, plain. -/
namespace K74
open PySem PySem.Spec PyProof.Rows L2 G
theorem rowD_fuel {b : Nat} (hb : 2 ≤ b) : ∀ f g m, m ≤ f → m ≤ g → rowD b f m = rowD b g m
  | 0, g, m, h1, h2 => by
    obtain rfl : m = 0 := by omega
    cases g <;> simp [rowD]
  | f + 1, g, m, h1, h2 => by
    by_cases z : m = 0
    · subst z
      cases g <;> simp [rowD]
    · obtain ⟨g', rfl⟩ : ∃ g', g = g' + 1 := ⟨g - 1, by omega⟩
      have hlt : m / b < m := Nat.div_lt_self (by omega) hb
      have ih := rowD_fuel hb f g' (m / b) (by omega) (by omega)
      simp [rowD, z, ih]
theorem rowD_pos {b m : Nat} (hb : 2 ≤ b) (h : 0 < m) : rowD b m m = rowD b (m / b) (m / b) ++ [m % b] := by
  obtain ⟨k, rfl⟩ : ∃ k, m = k + 1 := ⟨m - 1, by omega⟩
  have hlt : (k + 1) / b < k + 1 := Nat.div_lt_self (by omega) hb
  rw [← rowD_fuel hb k ((k + 1) / b) ((k + 1) / b) (by omega) (Nat.le_refl _)]
  simp [rowD]
theorem rowD_lt {b : Nat} (hb : 2 ≤ b) : ∀ f m, ∀ x ∈ rowD b f m, x < b
  | 0, m, x, h => by simp [rowD] at h
  | f + 1, m, x, h => by
    by_cases z : m = 0
    · simp [rowD, z] at h
    · simp [rowD, z] at h
      rcases h with h | h
      · exact rowD_lt hb f _ x h
      · rw [h]
        exact Nat.mod_lt _ (by omega)
/-- the signs of a number -/
def rowS (sg : List Nat) (n : Nat) : List Nat := (rowD sg.length n n).map fun i => sg.getD i 0
theorem rowS_zero (sg : List Nat) : rowS sg 0 = [] := rfl
theorem rowS_pos {sg : List Nat} {n : Nat} (hb : 2 ≤ sg.length) (h : 0 < n) : rowS sg n = rowS sg (n / sg.length) ++ [sg.getD (n % sg.length) 0] := by
  unfold rowS
  rw [rowD_pos hb h, List.map_append]
  rfl
theorem rowS_len {sg : List Nat} (hb : 2 ≤ sg.length) : ∀ (k n : Nat), n < 2 ^ k → (rowS sg n).length ≤ k
  | 0, n, h => by
    obtain rfl : n = 0 := by omega
    simp [rowS_zero]
  | k + 1, n, h => by
    by_cases z : n = 0
    · subst z
      simp [rowS_zero]
    · rw [rowS_pos hb (by omega), List.length_append, List.length_singleton]
      have h1 : n / sg.length ≤ n / 2 := Nat.div_le_div_left hb (by omega)
      have := rowS_len hb k (n / sg.length) (by rw [Nat.pow_succ] at h; omega)
      omega
theorem count_signs {sg : List Nat} (nd : sg.Nodup) {i : Nat} (hi : i < sg.length) : ∀ l : List Nat, (∀ x ∈ l, x < sg.length) → (l.map fun j => sg.getD j 0).count (sg.getD i 0) = l.count i
  | [], _ => rfl
  | a :: l, h => by
    have ha := h a List.mem_cons_self
    rw [List.map_cons, List.count_cons, List.count_cons, count_signs nd hi l fun x hx => h x (List.mem_cons_of_mem _ hx)]
    have e : (sg.getD a 0 == sg.getD i 0) = (a == i) := by
      rw [Bool.eq_iff_iff, beq_iff_eq, beq_iff_eq]
      constructor
      · intro q
        simp [List.getD_eq_getElem?_getD, ha, hi] at q
        exact (List.getElem_inj nd).mp q
      · rintro rfl
        rfl
    rw [e]
theorem tally_rows {sg : List Nat} (nd : sg.Nodup) (hb : 2 ≤ sg.length) {i : Nat} (hi : i < sg.length) (f : Nat) : ∀ k, (((List.range k).map fun j => rowS sg (f + j)).flatten).count (sg.getD i 0) = tallyD sg.length i f k
  | 0 => rfl
  | k + 1 => by
    rw [List.range_succ, List.map_append, List.flatten_append, List.count_append, tally_rows nd hb hi f k]
    simp only [List.map_cons, List.map_nil, List.flatten_cons, List.flatten_nil, List.append_nil]
    unfold rowS
    rw [count_signs nd hi _ (rowD_lt hb _ _)]
    rfl
theorem flat_le {α : Type} {k : Nat} : ∀ {l : List (List α)}, (∀ x ∈ l, x.length ≤ k) → (l.map (·.length)).sum ≤ l.length * k
  | [], _ => by simp
  | a :: l, h => by
    have h1 := h a List.mem_cons_self
    have h2 := flat_le (l := l) fun x hx => h x (List.mem_cons_of_mem _ hx)
    rw [List.map_cons, List.sum_cons, List.length_cons, Nat.add_mul]
    omega
end K74

set_option Elab.async false
set_option linter.all false
/-! k75: digits counted block by block, plain. -/
namespace K74
/-- the digits of m -/
def rw' (b m : Nat) : List Nat := rowD b m m
theorem rw_zero (b : Nat) : rw' b 0 = [] := rfl
theorem rw_pos {b m : Nat} (hb : 2 ≤ b) (h : 0 < m) : rw' b m = rw' b (m / b) ++ [m % b] := rowD_pos hb h
theorem rw_snoc {b p d : Nat} (hb : 2 ≤ b) (hd : d < b) (h : 0 < p * b + d) : rw' b (p * b + d) = rw' b p ++ [d] := by
  rw [rw_pos hb h]
  have e1 : (p * b + d) / b = p := by
    rw [Nat.mul_comm, Nat.mul_add_div (by omega), Nat.div_eq_of_lt hd, Nat.add_zero]
  have e2 : (p * b + d) % b = d := by
    rw [Nat.mul_comm, Nat.mul_add_mod, Nat.mod_eq_of_lt hd]
  rw [e1, e2]
theorem rw_lt {b m : Nat} (hb : 2 ≤ b) : ∀ x ∈ rw' b m, x < b := rowD_lt hb m m
theorem tally_succ (b d f k : Nat) : tallyD b d f (k + 1) = tallyD b d f k + (rw' b (f + k)).count d := rfl
theorem tally_add (b d f j : Nat) : ∀ k, tallyD b d f (j + k) = tallyD b d f j + tallyD b d (f + j) k
  | 0 => by simp [tallyD]
  | k + 1 => by
    rw [← Nat.add_assoc, tally_succ, tally_succ, tally_add b d f j k]
    rw [Nat.add_assoc f j k]
    omega
theorem tally_block {b d : Nat} (hb : 2 ≤ b) (hd : d < b) : ∀ (n p : Nat), 1 ≤ p → tallyD b d (p * b ^ n) (b ^ n) = b ^ n * (rw' b p).count d + n * b ^ (n - 1)
  | 0, p, hp => by
    simp [tallyD, rw']
  | n + 1, p, hp => by
    have key : ∀ j, j ≤ b → tallyD b d (p * b ^ (n + 1)) (j * b ^ n) = j * (b ^ n * (rw' b p).count d + n * b ^ (n - 1)) + (if d < j then b ^ n else 0) := by
      intro j
      induction j with
      | zero => intro _; simp [tallyD]
      | succ j ih =>
        intro hj
        have ih := ih (by omega)
        rw [Nat.succ_mul, tally_add, ih]
        have e : p * b ^ (n + 1) + j * b ^ n = (p * b + j) * b ^ n := by
          rw [Nat.pow_succ, Nat.add_mul]
          congr 1
          ac_rfl
        have hpos : 0 < p * b + j := by
          have : 1 * 2 ≤ p * b := Nat.mul_le_mul hp hb
          omega
        rw [e, tally_block hb hd n (p * b + j) (by omega), rw_snoc hb (by omega) hpos, List.count_append, List.count_singleton, Nat.succ_mul j (b ^ n * (rw' b p).count d + n * b ^ (n - 1))]
        by_cases h1 : j = d
        · subst h1
          simp [Nat.mul_add]
          omega
        · have h2 : (j == d) = false := by simpa using h1
          have h3 : (d < j + 1) ↔ (d < j) := by omega
          simp [h2, h3]
          omega
    have := key b (Nat.le_refl _)
    rw [if_pos hd] at this
    have e1 : b * b ^ n = b ^ (n + 1) := by rw [Nat.pow_succ, Nat.mul_comm]
    rw [e1] at this
    rw [this, Nat.mul_add]
    have e2 : b * (b ^ n * (rw' b p).count d) = b ^ (n + 1) * (rw' b p).count d := by rw [← e1]; ac_rfl
    have e3 : b * (n * b ^ (n - 1)) = n * b ^ n := by
      cases n with
      | zero => simp
      | succ k =>
        rw [Nat.pow_succ]
        simp only [Nat.add_sub_cancel]
        ac_rfl
    rw [e2, e3, Nat.add_sub_cancel, Nat.add_mul]
    omega
/-- what a block adds -/
theorem block_eq {b : Nat} (hb : 2 ≤ b) (n : Nat) : (if 0 < n then n * b ^ n / b else 0) = n * b ^ (n - 1) := by
  cases n with
  | zero => simp
  | succ k =>
    rw [if_pos (by omega), Nat.pow_succ, ← Nat.mul_assoc, Nat.mul_div_cancel _ (by omega), Nat.add_sub_cancel]
theorem rw_len {b : Nat} (hb : 2 ≤ b) : ∀ (n m : Nat), b ^ n ≤ m → m < b ^ (n + 1) → (rw' b m).length = n + 1
  | 0, m, h1, h2 => by
    simp at h1 h2
    rw [rw_pos hb (by omega), Nat.div_eq_of_lt h2, rw_zero]
    rfl
  | n + 1, m, h1, h2 => by
    have hp : 0 < b ^ (n + 1) := Nat.pow_pos (by omega)
    rw [rw_pos hb (by omega), List.length_append, rw_len hb n (m / b)]
    · rfl
    · rw [Nat.le_div_iff_mul_le (by omega), ← Nat.pow_succ]
      exact h1
    · rw [Nat.div_lt_iff_lt_mul (by omega), ← Nat.pow_succ]
      exact h2
theorem rw_bounds {b : Nat} (hb : 2 ≤ b) (m : Nat) (h : 1 ≤ m) : ∃ n, (rw' b m).length = n + 1 ∧ b ^ n ≤ m ∧ m < b ^ (n + 1) := by
  induction m using Nat.strongRecOn with
  | ind m ih =>
    by_cases hm : m < b
    · exact ⟨0, rw_len hb 0 m (by simpa using h) (by simpa using hm), by simpa using h, by simpa using hm⟩
    · have hlt : m / b < m := Nat.div_lt_self (by omega) hb
      have h1 : 1 ≤ m / b := Nat.div_pos (by omega) (by omega)
      obtain ⟨n, e, g1, g2⟩ := ih (m / b) hlt h1
      have k1 : b ^ (n + 1) ≤ m := by
        rw [Nat.le_div_iff_mul_le (by omega)] at g1
        rw [Nat.pow_succ]
        exact g1
      have k2 : m < b ^ (n + 1 + 1) := by
        rw [Nat.div_lt_iff_lt_mul (by omega)] at g2
        rw [Nat.pow_succ]
        exact g2
      exact ⟨n + 1, rw_len hb (n + 1) m k1 k2, k1, k2⟩
/-- the first digits -/
theorem rw_take {b : Nat} (hb : 2 ≤ b) (m : Nat) : ∀ j, j ≤ (rw' b m).length → rw' b (m / b ^ j) = (rw' b m).take ((rw' b m).length - j)
  | 0, _ => by simp
  | j + 1, h => by
    have ih := rw_take hb m j (by omega)
    have hl : (rw' b (m / b ^ j)).length = (rw' b m).length - j := by rw [ih, List.length_take]; omega
    have hpos : 0 < m / b ^ j := by
      rcases Nat.eq_zero_or_pos (m / b ^ j) with e | e
      · rw [e, rw_zero] at hl
        simp at hl
        omega
      · exact e
    have e := rw_pos hb hpos
    have e2 : m / b ^ j / b = m / b ^ (j + 1) := by rw [Nat.div_div_eq_div_mul, Nat.pow_succ]
    rw [e2] at e
    have h3 : rw' b (m / b ^ (j + 1)) = (rw' b (m / b ^ j)).take ((rw' b m).length - (j + 1)) := by
      have hl2 : (rw' b (m / b ^ (j + 1))).length = (rw' b m).length - (j + 1) := by
        have := congrArg List.length e
        rw [hl, List.length_append] at this
        simp at this
        omega
      rw [e, ← hl2, List.take_left']
      rfl
    rw [h3, ih, List.take_take]
    congr 1
    omega
/-- how many digits the numbers from f on have, k of them -/
def lenD (b f : Nat) : Nat → Nat
  | 0 => 0
  | k + 1 => lenD b f k + (rw' b (f + k)).length
theorem lenD_add (b f j : Nat) : ∀ k, lenD b f (j + k) = lenD b f j + lenD b (f + j) k
  | 0 => by simp [lenD]
  | k + 1 => by
    rw [← Nat.add_assoc]
    show lenD b f (j + k) + (rw' b (f + (j + k))).length = lenD b f j + (lenD b (f + j) k + (rw' b (f + j + k)).length)
    rw [lenD_add b f j k, Nat.add_assoc f j k]
    omega
theorem lenD_same {b : Nat} (hb : 2 ≤ b) (n f : Nat) (h1 : b ^ n ≤ f) : ∀ k, f + k ≤ b ^ (n + 1) → lenD b f k = (n + 1) * k
  | 0, _ => by simp [lenD]
  | k + 1, h => by
    show lenD b f k + (rw' b (f + k)).length = _
    rw [lenD_same hb n f h1 k (by omega), rw_len hb n (f + k) (by omega) (by omega), Nat.mul_add]
    omega
theorem sum_count (b : Nat) : ∀ l : List Nat, (∀ x ∈ l, x < b) → ((List.range b).map fun d => l.count d).sum = l.length
  | [], h => by
    clear h
    simp
    induction b with
    | zero => rfl
    | succ b ih => rw [List.range_succ, List.map_append, List.sum_append, ih]; rfl
  | a :: l, h => by
    have ha := h a List.mem_cons_self
    have ih := sum_count b l fun x hx => h x (List.mem_cons_of_mem _ hx)
    have key : ∀ n, ((List.range n).map fun d => (a :: l).count d).sum = ((List.range n).map fun d => l.count d).sum + if a < n then 1 else 0 := by
      intro n
      induction n with
      | zero => rfl
      | succ n ihn =>
        rw [List.range_succ, List.map_append, List.map_append, List.sum_append, List.sum_append, ihn]
        simp only [List.map_cons, List.map_nil, List.sum_cons, List.sum_nil, List.count_cons]
        by_cases e : a = n
        · subst e
          simp
          omega
        · have e2 : (a == n) = false := by simpa using e
          have e3 : (a < n + 1) ↔ (a < n) := by omega
          simp [e2, e3]
          omega
    rw [key b, ih, if_pos ha, List.length_cons]
theorem sum_tally {b : Nat} (hb : 2 ≤ b) (f : Nat) : ∀ k, ((List.range b).map fun d => tallyD b d f k).sum = lenD b f k
  | 0 => by
    have : ∀ n, ((List.range n).map fun d => tallyD b d f 0).sum = 0 := by
      intro n
      induction n with
      | zero => rfl
      | succ n ih => rw [List.range_succ, List.map_append, List.sum_append, ih]; rfl
    exact this b
  | k + 1 => by
    have ih := sum_tally hb f k
    have hc := sum_count b (rw' b (f + k)) (rw_lt hb)
    have key : ∀ n, ((List.range n).map fun d => tallyD b d f (k + 1)).sum = ((List.range n).map fun d => tallyD b d f k).sum + ((List.range n).map fun d => (rw' b (f + k)).count d).sum := by
      intro n
      induction n with
      | zero => rfl
      | succ n ihn =>
        rw [List.range_succ, List.map_append, List.map_append, List.map_append, List.sum_append, List.sum_append, List.sum_append, ihn]
        simp only [List.map_cons, List.map_nil, List.sum_cons, List.sum_nil, tally_succ]
        omega
    rw [key b, ih, hc]
    rfl
end K74

set_option Elab.async false
set_option linter.all false
/-! Shares: how many numbers have so many digits in a set, plain. -/
namespace K74
open PySem PySem.Spec PyProof.Rows L2 G
/-- how many digits of m are in a set -/
def shr (b : Nat) (mem : Nat → Nat) (m : Nat) : Nat := ((rw' b m).map mem).sum
/-- how many of the k numbers from f on have the share s -/
def cntS (b : Nat) (mem : Nat → Nat) (s f : Nat) : Nat → Nat
  | 0 => 0
  | k + 1 => cntS b mem s f k + if shr b mem (f + k) = s then 1 else 0
/-- members from lo on, k digits -/
def memS (mem : Nat → Nat) (lo : Nat) : Nat → Nat
  | 0 => 0
  | k + 1 => memS mem lo k + mem (lo + k)
/-- ways to fill n free places with a share, i of b digits are members -/
def wy (b i : Nat) : Nat → Nat → Nat
  | 0, t => if t = 0 then 1 else 0
  | n + 1, 0 => wy b i n 0 * (b - i)
  | n + 1, t + 1 => wy b i n (t + 1) * (b - i) + wy b i n t * i
/-- the ways, moved -/
def wz (b i n s t : Nat) : Nat := if t ≤ s then wy b i n (s - t) else 0
variable {b i : Nat} {mem : Nat → Nat}
theorem cntS_add (s f j : Nat) : ∀ k, cntS b mem s f (j + k) = cntS b mem s f j + cntS b mem s (f + j) k
  | 0 => by simp [cntS]
  | k + 1 => by
    rw [← Nat.add_assoc]
    show cntS b mem s f (j + k) + (if shr b mem (f + (j + k)) = s then 1 else 0) = cntS b mem s f j + (cntS b mem s (f + j) k + if shr b mem (f + j + k) = s then 1 else 0)
    rw [cntS_add s f j k, Nat.add_assoc f j k]
    omega
theorem memS_le (h : ∀ d, mem d ≤ 1) (lo : Nat) : ∀ k, memS mem lo k ≤ k
  | 0 => Nat.le_refl _
  | k + 1 => by
    have := memS_le h lo k
    have := h (lo + k)
    show memS mem lo k + mem (lo + k) ≤ _
    omega
theorem shr_zero : shr b mem 0 = 0 := rfl
theorem shr_snoc {p d : Nat} (hb : 2 ≤ b) (hd : d < b) (h : 0 < p * b + d) : shr b mem (p * b + d) = shr b mem p + mem d := by
  unfold shr
  rw [rw_snoc hb hd h, List.map_append, List.sum_append]
  simp
theorem wy_top : ∀ n t, n < t → wy b i n t = 0
  | 0, t, h => by simp [wy]; omega
  | n + 1, 0, h => by omega
  | n + 1, t + 1, h => by
    show wy b i n (t + 1) * (b - i) + wy b i n t * i = 0
    rw [wy_top n (t + 1) (by omega), wy_top n t (by omega)]
    simp
theorem wy_le (hi : i ≤ b) : ∀ n t, wy b i n t ≤ b ^ n
  | 0, t => by
    unfold wy
    split <;> simp
  | n + 1, 0 => by
    show wy b i n 0 * (b - i) ≤ _
    rw [Nat.pow_succ]
    exact Nat.mul_le_mul (wy_le hi n 0) (by omega)
  | n + 1, t + 1 => by
    show wy b i n (t + 1) * (b - i) + wy b i n t * i ≤ _
    have h1 : wy b i n (t + 1) * (b - i) ≤ b ^ n * (b - i) := Nat.mul_le_mul_right _ (wy_le hi n (t + 1))
    have h2 : wy b i n t * i ≤ b ^ n * i := Nat.mul_le_mul_right _ (wy_le hi n t)
    have h3 : b ^ n * (b - i) + b ^ n * i = b ^ (n + 1) := by rw [← Nat.mul_add, Nat.pow_succ, show b - i + i = b by omega]
    omega
theorem wz_succ (n s t : Nat) : wz b i (n + 1) s t = (b - i) * wz b i n s t + i * wz b i n s (t + 1) := by
  unfold wz
  by_cases h : t ≤ s
  · obtain ⟨u, rfl⟩ : ∃ u, s = t + u := ⟨s - t, by omega⟩
    rw [if_pos h, if_pos h, Nat.add_sub_cancel_left]
    cases u with
    | zero =>
      rw [if_neg (by omega)]
      show wy b i n 0 * (b - i) = _
      rw [Nat.mul_comm]
      simp
    | succ u =>
      rw [if_pos (by omega), show t + (u + 1) - (t + 1) = u by omega]
      show wy b i n (u + 1) * (b - i) + wy b i n u * i = _
      rw [Nat.mul_comm, Nat.mul_comm i]
  · rw [if_neg h, if_neg h, if_neg (by omega)]
    simp
/-- digits from lo on, k of them, each with n free places behind -/
theorem part_of {n : Nat} (hm : ∀ d, mem d ≤ 1) (hb : 2 ≤ b) (blk : ∀ p, 1 ≤ p → ∀ s, cntS b mem s (p * b ^ n) (b ^ n) = wz b i n s (shr b mem p)) {p lo : Nat} (s : Nat) (hp : 0 < p * b + lo) :
    ∀ k, lo + k ≤ b → cntS b mem s ((p * b + lo) * b ^ n) (k * b ^ n) = (k - memS mem lo k) * wz b i n s (shr b mem p) + memS mem lo k * wz b i n s (shr b mem p + 1)
  | 0, _ => by simp [cntS, memS]
  | k + 1, h => by
    have ih := part_of hm hb blk s hp k (by omega)
    have hk := memS_le hm lo k
    rw [show (k + 1) * b ^ n = k * b ^ n + b ^ n by rw [Nat.add_mul, Nat.one_mul], cntS_add, ih, show (p * b + lo) * b ^ n + k * b ^ n = (p * b + (lo + k)) * b ^ n by rw [← Nat.add_mul, Nat.add_assoc], blk _ (by omega),
      shr_snoc hb (by omega) (by omega)]
    show _ = (k + 1 - (memS mem lo k + mem (lo + k))) * _ + (memS mem lo k + mem (lo + k)) * _
    have h1 := hm (lo + k)
    rcases (show mem (lo + k) = 0 ∨ mem (lo + k) = 1 by omega) with e | e
    · simp only [e, Nat.add_zero]
      rw [show k + 1 - memS mem lo k = (k - memS mem lo k) + 1 by omega, Nat.add_mul]
      omega
    · rw [e, show k + 1 - (memS mem lo k + 1) = k - memS mem lo k by omega, Nat.add_mul]
      omega
theorem block_ways (hm : ∀ d, mem d ≤ 1) (hb : 2 ≤ b) (hi : memS mem 0 b = i) : ∀ n p, 1 ≤ p → ∀ s, cntS b mem s (p * b ^ n) (b ^ n) = wz b i n s (shr b mem p)
  | 0, p, hp, s => by
    rw [Nat.pow_zero, Nat.mul_one]
    show 0 + (if shr b mem (p + 0) = s then 1 else 0) = _
    unfold wz wy
    rw [Nat.add_zero]
    by_cases h : shr b mem p = s
    · subst h
      simp
    · rw [if_neg h]
      split
      · rw [if_neg (by omega)]
      · rfl
  | n + 1, p, hp, s => by
    have h := part_of hm hb (block_ways hm hb hi n) s (p := p) (lo := 0) (by have := Nat.mul_le_mul hp hb; omega) b (by omega)
    rw [hi, Nat.add_zero] at h
    have e1 : p * b ^ (n + 1) = p * b * b ^ n := by rw [Nat.pow_succ]; ac_rfl
    have e2 : b ^ (n + 1) = b * b ^ n := by rw [Nat.pow_succ]; ac_rfl
    rw [e1, e2, h, ← wz_succ]
/-- the ways of a digit ahead of n free places, from lo on, k of them -/
theorem part_ways (hm : ∀ d, mem d ≤ 1) (hb : 2 ≤ b) (hi : memS mem 0 b = i) (n : Nat) {p lo : Nat} (s : Nat) (hp : 0 < p * b + lo) (k : Nat) (hk : lo + k ≤ b) :
    cntS b mem s ((p * b + lo) * b ^ n) (k * b ^ n) = (k - memS mem lo k) * wz b i n s (shr b mem p) + memS mem lo k * wz b i n s (shr b mem p + 1) :=
  part_of hm hb (block_ways hm hb hi n) s hp k hk
/-- all shares together -/
theorem shr_len (hm : ∀ d, mem d ≤ 1) (m : Nat) : shr b mem m ≤ (rw' b m).length := by
  unfold shr
  generalize rw' b m = l
  induction l with
  | nil => simp
  | cons a l ih =>
    rw [List.map_cons, List.sum_cons, List.length_cons]
    have := hm a
    omega
end K74

set_option Elab.async false
set_option linter.all false
/-! Shares, further plain laws. -/
namespace K74
open PySem PySem.Spec PyProof.Rows L2 G
variable {b i : Nat} {mem : Nat → Nat}
theorem memS_add (lo j : Nat) : ∀ k, memS mem lo (j + k) = memS mem lo j + memS mem (lo + j) k
  | 0 => by simp [memS]
  | k + 1 => by
    rw [← Nat.add_assoc]
    show memS mem lo (j + k) + mem (lo + (j + k)) = memS mem lo j + (memS mem (lo + j) k + mem (lo + j + k))
    rw [memS_add lo j k, Nat.add_assoc lo j k]
    omega
theorem memS_first (hb : 2 ≤ b) (hi : memS mem 0 b = i) : memS mem 1 (b - 1) = i - mem 0 ∧ mem 0 ≤ i := by
  have h := memS_add (mem := mem) 0 1 (b - 1)
  rw [show 1 + (b - 1) = b by omega, hi] at h
  have h1 : memS mem 0 1 = mem 0 := by simp [memS]
  rw [h1] at h
  simp at h
  omega
/-- the numbers of one length more -/
theorem first_ways (hm : ∀ d, mem d ≤ 1) (hb : 2 ≤ b) (hi : memS mem 0 b = i) (s j : Nat) : cntS b mem s 1 (b ^ (j + 1) - 1) = cntS b mem s 1 (b ^ j - 1) + ((b - 1 - (i - mem 0)) * wz b i j s 0 + (i - mem 0) * wz b i j s 1) := by
  have h := part_ways hm hb hi j (p := 0) (lo := 1) s (by omega) (b - 1) (by omega)
  rw [(memS_first hb hi).1, shr_zero, Nat.zero_mul, Nat.zero_add, Nat.one_mul] at h
  have hp : 1 ≤ b ^ j := Nat.pow_pos (by omega)
  have e1 : b ^ (j + 1) - 1 = b ^ j - 1 + (b - 1) * b ^ j := by
    have h1 : b ^ (j + 1) = b * b ^ j := by rw [Nat.pow_succ]; ac_rfl
    have h2 : b * b ^ j = (b - 1) * b ^ j + b ^ j := by
      obtain ⟨c, rfl⟩ : ∃ c, b = c + 1 := ⟨b - 1, by omega⟩
      rw [Nat.add_sub_cancel, Nat.add_mul, Nat.one_mul]
    omega
  rw [e1, cntS_add, show 1 + (b ^ j - 1) = b ^ j by omega, h]
end K74

set_option Elab.async false
set_option linter.all false
/-! Shares of the numbers up to a last one, digit by digit, plain. -/
namespace K74
open PySem PySem.Spec PyProof.Rows L2 G
variable {b i : Nat} {mem : Nat → Nat}
theorem digit_facts {n L j Dj : Nat} (hb : 2 ≤ b) (hLe : (rw' b n).length = L) (hj : j < L) (hDj : (rw' b n)[j]? = some Dj) :
    n / b ^ (L - j) * b + Dj = n / b ^ (L - 1 - j) ∧ Dj < b ∧ (j = 0 → n / b ^ (L - j) = 0) ∧ (0 < j → 1 ≤ n / b ^ (L - j)) ∧ 1 ≤ n / b ^ (L - 1 - j) ∧ 1 ≤ n := by
  have hn1 : 1 ≤ n := by
    rcases Nat.eq_zero_or_pos n with q | q
    · subst q
      rw [rw_zero] at hLe
      simp at hLe
      omega
    · exact q
  obtain ⟨m, em, g1, g2⟩ := rw_bounds hb n hn1
  have hLm : L = m + 1 := by omega
  obtain ⟨pre, hpre⟩ : ∃ pre, pre = n / b ^ (L - j) := ⟨_, rfl⟩
  obtain ⟨q0, hq0⟩ : ∃ q0, q0 = n / b ^ (L - 1 - j) := ⟨_, rfl⟩
  have hLi : L - j = (L - 1 - j) + 1 := by omega
  have hq1 : 1 ≤ q0 := by
    rw [hq0]
    exact Nat.div_pos (Nat.le_trans (Nat.pow_le_pow_right (by omega) (by omega)) g1) (Nat.pow_pos (by omega))
  have hqd : q0 / b = pre := by rw [hq0, hpre, Nat.div_div_eq_div_mul, hLi, Nat.pow_succ]
  have ht1 := rw_take hb n (L - j) (by omega)
  have ht2 := rw_take hb n (L - 1 - j) (by omega)
  rw [hLe, ← hpre, show L - (L - j) = j by omega] at ht1
  rw [hLe, ← hq0, show L - (L - 1 - j) = j + 1 by omega, take_at hDj, rw_pos hb (by omega), hqd, ht1] at ht2
  have hDq : q0 % b = Dj := by simpa using ht2
  have hqe : pre * b + Dj = q0 := by
    have := Nat.div_add_mod q0 b
    rw [hqd, hDq, Nat.mul_comm] at this
    exact this
  rw [← hpre, ← hq0]
  refine ⟨hqe, by rw [← hDq]; exact Nat.mod_lt _ (by omega), fun e => ?_, fun e => ?_, hq1, hn1⟩
  · rw [hpre, e, Nat.sub_zero, hLm]
    exact Nat.div_eq_of_lt g2
  · rw [hpre]
    exact Nat.div_pos (Nat.le_trans (Nat.pow_le_pow_right (by omega) (by omega)) g1) (Nat.pow_pos (by omega))
/-- the first number that is not counted behind j digits -/
def curB (b n L j : Nat) : Nat := if j = 0 then b ^ (L - 1) else n / b ^ (L - j) * b ^ (L - j)
theorem step_ways (hm : ∀ d, mem d ≤ 1) (hb : 2 ≤ b) (hi : memS mem 0 b = i) {n L j Dj lo : Nat} (hLe : (rw' b n).length = L) (hj : j < L) (hDj : (rw' b n)[j]? = some Dj) (hlo : lo = if j = 0 then 1 else 0) (s : Nat) :
    lo ≤ Dj ∧ memS mem lo (Dj - lo) ≤ Dj - lo ∧ shr b mem (n / b ^ (L - (j + 1))) = shr b mem (n / b ^ (L - j)) + mem Dj ∧
    cntS b mem s 1 (curB b n L (j + 1) - 1) = cntS b mem s 1 (curB b n L j - 1) + ((Dj - lo - memS mem lo (Dj - lo)) * wz b i (L - 1 - j) s (shr b mem (n / b ^ (L - j))) + memS mem lo (Dj - lo) * wz b i (L - 1 - j) s (shr b mem (n / b ^ (L - j)) + 1)) := by
  obtain ⟨f1, f2, f3, f4, f5, f6⟩ := digit_facts hb hLe hj hDj
  obtain ⟨pre, hpre⟩ : ∃ pre, pre = n / b ^ (L - j) := ⟨_, rfl⟩
  obtain ⟨q0, hq0⟩ : ∃ q0, q0 = n / b ^ (L - 1 - j) := ⟨_, rfl⟩
  rw [← hpre] at f1 f3 f4 ⊢
  rw [← hq0] at f1 f5
  have e1 : L - (j + 1) = L - 1 - j := by omega
  rw [e1, ← hq0]
  obtain ⟨M, hM⟩ : ∃ M, M = b ^ (L - 1 - j) := ⟨_, rfl⟩
  have hMp : 1 ≤ M := by rw [hM]; exact Nat.pow_pos (by omega)
  have hlod : lo ≤ Dj := by
    rw [hlo]
    split
    · rename_i h
      rw [f3 h] at f1
      omega
    · omega
  have hpos : 0 < pre * b + lo := by
    rw [hlo]
    split
    · omega
    · rename_i h
      have := Nat.mul_le_mul (f4 (by omega)) hb
      omega
  have hcur : curB b n L j = (pre * b + lo) * M := by
    unfold curB
    rw [hlo]
    by_cases h : j = 0
    · rw [if_pos h, if_pos h, f3 h, hM, h]
      simp
    · rw [if_neg h, if_neg h, ← hpre, hM, show L - j = (L - 1 - j) + 1 by omega, Nat.pow_succ]
      rw [Nat.add_zero, Nat.mul_comm (b ^ (L - 1 - j)) b, Nat.mul_assoc]
  have hcur2 : curB b n L (j + 1) = q0 * M := by
    unfold curB
    rw [if_neg (by omega), e1, ← hq0, hM]
  refine ⟨hlod, memS_le hm lo _, ?_, ?_⟩
  · rw [← f1, shr_snoc hb f2 (by omega)]
  · have h := part_ways hm hb hi (L - 1 - j) (p := pre) (lo := lo) s hpos (Dj - lo) (by omega)
    rw [← hM] at h
    rw [hcur, hcur2, ← h]
    have h1 : 1 * M ≤ (pre * b + lo) * M := Nat.mul_le_mul_right _ (by omega)
    have h2 : q0 * M = (pre * b + lo) * M + (Dj - lo) * M := by
      rw [← Nat.add_mul, ← f1]
      congr 1
      omega
    rw [h2, show (pre * b + lo) * M + (Dj - lo) * M - 1 = ((pre * b + lo) * M - 1) + (Dj - lo) * M by omega, cntS_add, show 1 + ((pre * b + lo) * M - 1) = (pre * b + lo) * M by omega]
theorem memS_list (lo : Nat) : ∀ k, (((List.range' lo k).map fun d => ((mem d : Nat) : Int))).sum = (memS mem lo k : Nat)
  | 0 => rfl
  | k + 1 => by
    rw [List.range'_concat, List.map_append, List.sum_append, memS_list lo k]
    show _ = ((memS mem lo k + mem (lo + k) : Nat) : Int)
    simp
end K74

set_option Elab.async false
set_option linter.all false
/-! Shares that do not occur; rows of 0 and 1. -/
namespace K74
open PySem PySem.Spec PyProof.Rows L2 G
variable {b i : Nat} {mem : Nat → Nat}
theorem rw_mono (hb : 2 ≤ b) {m n : Nat} (h : m ≤ n) : (rw' b m).length ≤ (rw' b n).length := by
  rcases Nat.eq_zero_or_pos m with q | q
  · subst q
    rw [rw_zero]
    simp
  · obtain ⟨k, e1, g1, g2⟩ := rw_bounds hb m q
    obtain ⟨l, e2, g3, g4⟩ := rw_bounds hb n (by omega)
    rw [e1, e2]
    by_cases c : k < l + 1
    · omega
    · have : b ^ (l + 1) ≤ b ^ k := Nat.pow_le_pow_right (by omega) (by omega)
      omega
theorem cntS_none (s f : Nat) : ∀ k, (∀ j, j < k → shr b mem (f + j) ≠ s) → cntS b mem s f k = 0
  | 0, _ => rfl
  | k + 1, h => by
    show cntS b mem s f k + (if shr b mem (f + k) = s then 1 else 0) = 0
    rw [cntS_none s f k fun j hj => h j (by omega), if_neg (h k (by omega))]
theorem cntS_big (hm : ∀ d, mem d ≤ 1) (hb : 2 ≤ b) {s n : Nat} (h : (rw' b n).length < s) : cntS b mem s 1 n = 0 := by
  refine cntS_none s 1 n fun j hj e => ?_
  have h1 := shr_len (b := b) hm (1 + j)
  have h2 := rw_mono hb (m := 1 + j) (n := n) (by omega)
  omega
theorem cntS_le (s f : Nat) : ∀ k, cntS b mem s f k ≤ k
  | 0 => Nat.le_refl _
  | k + 1 => by
    have := cntS_le s f k
    show cntS b mem s f k + (if shr b mem (f + k) = s then 1 else 0) ≤ k + 1
    split <;> omega
end K74

set_option Elab.async false
set_option linter.all false
/-! All shares together; a set and the signs outside it. -/
namespace K74
open PySem PySem.Spec PyProof.Rows L2 G
variable {b i : Nat} {mem mem' : Nat → Nat}
theorem sum_one (m t : Nat) (c : Nat → Nat) : ((List.range m).map fun s => c s * if t = s then 1 else 0).sum = if t < m then c t else 0 := by
  induction m with
  | zero => rfl
  | succ m ih =>
    rw [List.range_succ, List.map_append, List.sum_append, ih]
    simp only [List.map_cons, List.map_nil, List.sum_cons, List.sum_nil]
    by_cases e : t = m
    · subst e
      rw [if_neg (by omega), if_pos rfl, if_pos (by omega)]
      omega
    · rw [if_neg e]
      by_cases h : t < m
      · rw [if_pos h, if_pos (by omega)]
        omega
      · rw [if_neg h, if_neg (by omega)]
        omega
theorem sum_add (m : Nat) (f g : Nat → Nat) : ((List.range m).map fun s => f s + g s).sum = ((List.range m).map f).sum + ((List.range m).map g).sum := by
  induction m with
  | zero => rfl
  | succ m ih =>
    rw [List.range_succ, List.map_append, List.map_append, List.map_append, List.sum_append, List.sum_append, List.sum_append, ih]
    simp only [List.map_cons, List.map_nil, List.sum_cons, List.sum_nil]
    omega
/-- the sum of the shares of k numbers -/
def shS (b : Nat) (mem : Nat → Nat) (f : Nat) : Nat → Nat
  | 0 => 0
  | k + 1 => shS b mem f k + shr b mem (f + k)
theorem sum_zero (m : Nat) : ∀ c : Nat → Nat, (∀ s, c s = 0) → ((List.range m).map c).sum = 0 := by
  intro c h
  induction m with
  | zero => rfl
  | succ m ih =>
    rw [List.range_succ, List.map_append, List.sum_append, ih]
    simp [h]
theorem cnt_weigh (c : Nat → Nat) (m f : Nat) : ∀ k, (∀ j, j < k → shr b mem (f + j) < m) → ((List.range m).map fun s => c s * cntS b mem s f (k + 1)).sum = ((List.range m).map fun s => c s * cntS b mem s f k).sum + (if shr b mem (f + k) < m then c (shr b mem (f + k)) else 0) := by
  intro k _
  have e : (fun s => c s * cntS b mem s f (k + 1)) = fun s => c s * cntS b mem s f k + c s * if shr b mem (f + k) = s then 1 else 0 := by
    funext s
    rw [← Nat.mul_add]
    rfl
  rw [e, sum_add, sum_one]
theorem cnt_all (m f : Nat) : ∀ k, (∀ j, j < k → shr b mem (f + j) < m) → ((List.range m).map fun s => cntS b mem s f k).sum = k
  | 0, _ => sum_zero m _ fun _ => rfl
  | k + 1, h => by
    have h1 := cnt_weigh (b := b) (mem := mem) (fun _ => 1) m f k fun j hj => h j (by omega)
    simp only [Nat.one_mul] at h1
    rw [h1, cnt_all m f k fun j hj => h j (by omega), if_pos (h k (by omega))]
theorem cnt_shares (m f : Nat) : ∀ k, (∀ j, j < k → shr b mem (f + j) < m) → ((List.range m).map fun s => s * cntS b mem s f k).sum = shS b mem f k
  | 0, _ => sum_zero m _ fun _ => Nat.mul_zero _
  | k + 1, h => by
    rw [cnt_weigh (fun s => s) m f k fun j hj => h j (by omega), cnt_shares m f k fun j hj => h j (by omega), if_pos (h k (by omega))]
    rfl
theorem count_mem (b : Nat) : ∀ l : List Nat, (∀ x ∈ l, x < b) → ((List.range b).map fun d => mem d * l.count d).sum = (l.map mem).sum
  | [], _ => by
    rw [sum_zero b _ fun d => by simp]
    rfl
  | a :: l, h => by
    have ih := count_mem b l fun x hx => h x (List.mem_cons_of_mem _ hx)
    have e : (fun d => mem d * (a :: l).count d) = fun d => mem d * l.count d + mem d * if a = d then 1 else 0 := by
      funext d
      rw [List.count_cons, ← Nat.mul_add]
      congr 2
      by_cases q : a = d
      · simp [q]
      · simp [q]
    rw [e, sum_add, ih, sum_one, if_pos (h a List.mem_cons_self), List.map_cons, List.sum_cons]
    omega
theorem tally_shares (hb : 2 ≤ b) (f : Nat) : ∀ k, ((List.range b).map fun d => mem d * tallyD b d f k).sum = shS b mem f k
  | 0 => sum_zero b _ fun _ => Nat.mul_zero _
  | k + 1 => by
    have e : (fun d => mem d * tallyD b d f (k + 1)) = fun d => mem d * tallyD b d f k + mem d * (rw' b (f + k)).count d := by
      funext d
      rw [← Nat.mul_add]
      rfl
    rw [e, sum_add, tally_shares hb f k, count_mem b _ (rw_lt hb)]
    rfl
theorem cnt_turn (T f : Nat) {s : Nat} (hs : s ≤ T) : ∀ k, (∀ j, j < k → shr b mem (f + j) + shr b mem' (f + j) = T) → cntS b mem s f k = cntS b mem' (T - s) f k
  | 0, _ => rfl
  | k + 1, h => by
    have ih := cnt_turn T f hs k fun j hj => h j (by omega)
    have hk := h k (by omega)
    show cntS b mem s f k + (if shr b mem (f + k) = s then 1 else 0) = cntS b mem' (T - s) f k + (if shr b mem' (f + k) = T - s then 1 else 0)
    rw [ih]
    by_cases c : shr b mem (f + k) = s
    · rw [if_pos c, if_pos (by omega)]
    · rw [if_neg c, if_neg (by omega)]
theorem shr_both (h : ∀ d, d < b → mem d + mem' d = 1) (hb : 2 ≤ b) (m : Nat) : shr b mem m + shr b mem' m = (rw' b m).length := by
  have key : ∀ l : List Nat, (∀ x ∈ l, x < b) → (l.map mem).sum + (l.map mem').sum = l.length := by
    intro l
    induction l with
    | nil => intro _; rfl
    | cons a l ih =>
      intro hl
      have h1 := ih fun x hx => hl x (List.mem_cons_of_mem _ hx)
      have h2 := h a (hl a List.mem_cons_self)
      rw [List.map_cons, List.map_cons, List.sum_cons, List.sum_cons, List.length_cons]
      omega
  exact key _ (rw_lt hb)
/-- numbers of one length: the counts of a set and of the signs outside it are turned -/
theorem cnt_length (h : ∀ d, d < b → mem d + mem' d = 1) (hb : 2 ≤ b) (l : Nat) {s : Nat} (hs : s ≤ l + 1) :
    cntS b mem s 1 (b ^ (l + 1) - 1) + cntS b mem' (l + 1 - s) 1 (b ^ l - 1) = cntS b mem' (l + 1 - s) 1 (b ^ (l + 1) - 1) + cntS b mem s 1 (b ^ l - 1) := by
  have hp : 1 ≤ b ^ l := Nat.pow_pos (by omega)
  have hp2 : b ^ l ≤ b ^ (l + 1) := Nat.pow_le_pow_right (by omega) (by omega)
  obtain ⟨k, hk⟩ : ∃ k, b ^ (l + 1) = b ^ l + k := ⟨b ^ (l + 1) - b ^ l, by omega⟩
  have e : b ^ (l + 1) - 1 = (b ^ l - 1) + k := by omega
  have t := cnt_turn (b := b) (mem := mem) (mem' := mem') (l + 1) (b ^ l) hs k fun j hj => by
    rw [shr_both h hb, rw_len hb l (b ^ l + j) (by omega) (by omega)]
  rw [e, cntS_add, cntS_add, show 1 + (b ^ l - 1) = b ^ l by omega, t]
  omega
end K74

set_option Elab.async false
set_option linter.all false
set_option maxRecDepth 100000
set_option maxHeartbeats 4000000
namespace K74
open PySem PySem.Spec PyProof.Rows L2 G
theorem sql_sub {K : PySem.W.Frag} {H H' : Hp} {a : Addr} {xs : List V} (s : Sub H H') (h : SqL K H a xs) : SqL K H' a xs := by
  rcases h with (h | ⟨o, h⟩) | h
  · exact .inl (.inl (s.get h))
  · exact .inl (.inr ⟨o, s.get h⟩)
  · exact .inr h
theorem cut_to {xs : List V} {n : Nat} : cutV xs none (some n) = xs.take n := by
  unfold cutV
  rw [HT.sIx_none, HT.sIx_nat, List.drop_zero, Nat.sub_zero, List.take_eq_take_min (i := n)]
section
variable {P : Program} {w : World} {K : PySem.W.Frag} {mg : Str → Option Value} {base : Heap}
/-- a pen's dict -/
def penV (c : Addr) (u l : Int) : List (Key × V) := [(.inr "cells", .ref c), (.inr "used", .int u), (.inr "left", .int l)]
/-- a pen that has drawn at most n cells -/
def PenAt (H : Hp) (d c : Addr) (n : Nat) : Prop := ∃ (cs : List Int) (u l : Int), H d = some (.dK (penV c u l)) ∧ H c = some (.lst (cs.map V.int)) ∧ cs.length ≤ 63 ∧ 0 ≤ u ∧ u ≤ n ∧ 0 ≤ l
theorem PenAt.sub {H H' : Hp} {d c : Addr} {n : Nat} (s : Sub H H') (h : PenAt H d c n) : PenAt H' d c n := by
  obtain ⟨cs, u, l, h1, h2, h3⟩ := h
  exact ⟨cs, u, l, s.get h1, s.get h2, h3⟩
theorem PenAt.mono {H : Hp} {d c : Addr} {n m : Nat} (e : n ≤ m) (h : PenAt H d c n) : PenAt H d c m := by
  obtain ⟨cs, u, l, h1, h2, h3, h4, h5, h6⟩ := h
  exact ⟨cs, u, l, h1, h2, h3, h4, by omega, h6⟩
theorem PenAt.keep {H H' : Hp} {d c : Addr} {n : Nat} (h : PenAt H d c n) (e1 : H' d = H d) (e2 : H' c = H c) : PenAt H' d c n := by
  unfold PenAt at h ⊢
  rw [e1, e2]
  exact h
def sp__law_pen (K : PySem.W.Frag) : Sp := fun vs H Q _ => ∃ (a : Addr) (ns : List Int), vs = [.ref a] ∧ SqL K H a (ns.map V.int) ∧ ∀ d c H', H d = none → Sub H H' → PenAt H' d c 0 → Q (.ref d) H'
theorem ok__law_pen (T : Txt K mg) : FnOk P w K mg base CX0 1 (He.ga K "_law_pen") T.fd__law_pen ["_law_script"] (sp__law_pen K) := by
  refine FunD.ok T.F__law_pen sc__law_pen (fun vs H Q E h => ?_) fun cdv A outer s H vs Q E hr h => ⟨_, PSs.nox (pss_one (ps_ret (pe_disp (pps_cons pe_str (pe_callTy (call_listU rfl) rfl T.f_list boot_list (pa_cons (pe_slice sl_list (pv 0) po_none (po_some pe_int)) pa_nil)) (pps_cons pe_str pe_int (pps_cons pe_str pe_int pps_nil))) rfl rfl (by decide) (by decide)))), ?_⟩
  · obtain ⟨a, ns, rfl, _⟩ := h
    rfl
  · obtain ⟨a, ns, rfl, ha, q⟩ := h
    simp [tRet, tRetN, tDrop, tAsg, gName, tSeq, tNext, tIfS, tAndV, tOrV, tNotV, tAnd, tOr, tNot, tB, tTest, tVar, tC, tOp, tUn, tCons, tNil, tTup, tLst, tCB, tBM, tBM0, tM1, tM0, tCall, tMeth, tMake, tFldU, sFldU, tChain, tIf, tPar, tPar3, tAug, tDisp, tPairs, tDGet2, sDPut, rIsiU, rIsiTU, rLenU, rIxU, rInU, rNilU, rEqU, rNeU, rEq, rNe, rMax2U, rMin2U, rInt1U, rAbsU, scal, rAddU, rMulU, rI0, rI, rU, rListU, rTupU, rSumU, rAllU, rAnyU, rDictU, rSlU, tSl, tPart, tNoPart, rAppend, rExtend, rPop, rPopAt, rJoinU, rRepr, tSumVals, tyN_non, tyN_bl, tyN_int, tyN_str, tyN_ref, tyO_lst, tyO_tup, tyO_dK, tyO_flst, tyO_ftup, tyO_fdK, and_assoc, tyList, isT, tyAsk, lk_none, lk_frz, lk_lst, lk_tup, lk_dK, lk_ins, kV_str, kV_int, kV_kV, L2.start, E0, tForZ, zList, zTup, zStr, zRng1, zRng2, zEnumS, zEnumL, zKeys, zVals, zItems, tAugS, rGetL, rSetL, ipI, tyN_new, upd_same, tLcV, tDcZ, tYes, wipe, tLcZ, tScZ, cxOf, RVal, RTup, gTupU, gCons, gNil, tProp, tDGetU, sDPutU, rLenO, rDEqU, tBML, tBML0, tConU, tDNewK, rIsiO]
    intro p hp
    refine ⟨a, _, rfl, sql_sub (Sub.new hp) ha, fun p1 hp1 => Or.inr (Or.inl ⟨p1, rfl, _, by rw [upd_same]; rfl, fun p2 hp2 => ?_⟩)⟩
    have n1 : p1 ≠ p := fun e => by rw [e, upd_same] at hp1; cases hp1
    have n2 : p2 ≠ p1 := fun e => by rw [e, upd_same] at hp2; cases hp2
    have n3 : p2 ≠ p := fun e => by rw [e, upd_ne n1.symm, upd_same] at hp2; cases hp2
    have f1 : H p1 = none := by rw [upd_ne n1] at hp1; exact hp1
    have f2 : H p2 = none := by rw [upd_ne n2, upd_ne n3] at hp2; exact hp2
    refine ⟨by rw [upd_ne n3.symm, upd_ne n1.symm, upd_same], [(.inr "cells", .ref p2), (.inr "used", .int 0), (.inr "left", .int 0)], rfl, by simp, ?_⟩
    refine q p p2 _ hp (sub_upd (sub_upd (sub_upd (Sub.new hp) f1) f2) hp) ⟨ns.take 63, 0, 0, ?_, ?_, by rw [List.length_take]; omega, by omega, by omega, by omega⟩
    · rw [upd_same]
      rfl
    · rw [upd_ne n3, upd_same, show ((63 : Int)) = ((63 : Nat) : Int) from rfl, cut_to, List.map_take]
theorem upd_upd {H : Hp} {d : Addr} {o o2 : HO} : upd (upd H d o) d o2 = upd H d o2 := by
  funext a
  by_cases e : a = d
  · rw [e, upd_same, upd_same]
  · rw [upd_ne e, upd_ne e, upd_ne e]
/-- a draw of n levels -/
def spd : Nat → Sp
  | 0 => fun _ _ _ _ => False
  | n + 1 => fun vs H Q _ => ∃ d c N, ∃ many : Nat, vs = [.ref d, .int many] ∧ PenAt H d c N ∧ N + n ≤ 10 ^ 6 ∧ 1 ≤ many ∧ many ≤ 60000000 * 50000000 ^ n ∧ many ≤ 10 ^ 60 ∧ ∀ (i : Nat) H', i < many → SubX d H H' → PenAt H' d c (N + n + 1) → Q (.int i) H'
theorem pen_cells {c : Addr} {u l : Int} : valV (penV c u l) (.inr "cells") = some (.ref c) := rfl
theorem pen_used {c : Addr} {u l : Int} : valV (penV c u l) (.inr "used") = some (.int u) := rfl
theorem pen_left {c : Addr} {u l : Int} : valV (penV c u l) (.inr "left") = some (.int l) := rfl
theorem pen_put_used {c : Addr} {u l u' : Int} : putK (penV c u l) (.inr "used") (.int u') = penV c u' l := rfl
theorem pen_put_left {c : Addr} {u l l' : Int} : putK (penV c u l) (.inr "left") (.int l') = penV c u l' := rfl
theorem ixD {H : Hp} {d : Addr} {kvs : List (Key × V)} {k : Str} {v : V} {Q : VK} (h : H d = some (.dK kvs)) (e : valV kvs (.inr k) = some v) (q : Q v H) : rIxU (.ref d) (.str k) H Q :=
  Or.inr (Or.inr (Or.inr ⟨d, kvs, .inr k, v, rfl, rfl, by rw [h]; rfl, e, q⟩))
theorem draw_step (T : Txt K mg) (n : Nat) (ih : FnOk P w K mg base CX0 (n + 1) (He.ga K "_law_draw") T.fd__law_draw ["_law_pen_here", "_law_many"] (spd n)) : FnOk P w K mg base CX0 (n+2) (He.ga K "_law_draw") T.fd__law_draw ["_law_pen_here", "_law_many"] (spd (n + 1)) := by
  refine FunD.ok T.F__law_draw sc__law_draw (fun vs H Q E h => ?_) fun cdv A outer s H vs Q E hr h => ⟨_, PSs.nox (pss_cutG (ps_if (pt_cmpR op_gt (pe_ix (ix_U (hu_of hr)) (pv 0) pe_str (fun _ _ => rfl)) pe_int (nomark _)) (pss_cons (ps_set (i := 2) sc__law_draw.nd rfl (by first | exact Or.inl rfl | exact Or.inr rfl) (pe_op op_mod (pe_callTy call_int1U rfl T.f_int boot_int (pa_cons (pe_ix (ix_U (hu_of hr)) (pv 0) pe_str (fun _ _ => rfl)) pa_nil)) (pv 1)))
      (pss_cons (ps_dputU (hu_of hr) (pv 0) pe_str (pe_op op_fdivW (pe_ix (ix_U (hu_of hr)) (pv 0) pe_str (fun _ _ => rfl)) (pv 1)) rfl)
      (pss_one (ps_ret (pv 2))))) pss_nil)
      (pss_cutG (ps_set (i := 3) sc__law_draw.nd rfl (by first | exact Or.inl rfl | exact Or.inr rfl) (pe_ix (ix_U (hu_of hr)) (pv 0) pe_str (fun _ _ => rfl)))
      (pss_cutG (ps_dputU (hu_of hr) (pv 0) pe_str (pe_op op_addU (pv 3) pe_int) rfl)
      (pss_cutG (ps_set (i := 4) sc__law_draw.nd rfl (by first | exact Or.inl rfl | exact Or.inr rfl) (pe_op op_addU (pe_op op_mulU pe_int (pv 3)) pe_int))
      (pss_cutG (ps_if (pt_cmpR (op_neU (hu0 hr)) (pe_ix (ix_U (hu_of hr)) (pv 0) pe_str (fun _ _ => rfl)) (pe_lst pa_nil) (nomark _)) (pss_one (ps_set (i := 4) sc__law_draw.nd rfl (by first | exact Or.inl rfl | exact Or.inr rfl) (pe_ix (ix_U (hu_of hr)) (pe_ix (ix_U (hu_of hr)) (pv 0) pe_str (fun _ _ => rfl)) (pe_op op_mod (pe_callTy call_int1U rfl T.f_int boot_int (pa_cons (pv 3) pa_nil)) (pe_callB call_lenU rfl T.f_len boot_len (pa_cons (pe_ix (ix_U (hu_of hr)) (pv 0) pe_str (fun _ _ => rfl)) pa_nil))) (fun _ _ => rfl)))) pss_nil)
      (pss_cutG (ps_if (PW.pt (pw_and (pt_cmpR op_lt (pv 3) (pe_callB call_lenU rfl T.f_len boot_len (pa_cons (pe_ix (ix_U (hu_of hr)) (pv 0) pe_str (fun _ _ => rfl)) pa_nil)) (nomark _)) (pw_and1 (pt_cmpR op_ge (pe_callB call_absU rfl T.f_abs boot_abs (pa_cons (pv 4) pa_nil)) (pe_op op_pow pe_int pe_int) (nomark _))))) (pss_cons (ps_dputU (hu_of hr) (pv 0) pe_str (pe_op op_fdivW (pe_op op_sub (pe_callB call_absU rfl T.f_abs boot_abs (pa_cons (pv 4) pa_nil)) (pe_op op_pow pe_int pe_int)) (pv 1)) rfl)
      (pss_one (ps_ret (pe_op op_mod (pe_op op_sub (pe_callB call_absU rfl T.f_abs boot_abs (pa_cons (pv 4) pa_nil)) (pe_op op_pow pe_int pe_int)) (pv 1))))) pss_nil)
      (pss_cutG (ps_set (i := 5) sc__law_draw.nd rfl (by first | exact Or.inl rfl | exact Or.inr rfl) (pe_op op_addU (pe_op op_mulU (pe_op op_mod (pe_callTy call_int1U rfl T.f_int boot_int (pa_cons (pv 4) pa_nil)) pe_int) pe_int) (pe_op op_mulU (pe_op op_mulU pe_int (pv 3)) (pv 3))))
      (pss_cutG (ps_set (i := 5) sc__law_draw.nd rfl (by first | exact Or.inl rfl | exact Or.inr rfl) (pe_op op_mod (pe_callTy call_int1U rfl T.f_int boot_int (pa_cons (pe_op op_addU (pe_op op_addU (pv 5) (pe_op op_mulU pe_int (pv 3))) pe_int) pa_nil)) pe_int))
      (pss_cutG (ps_set (i := 5) sc__law_draw.nd rfl (by first | exact Or.inl rfl | exact Or.inr rfl) (pe_op op_mod (pe_callTy call_int1U rfl T.f_int boot_int (pa_cons (pe_op op_addU (pe_op op_addU (pe_op op_addU (pe_op op_mulU (pv 5) (pv 5)) (pe_op op_mulU pe_int (pv 5))) (pe_op op_mulU pe_int (pv 3))) pe_int) pa_nil)) pe_int))
      (pss_cutG (ps_set (i := 5) sc__law_draw.nd rfl (by first | exact Or.inl rfl | exact Or.inr rfl) (pe_op op_fdivW (pe_op op_mod (pe_callTy call_int1U rfl T.f_int boot_int (pa_cons (pe_op op_mulU (pv 5) (pe_op op_addU (pv 5) pe_int)) pa_nil)) pe_int) pe_int))
      (pss_cons (ps_if (pt_cmpR op_gt (pv 1) pe_int (nomark _)) (pss_one (ps_set (i := 5) sc__law_draw.nd rfl (by first | exact Or.inl rfl | exact Or.inr rfl) (pe_op op_addU (pv 5) (pe_op op_mulU pe_int (pe_call ih (hr.mono (by omega)) rfl T.g__law_draw T.F__law_draw.kp (b__law_draw T) .nil pass0 (pa_cons (pv 0) (pa_cons (pe_op op_addU (pe_op op_fdivW (pv 1) pe_int) pe_int) pa_nil))))))) pss_nil)
      (pss_one (ps_ret (pe_op op_mod (pe_callTy call_int1U rfl T.f_int boot_int (pa_cons (pv 5) pa_nil)) (pv 1))))))))))))))), ?_⟩
  · obtain ⟨d, c, N, many, rfl, _⟩ := h
    rfl
  · obtain ⟨d, c, N, many, rfl, ⟨cs, u, l, hd, hc, hcs, hu, hun, hl⟩, hN, h1, h2, h2b, q⟩ := h
    have hm0 : (0 : Int) < many := by omega
    have hbig : (many : Int).natAbs < 2 ^ 4000 := few40 (by omega) (by omega)
    have hcd : c ≠ d := fun e => by rw [e, hd] at hc; cases hc
    have fin : ∀ (i : Int) H', 0 ≤ i → i < many → SubX d H H' → PenAt H' d c (N + n + 1) → Q (.int i) H' := fun i H' h3 h4 hs hp => by
      have := q i.toNat H' (by omega) hs hp
      rwa [Int.toNat_of_nonneg h3] at this
    have pen : ∀ (H' : Hp) (u' l' : Int), SubX d H H' → 0 ≤ u' → u' ≤ N + n + 1 → 0 ≤ l' → PenAt (upd H' d (.dK (penV c u' l'))) d c (N + n + 1) := fun H' u' l' hs e1 e2 e3 => ⟨cs, u', l', upd_same, by rw [upd_ne hcd, hs c hcd (by rw [hc]; nofun)]; exact hc, hcs, e1, by omega, e3⟩
    have up : ∀ (H' : Hp) o, SubX d H H' → SubX d H (upd H' d o) := fun H' o hs a ha hn => by rw [upd_ne ha, hs a ha hn]
    have rf : SubX d H H := fun _ _ _ => rfl
    show tCutG _ _ _ _ _
    refine ⟨fun (σ : L2.St) (H' : Hp) => H' = H ∧ l = 0 ∧ σ = [some (.ref d), some (.int many), none, none, none, none], ?_, ?_⟩
    · simp [tRet, tRetN, tDrop, tAsg, gName, tSeq, tNext, tIfS, tAndV, tOrV, tNotV, tAnd, tOr, tNot, tB, tTest, tVar, tC, tOp, tUn, tCons, tNil, tTup, tLst, tCB, tBM, tBM0, tM1, tM0, tCall, tMeth, tMake, tFldU, sFldU, tChain, tIf, tPar, tPar3, tAug, tDisp, tPairs, tDGet2, sDPut, rIsiU, rIsiTU, rLenU, rIxU, rInU, rNilU, rEqU, rNeU, rEq, rNe, rMax2U, rMin2U, rInt1U, rAbsU, scal, rAddU, rMulU, rI0, rI, rU, rListU, rTupU, rSumU, rAllU, rAnyU, rDictU, rSlU, tSl, tPart, tNoPart, rAppend, rExtend, rPop, rPopAt, rJoinU, rRepr, tSumVals, tyN_non, tyN_bl, tyN_int, tyN_str, tyN_ref, tyO_lst, tyO_tup, tyO_dK, tyO_flst, tyO_ftup, tyO_fdK, and_assoc, tyList, isT, tyAsk, lk_none, lk_frz, lk_lst, lk_tup, lk_dK, lk_ins, kV_str, kV_int, kV_kV, L2.start, E0, tForZ, zList, zTup, zStr, zRng1, zRng2, zEnumS, zEnumL, zKeys, zVals, zItems, tAugS, rGetL, rSetL, ipI, tyN_new, upd_same, tLcV, tDcZ, tYes, wipe, tLcZ, tScZ, cxOf, RVal, RTup, gTupU, gCons, gNil, tProp, tDGetU, sDPutU, rLenO, rDEqU, tBML, tBML0, tConU, tDNewK, rIsiO, hd, pen_left]
      by_cases h0 : 0 < l
      · simp [h0]
        refine ⟨by omega, cdivw hm0 hbig, by simp [penV]; rw [sizeLine_eq]; omega, ?_⟩
        rw [pen_put_left]
        exact fin _ _ (Int.emod_nonneg _ (by omega)) (Int.emod_lt_of_pos _ hm0) (up _ _ rf) (pen _ u _ rf hu (by omega) (Int.ediv_nonneg hl (by omega)))
      · simp [h0]
        omega
    rintro σ H' ⟨eH, el, eσ⟩
    rw [eH, eσ]
    clear eH eσ H' σ
    subst el
    show tCutG _ _ _ _ _
    refine ⟨fun (σ : L2.St) (H2 : Hp) => H2 = H ∧ σ = [some (.ref d), some (.int many), none, some (.int u), none, none], ?_, ?_⟩
    · simp [tRet, tRetN, tDrop, tAsg, gName, tSeq, tNext, tIfS, tAndV, tOrV, tNotV, tAnd, tOr, tNot, tB, tTest, tVar, tC, tOp, tUn, tCons, tNil, tTup, tLst, tCB, tBM, tBM0, tM1, tM0, tCall, tMeth, tMake, tFldU, sFldU, tChain, tIf, tPar, tPar3, tAug, tDisp, tPairs, tDGet2, sDPut, rIsiU, rIsiTU, rLenU, rIxU, rInU, rNilU, rEqU, rNeU, rEq, rNe, rMax2U, rMin2U, rInt1U, rAbsU, scal, rAddU, rMulU, rI0, rI, rU, rListU, rTupU, rSumU, rAllU, rAnyU, rDictU, rSlU, tSl, tPart, tNoPart, rAppend, rExtend, rPop, rPopAt, rJoinU, rRepr, tSumVals, tyN_non, tyN_bl, tyN_int, tyN_str, tyN_ref, tyO_lst, tyO_tup, tyO_dK, tyO_flst, tyO_ftup, tyO_fdK, and_assoc, tyList, isT, tyAsk, lk_none, lk_frz, lk_lst, lk_tup, lk_dK, lk_ins, kV_str, kV_int, kV_kV, L2.start, E0, tForZ, zList, zTup, zStr, zRng1, zRng2, zEnumS, zEnumL, zKeys, zVals, zItems, tAugS, rGetL, rSetL, ipI, tyN_new, upd_same, tLcV, tDcZ, tYes, wipe, tLcZ, tScZ, cxOf, RVal, RTup, gTupU, gCons, gNil, tProp, tDGetU, sDPutU, rLenO, rDEqU, tBML, tBML0, tConU, tDNewK, rIsiO, hd, pen_used]
    rintro σ H' ⟨eH, eσ⟩
    rw [eH, eσ]
    clear eH eσ H' σ
    obtain ⟨H2, e2⟩ : ∃ H2, H2 = upd H d (.dK (penV c (u + 1) 0)) := ⟨_, rfl⟩
    have hd2 : H2 d = some (.dK (penV c (u + 1) 0)) := by rw [e2, upd_same]
    have hc2 : H2 c = some (.lst (cs.map V.int)) := by rw [e2, upd_ne hcd]; exact hc
    refine ⟨fun (σ : L2.St) (H3 : Hp) => H3 = H2 ∧ σ = [some (.ref d), some (.int many), none, some (.int u), none, none], ?_, ?_⟩
    · simp [tRet, tRetN, tDrop, tAsg, gName, tSeq, tNext, tIfS, tAndV, tOrV, tNotV, tAnd, tOr, tNot, tB, tTest, tVar, tC, tOp, tUn, tCons, tNil, tTup, tLst, tCB, tBM, tBM0, tM1, tM0, tCall, tMeth, tMake, tFldU, sFldU, tChain, tIf, tPar, tPar3, tAug, tDisp, tPairs, tDGet2, sDPut, rIsiU, rIsiTU, rLenU, rIxU, rInU, rNilU, rEqU, rNeU, rEq, rNe, rMax2U, rMin2U, rInt1U, rAbsU, scal, rAddU, rMulU, rI0, rI, rU, rListU, rTupU, rSumU, rAllU, rAnyU, rDictU, rSlU, tSl, tPart, tNoPart, rAppend, rExtend, rPop, rPopAt, rJoinU, rRepr, tSumVals, tyN_non, tyN_bl, tyN_int, tyN_str, tyN_ref, tyO_lst, tyO_tup, tyO_dK, tyO_flst, tyO_ftup, tyO_fdK, and_assoc, tyList, isT, tyAsk, lk_none, lk_frz, lk_lst, lk_tup, lk_dK, lk_ins, kV_str, kV_int, kV_kV, L2.start, E0, tForZ, zList, zTup, zStr, zRng1, zRng2, zEnumS, zEnumL, zKeys, zVals, zItems, tAugS, rGetL, rSetL, ipI, tyN_new, upd_same, tLcV, tDcZ, tYes, wipe, tLcZ, tScZ, cxOf, RVal, RTup, gTupU, gCons, gNil, tProp, tDGetU, sDPutU, rLenO, rDEqU, tBML, tBML0, tConU, tDNewK, rIsiO, hd]
      exact ⟨by simp [penV]; rw [sizeLine_eq]; omega, by rw [e2, pen_put_used]⟩
    rintro σ H' ⟨eH, eσ⟩
    rw [eH, eσ]
    clear eH eσ H' σ
    have hs2 : SubX d H H2 := by rw [e2]; exact up _ _ rf
    clear e2
    have hu6 : u ≤ 10 ^ 6 := by omega
    have huu : 40009 * u * u ≤ 40009 * 10 ^ 6 * 10 ^ 6 := Int.mul_le_mul (by omega) hu6 hu (by omega)
    have huu0 : 0 ≤ 40009 * u * u := Int.mul_nonneg (by omega) hu
    refine ⟨fun (σ : L2.St) (H4 : Hp) => H4 = H2 ∧ σ = [some (.ref d), some (.int many), none, some (.int u), some (.int (37 * u + 11)), none], ?_, ?_⟩
    · simp [tRet, tRetN, tDrop, tAsg, gName, tSeq, tNext, tIfS, tAndV, tOrV, tNotV, tAnd, tOr, tNot, tB, tTest, tVar, tC, tOp, tUn, tCons, tNil, tTup, tLst, tCB, tBM, tBM0, tM1, tM0, tCall, tMeth, tMake, tFldU, sFldU, tChain, tIf, tPar, tPar3, tAug, tDisp, tPairs, tDGet2, sDPut, rIsiU, rIsiTU, rLenU, rIxU, rInU, rNilU, rEqU, rNeU, rEq, rNe, rMax2U, rMin2U, rInt1U, rAbsU, scal, rAddU, rMulU, rI0, rI, rU, rListU, rTupU, rSumU, rAllU, rAnyU, rDictU, rSlU, tSl, tPart, tNoPart, rAppend, rExtend, rPop, rPopAt, rJoinU, rRepr, tSumVals, tyN_non, tyN_bl, tyN_int, tyN_str, tyN_ref, tyO_lst, tyO_tup, tyO_dK, tyO_flst, tyO_ftup, tyO_fdK, and_assoc, tyList, isT, tyAsk, lk_none, lk_frz, lk_lst, lk_tup, lk_dK, lk_ins, kV_str, kV_int, kV_kV, L2.start, E0, tForZ, zList, zTup, zStr, zRng1, zRng2, zEnumS, zEnumL, zKeys, zVals, zItems, tAugS, rGetL, rSetL, ipI, tyN_new, upd_same, tLcV, tDcZ, tYes, wipe, tLcZ, tScZ, cxOf, RVal, RTup, gTupU, gCons, gNil, tProp, tDGetU, sDPutU, rLenO, rDEqU, tBML, tBML0, tConU, tDNewK, rIsiO]
      exact cmul (few40 (by omega) (by omega)) (few40 (by omega) (by omega))
    rintro σ H' ⟨eH, eσ⟩
    rw [eH, eσ]
    clear eH eσ H' σ
    refine ⟨fun (σ : L2.St) (H5 : Hp) => (SubX d H H5 ∧ H5 d = some (.dK (penV c (u + 1) 0)) ∧ H5 c = some (.lst (cs.map V.int))) ∧ ∃ cell : Int, σ = [some (.ref d), some (.int many), none, some (.int u), some (.int cell), none], ?_, ?_⟩
    · simp [tIfS, tTest, tB, tOp, tVar, tC, tLst, tNil, tCons, tAsg, gName, tCB, rI, rInt1U, tNext, scal, cxOf, sz1, sz2]
      refine ixD hd2 pen_cells fun p hp => ?_
      have hcp : c ≠ p := fun e => by rw [← e, hc2] at hp; cases hp
      have hdp : d ≠ p := fun e => by rw [← e, hd2] at hp; cases hp
      have hd3 : upd H2 p (.lst []) d = some (.dK (penV c (u + 1) 0)) := by rw [upd_ne hdp]; exact hd2
      have hc3 : upd H2 p (.lst []) c = some (.lst (cs.map V.int)) := by rw [upd_ne hcp]; exact hc2
      have hs3 : SubX d H (upd H2 p (.lst [])) := fun a ha hn => by
        have h1 := hs2 a ha hn
        rw [upd_ne (fun e => by rw [e] at h1 hn; rw [hp] at h1; exact hn h1.symm), h1]
      have hp3 : upd H2 p (.lst []) p = some (.lst []) := upd_same
      generalize upd H2 p (.lst []) = H3 at *
      refine Or.inr (Or.inl ⟨c, p, _, rfl, rfl, by rw [hc3]; rfl, by rw [hp3]; rfl, ?_⟩)
      by_cases h0 : cs = []
      · subst h0
        exact Or.inl ⟨rfl, hs3, hd3, hc3⟩
      · have hlen : 0 < cs.length := List.length_pos_iff.mpr h0
        obtain ⟨cell, hcell⟩ : ∃ cell, atI (cs.map V.int) (u % (cs.length : Int)) = some (.int cell) := by
          have h1 := Int.emod_nonneg u (show (cs.length : Int) ≠ 0 by omega)
          have h2 := Int.emod_lt_of_pos u (show (0 : Int) < cs.length by omega)
          obtain ⟨j, hj⟩ := Int.eq_ofNat_of_zero_le h1
          rw [hj] at h2 ⊢
          have hj2 : j < cs.length := by omega
          exact ⟨cs[j], atI_at (by simp [hj2])⟩
        have hne : cs.map V.int ≠ [] := by simpa using h0
        refine Or.inr ⟨by rw [decide_eq_false hne]; rfl, ixD hd3 pen_cells (ixD hd3 pen_cells ?_)⟩
        refine Or.inr (Or.inl ⟨c, _, rfl, by rw [hc3]; rfl, (cs.length : Int), by rw [List.length_map], by omega, ?_⟩)
        exact Or.inr (Or.inl ⟨c, _, _, _, rfl, rfl, by rw [hc3]; rfl, hcell, ⟨hs3, hd3, hc3⟩, cell, rfl⟩)
    rintro σ H' ⟨⟨hs5, hd5, hc5⟩, cell, eσ⟩
    rw [eσ]
    clear eσ σ hs2 hd2 hc2 H2
    have hs2 := hs5
    have hd2 := hd5
    have hc2 := hc5
    clear hs5 hd5 hc5
    obtain ⟨H2, eH2⟩ : ∃ H2, H2 = H' := ⟨_, rfl⟩
    rw [← eH2] at hs2 hd2 hc2 ⊢
    clear eH2 H'
    refine ⟨fun (σ : L2.St) (H6 : Hp) => H6 = H2 ∧ σ = [some (.ref d), some (.int many), none, some (.int u), some (.int cell), none], ?_, ?_⟩
    · simp [tRet, tRetN, tDrop, tAsg, gName, tSeq, tNext, tIfS, tAndV, tOrV, tNotV, tAnd, tOr, tNot, tB, tTest, tVar, tC, tOp, tUn, tCons, tNil, tTup, tLst, tCB, tBM, tBM0, tM1, tM0, tCall, tMeth, tMake, tFldU, sFldU, tChain, tIf, tPar, tPar3, tAug, tDisp, tPairs, tDGet2, sDPut, rIsiU, rIsiTU, rLenU, rIxU, rInU, rNilU, rEqU, rNeU, rEq, rNe, rMax2U, rMin2U, rInt1U, rAbsU, scal, rAddU, rMulU, rI0, rI, rU, rListU, rTupU, rSumU, rAllU, rAnyU, rDictU, rSlU, tSl, tPart, tNoPart, rAppend, rExtend, rPop, rPopAt, rJoinU, rRepr, tSumVals, tyN_non, tyN_bl, tyN_int, tyN_str, tyN_ref, tyO_lst, tyO_tup, tyO_dK, tyO_flst, tyO_ftup, tyO_fdK, and_assoc, tyList, isT, tyAsk, lk_none, lk_frz, lk_lst, lk_tup, lk_dK, lk_ins, kV_str, kV_int, kV_kV, L2.start, E0, tForZ, zList, zTup, zStr, zRng1, zRng2, zEnumS, zEnumL, zKeys, zVals, zItems, tAugS, rGetL, rSetL, ipI, tyN_new, upd_same, tLcV, tDcZ, tYes, wipe, tLcZ, tScZ, cxOf, RVal, RTup, gTupU, gCons, gNil, tProp, tDGetU, sDPutU, rLenO, rDEqU, tBML, tBML0, tConU, tDNewK, rIsiO, hd2, hc2, pen_cells]
      have hp : CPow 10 18 := by unfold CPow; decide
      refine Or.inl fun h3 => ⟨hp, fun h4 => ⟨hp, cdivw hm0 hbig, by simp [penV]; rw [sizeLine_eq]; omega, hp, by omega, ?_⟩⟩
      rw [pen_put_left]
      exact fin _ _ (Int.emod_nonneg _ (by omega)) (Int.emod_lt_of_pos _ hm0) (up _ _ hs2) (pen _ _ _ hs2 (by omega) (by omega) (Int.ediv_nonneg (by omega) (by omega)))
    rintro σ H' ⟨eH, eσ⟩
    rw [eH, eσ]
    clear eH eσ H' σ
    refine ⟨fun (σ : L2.St) (H7 : Hp) => H7 = H2 ∧ ∃ m : Int, 0 ≤ m ∧ m ≤ 10 ^ 30 ∧ σ = [some (.ref d), some (.int many), none, some (.int u), some (.int cell), some (.int m)], ?_, ?_⟩
    · simp [tRet, tRetN, tDrop, tAsg, gName, tSeq, tNext, tIfS, tAndV, tOrV, tNotV, tAnd, tOr, tNot, tB, tTest, tVar, tC, tOp, tUn, tCons, tNil, tTup, tLst, tCB, tBM, tBM0, tM1, tM0, tCall, tMeth, tMake, tFldU, sFldU, tChain, tIf, tPar, tPar3, tAug, tDisp, tPairs, tDGet2, sDPut, rIsiU, rIsiTU, rLenU, rIxU, rInU, rNilU, rEqU, rNeU, rEq, rNe, rMax2U, rMin2U, rInt1U, rAbsU, scal, rAddU, rMulU, rI0, rI, rU, rListU, rTupU, rSumU, rAllU, rAnyU, rDictU, rSlU, tSl, tPart, tNoPart, rAppend, rExtend, rPop, rPopAt, rJoinU, rRepr, tSumVals, tyN_non, tyN_bl, tyN_int, tyN_str, tyN_ref, tyO_lst, tyO_tup, tyO_dK, tyO_flst, tyO_ftup, tyO_fdK, and_assoc, tyList, isT, tyAsk, lk_none, lk_frz, lk_lst, lk_tup, lk_dK, lk_ins, kV_str, kV_int, kV_kV, L2.start, E0, tForZ, zList, zTup, zStr, zRng1, zRng2, zEnumS, zEnumL, zKeys, zVals, zItems, tAugS, rGetL, rSetL, ipI, tyN_new, upd_same, tLcV, tDcZ, tYes, wipe, tLcZ, tScZ, cxOf, RVal, RTup, gTupU, gCons, gNil, tProp, tDGetU, sDPutU, rLenO, rDEqU, tBML, tBML0, tConU, tDNewK, rIsiO]
      have h3 := Int.emod_nonneg cell (show (4294967231 : Int) ≠ 0 by omega)
      have h4 := Int.emod_lt_of_pos cell (show (0 : Int) < 4294967231 by omega)
      exact ⟨cmul (few40 (by omega) (by omega)) (few40 (by omega) (by omega)), cmul (few40 (by omega) (by omega)) (few40 (by omega) (by omega)), cmul (few40 (by omega) (by omega)) (few40 (by omega) (by omega)), by omega, by omega⟩
    rintro σ H' ⟨eH, m, hm1, hm2, eσ⟩
    rw [eH, eσ]
    clear eH eσ H' σ
    refine ⟨fun (σ : L2.St) (H8 : Hp) => H8 = H2 ∧ ∃ m : Int, 0 ≤ m ∧ m ≤ 10 ^ 10 ∧ σ = [some (.ref d), some (.int many), none, some (.int u), some (.int cell), some (.int m)], ?_, ?_⟩
    · simp [tRet, tRetN, tDrop, tAsg, gName, tSeq, tNext, tIfS, tAndV, tOrV, tNotV, tAnd, tOr, tNot, tB, tTest, tVar, tC, tOp, tUn, tCons, tNil, tTup, tLst, tCB, tBM, tBM0, tM1, tM0, tCall, tMeth, tMake, tFldU, sFldU, tChain, tIf, tPar, tPar3, tAug, tDisp, tPairs, tDGet2, sDPut, rIsiU, rIsiTU, rLenU, rIxU, rInU, rNilU, rEqU, rNeU, rEq, rNe, rMax2U, rMin2U, rInt1U, rAbsU, scal, rAddU, rMulU, rI0, rI, rU, rListU, rTupU, rSumU, rAllU, rAnyU, rDictU, rSlU, tSl, tPart, tNoPart, rAppend, rExtend, rPop, rPopAt, rJoinU, rRepr, tSumVals, tyN_non, tyN_bl, tyN_int, tyN_str, tyN_ref, tyO_lst, tyO_tup, tyO_dK, tyO_flst, tyO_ftup, tyO_fdK, and_assoc, tyList, isT, tyAsk, lk_none, lk_frz, lk_lst, lk_tup, lk_dK, lk_ins, kV_str, kV_int, kV_kV, L2.start, E0, tForZ, zList, zTup, zStr, zRng1, zRng2, zEnumS, zEnumL, zKeys, zVals, zItems, tAugS, rGetL, rSetL, ipI, tyN_new, upd_same, tLcV, tDcZ, tYes, wipe, tLcZ, tScZ, cxOf, RVal, RTup, gTupU, gCons, gNil, tProp, tDGetU, sDPutU, rLenO, rDEqU, tBML, tBML0, tConU, tDNewK, rIsiO]
      exact ⟨cmul (few40 (by omega) (by omega)) (few40 (by omega) (by omega)), by omega, by omega⟩
    clear hm1 hm2 m
    rintro σ H' ⟨eH, m, hm1, hm2, eσ⟩
    rw [eH, eσ]
    clear eH eσ H' σ
    refine ⟨fun (σ : L2.St) (H9 : Hp) => H9 = H2 ∧ ∃ m : Int, 0 ≤ m ∧ m ≤ 10 ^ 10 ∧ σ = [some (.ref d), some (.int many), none, some (.int u), some (.int cell), some (.int m)], ?_, ?_⟩
    · simp [tRet, tRetN, tDrop, tAsg, gName, tSeq, tNext, tIfS, tAndV, tOrV, tNotV, tAnd, tOr, tNot, tB, tTest, tVar, tC, tOp, tUn, tCons, tNil, tTup, tLst, tCB, tBM, tBM0, tM1, tM0, tCall, tMeth, tMake, tFldU, sFldU, tChain, tIf, tPar, tPar3, tAug, tDisp, tPairs, tDGet2, sDPut, rIsiU, rIsiTU, rLenU, rIxU, rInU, rNilU, rEqU, rNeU, rEq, rNe, rMax2U, rMin2U, rInt1U, rAbsU, scal, rAddU, rMulU, rI0, rI, rU, rListU, rTupU, rSumU, rAllU, rAnyU, rDictU, rSlU, tSl, tPart, tNoPart, rAppend, rExtend, rPop, rPopAt, rJoinU, rRepr, tSumVals, tyN_non, tyN_bl, tyN_int, tyN_str, tyN_ref, tyO_lst, tyO_tup, tyO_dK, tyO_flst, tyO_ftup, tyO_fdK, and_assoc, tyList, isT, tyAsk, lk_none, lk_frz, lk_lst, lk_tup, lk_dK, lk_ins, kV_str, kV_int, kV_kV, L2.start, E0, tForZ, zList, zTup, zStr, zRng1, zRng2, zEnumS, zEnumL, zKeys, zVals, zItems, tAugS, rGetL, rSetL, ipI, tyN_new, upd_same, tLcV, tDcZ, tYes, wipe, tLcZ, tScZ, cxOf, RVal, RTup, gTupU, gCons, gNil, tProp, tDGetU, sDPutU, rLenO, rDEqU, tBML, tBML0, tConU, tDNewK, rIsiO]
      exact ⟨cmul (few40 (by omega) (by omega)) (few40 (by omega) (by omega)), cmul (few40 (by omega) (by omega)) (few40 (by omega) (by omega)), cmul (few40 (by omega) (by omega)) (few40 (by omega) (by omega)), by omega, by omega⟩
    clear hm1 hm2 m
    rintro σ H' ⟨eH, m, hm1, hm2, eσ⟩
    rw [eH, eσ]
    clear eH eσ H' σ
    refine ⟨fun (σ : L2.St) (H10 : Hp) => H10 = H2 ∧ ∃ m : Int, 0 ≤ m ∧ m ≤ 10 ^ 10 ∧ σ = [some (.ref d), some (.int many), none, some (.int u), some (.int cell), some (.int m)], ?_, ?_⟩
    · simp [tRet, tRetN, tDrop, tAsg, gName, tSeq, tNext, tIfS, tAndV, tOrV, tNotV, tAnd, tOr, tNot, tB, tTest, tVar, tC, tOp, tUn, tCons, tNil, tTup, tLst, tCB, tBM, tBM0, tM1, tM0, tCall, tMeth, tMake, tFldU, sFldU, tChain, tIf, tPar, tPar3, tAug, tDisp, tPairs, tDGet2, sDPut, rIsiU, rIsiTU, rLenU, rIxU, rInU, rNilU, rEqU, rNeU, rEq, rNe, rMax2U, rMin2U, rInt1U, rAbsU, scal, rAddU, rMulU, rI0, rI, rU, rListU, rTupU, rSumU, rAllU, rAnyU, rDictU, rSlU, tSl, tPart, tNoPart, rAppend, rExtend, rPop, rPopAt, rJoinU, rRepr, tSumVals, tyN_non, tyN_bl, tyN_int, tyN_str, tyN_ref, tyO_lst, tyO_tup, tyO_dK, tyO_flst, tyO_ftup, tyO_fdK, and_assoc, tyList, isT, tyAsk, lk_none, lk_frz, lk_lst, lk_tup, lk_dK, lk_ins, kV_str, kV_int, kV_kV, L2.start, E0, tForZ, zList, zTup, zStr, zRng1, zRng2, zEnumS, zEnumL, zKeys, zVals, zItems, tAugS, rGetL, rSetL, ipI, tyN_new, upd_same, tLcV, tDcZ, tYes, wipe, tLcZ, tScZ, cxOf, RVal, RTup, gTupU, gCons, gNil, tProp, tDGetU, sDPutU, rLenO, rDEqU, tBML, tBML0, tConU, tDNewK, rIsiO]
      exact ⟨cmul (few40 (by omega) (by omega)) (few40 (by omega) (by omega)), cdivw (by decide) (by decide), by omega, by omega⟩
    clear hm1 hm2 m
    rintro σ H' ⟨eH, m, hm1, hm2, eσ⟩
    rw [eH, eσ]
    clear eH eσ H' σ
    have pen2 : PenAt H2 d c (N + 1) := ⟨cs, u + 1, 0, hd2, hc2, hcs, by omega, by omega, by omega⟩
    by_cases hb : (60000000 : Int) < many
    · cases n with
      | zero => omega
      | succ n =>
        simp [tRet, tRetN, tDrop, tAsg, gName, tSeq, tNext, tIfS, tAndV, tOrV, tNotV, tAnd, tOr, tNot, tB, tTest, tVar, tC, tOp, tUn, tCons, tNil, tTup, tLst, tCB, tBM, tBM0, tM1, tM0, tCall, tMeth, tMake, tFldU, sFldU, tChain, tIf, tPar, tPar3, tAug, tDisp, tPairs, tDGet2, sDPut, rIsiU, rIsiTU, rLenU, rIxU, rInU, rNilU, rEqU, rNeU, rEq, rNe, rMax2U, rMin2U, rInt1U, rAbsU, scal, rAddU, rMulU, rI0, rI, rU, rListU, rTupU, rSumU, rAllU, rAnyU, rDictU, rSlU, tSl, tPart, tNoPart, rAppend, rExtend, rPop, rPopAt, rJoinU, rRepr, tSumVals, tyN_non, tyN_bl, tyN_int, tyN_str, tyN_ref, tyO_lst, tyO_tup, tyO_dK, tyO_flst, tyO_ftup, tyO_fdK, and_assoc, tyList, isT, tyAsk, lk_none, lk_frz, lk_lst, lk_tup, lk_dK, lk_ins, kV_str, kV_int, kV_kV, L2.start, E0, tForZ, zList, zTup, zStr, zRng1, zRng2, zEnumS, zEnumL, zKeys, zVals, zItems, tAugS, rGetL, rSetL, ipI, tyN_new, upd_same, tLcV, tDcZ, tYes, wipe, tLcZ, tScZ, cxOf, RVal, RTup, gTupU, gCons, gNil, tProp, tDGetU, sDPutU, rLenO, rDEqU, tBML, tBML0, tConU, tDNewK, rIsiO, hb, spd]
        have hdv : (many : Int) / 60000000 + 1 = ((many / 60000000 + 1 : Nat) : Int) := by omega
        have hpw : many / 60000000 ≤ 50000000 ^ (n + 1) := by
          rw [Nat.div_le_iff_le_mul_add_pred (by decide)]
          omega
        have hp1 : 0 < 50000000 ^ n := Nat.pow_pos (by decide)
        rw [Nat.pow_succ] at hpw
        refine ⟨cdivw (by decide) (by decide), c, N + 1, many / 60000000 + 1, hdv, pen2, by omega, by omega, by omega, by omega, fun i H3 hi hs3 hpen => ?_⟩
        refine ⟨cmul (few40 (by omega) (by omega)) (few40 (by omega) (by omega)), by omega, ?_⟩
        exact fin _ _ (Int.emod_nonneg _ (by omega)) (Int.emod_lt_of_pos _ hm0) (fun a ha hn => by rw [hs3 a ha (by rw [hs2 a ha hn]; exact hn), hs2 a ha hn]) (hpen.mono (by omega))
    · simp [tRet, tRetN, tDrop, tAsg, gName, tSeq, tNext, tIfS, tAndV, tOrV, tNotV, tAnd, tOr, tNot, tB, tTest, tVar, tC, tOp, tUn, tCons, tNil, tTup, tLst, tCB, tBM, tBM0, tM1, tM0, tCall, tMeth, tMake, tFldU, sFldU, tChain, tIf, tPar, tPar3, tAug, tDisp, tPairs, tDGet2, sDPut, rIsiU, rIsiTU, rLenU, rIxU, rInU, rNilU, rEqU, rNeU, rEq, rNe, rMax2U, rMin2U, rInt1U, rAbsU, scal, rAddU, rMulU, rI0, rI, rU, rListU, rTupU, rSumU, rAllU, rAnyU, rDictU, rSlU, tSl, tPart, tNoPart, rAppend, rExtend, rPop, rPopAt, rJoinU, rRepr, tSumVals, tyN_non, tyN_bl, tyN_int, tyN_str, tyN_ref, tyO_lst, tyO_tup, tyO_dK, tyO_flst, tyO_ftup, tyO_fdK, and_assoc, tyList, isT, tyAsk, lk_none, lk_frz, lk_lst, lk_tup, lk_dK, lk_ins, kV_str, kV_int, kV_kV, L2.start, E0, tForZ, zList, zTup, zStr, zRng1, zRng2, zEnumS, zEnumL, zKeys, zVals, zItems, tAugS, rGetL, rSetL, ipI, tyN_new, upd_same, tLcV, tDcZ, tYes, wipe, tLcZ, tScZ, cxOf, RVal, RTup, gTupU, gCons, gNil, tProp, tDGetU, sDPutU, rLenO, rDEqU, tBML, tBML0, tConU, tDNewK, rIsiO, hb]
      refine ⟨by omega, ?_⟩
      exact fin _ _ (Int.emod_nonneg _ (by omega)) (Int.emod_lt_of_pos _ hm0) hs2 (pen2.mono (by omega))
end
end K74

set_option Elab.async false
set_option linter.all false
set_option maxRecDepth 100000
set_option maxHeartbeats 4000000
namespace K74
open PySem PySem.Spec PyProof.Rows L2 G
section
variable {P : Program} {w : World} {K : PySem.W.Frag} {mg : Str → Option Value} {base : Heap}
theorem FnOk.weak {CX : CXT} {k : Nat} {f : Addr} {fd : FuncData} {ps : List Str} {sp sp' : Sp} (F : FnOk P w K mg base CX k f fd ps sp) (h : ∀ vs H Q E, sp' vs H Q E → sp vs H Q E) : FnOk P w K mg base CX k f fd ps sp' :=
  ⟨fun vs H Q E q => F.len vs H Q E (h vs H Q E q), fun A outer s H args us vs Q E hr e0 hb rv q => F.run A outer s H args us vs Q E hr e0 hb rv (h vs H Q E q)⟩
theorem draw_ok (T : Txt K mg) : ∀ n, FnOk P w K mg base CX0 (n + 1) (He.ga K "_law_draw") T.fd__law_draw ["_law_pen_here", "_law_many"] (spd n)
  | 0 => ⟨fun _ _ _ _ h => False.elim h, fun _ _ _ _ _ _ _ _ _ _ _ _ _ h => False.elim h⟩
  | n + 1 => draw_step T n (draw_ok T n)
def sp__law_draw (K : PySem.W.Frag) : Sp := fun vs H Q _ => ∃ d c N, ∃ many : Nat, vs = [.ref d, .int many] ∧ PenAt H d c N ∧ N ≤ 900000 ∧ 1 ≤ many ∧ many ≤ 10 ^ 30 ∧ ∀ (i : Nat) H', i < many → SubX d H H' → PenAt H' d c (N + 4) → Q (.int i) H'
theorem ok__law_draw (T : Txt K mg) : FnOk P w K mg base CX0 5 (He.ga K "_law_draw") T.fd__law_draw ["_law_pen_here", "_law_many"] (sp__law_draw K) := by
  refine FnOk.weak (draw_ok T 4) ?_
  rintro vs H Q E ⟨d, c, N, many, rfl, h1, h2, h3, h4, q⟩
  exact ⟨d, c, N, many, rfl, h1, show N + 3 ≤ 10 ^ 6 by omega, h3, Nat.le_trans h4 (by decide), by omega, q⟩
theorem PenAt.ne {H : Hp} {d c a : Addr} {N : Nat} {o : HO} (h : PenAt H d c N) (e : H a = some o) (n : ∀ kvs, o ≠ .dK kvs) : a ≠ d := by
  obtain ⟨cs, u, l, h1, _⟩ := h
  intro q
  rw [q, h1] at e
  exact n _ (Option.some.inj e).symm
theorem PenAt.nn {H : Hp} {d c : Addr} {N : Nat} (h : PenAt H d c N) : H d ≠ none ∧ H c ≠ none := by
  obtain ⟨cs, u, l, h1, h2, _⟩ := h
  rw [h1, h2]
  exact ⟨nofun, nofun⟩
/-- what is new beside a pen changes nothing of it -/
theorem PenAt.off {H H1 : Hp} {d c p : Addr} {N M : Nat} {o : HO} (h : PenAt H d c N) (hp : H p = none) (h1 : PenAt H1 d c M) : PenAt (upd H1 p o) d c M :=
  h1.keep (upd_ne fun e => h.nn.1 (by rw [e]; exact hp)) (upd_ne fun e => h.nn.2 (by rw [e]; exact hp))
theorem SubX.get {H H' : Hp} {d a : Addr} {o : HO} (s : SubX d H H') (n : a ≠ d) (e : H a = some o) : H' a = some o := by rw [s a n (by rw [e]; nofun), e]
theorem SubX.trans {H H1 H2 : Hp} {d : Addr} (s : SubX d H H1) (t : SubX d H1 H2) : SubX d H H2 := fun a ha hn => by rw [t a ha (by rw [s a ha hn]; exact hn), s a ha hn]
theorem SubX.of {H H' : Hp} {d : Addr} (s : Sub H H') : SubX d H H' := fun a _ hn => s a hn
theorem SubX.none {H H' : Hp} {d a : Addr} (s : SubX d H H') (n : a ≠ d) (e : H' a = Option.none) : H a = Option.none := by
  cases q : H a with
  | none => rfl
  | some o => rw [SubX.get s n q] at e; cases e
def sp__law_pick (K : PySem.W.Frag) : Sp := fun vs H Q _ => ∃ d c N a xs, vs = [.ref d, .ref a] ∧ PenAt H d c N ∧ N ≤ 900000 ∧ H a = some (.lst xs) ∧ 0 < xs.length ∧ xs.length ≤ 1000 ∧ ∀ x H', x ∈ xs → SubX d H H' → PenAt H' d c (N + 4) → Q x H'
theorem ok__law_pick (T : Txt K mg) : FnOk P w K mg base CX0 6 (He.ga K "_law_pick") T.fd__law_pick ["_law_pen_here", "_law_some_here"] (sp__law_pick K) := by
  refine FunD.ok T.F__law_pick sc__law_pick (fun vs H Q E h => ?_) fun cdv A outer s H vs Q E hr h => ⟨_, PSs.nox (pss_one (ps_ret (pe_ix (ix_U (hu_of hr)) (pv 1) (pe_call (ok__law_draw T) (hr.mono (by omega)) rfl T.g__law_draw T.F__law_draw.kp (b__law_draw T) .nil pass0 (pa_cons (pv 0) (pa_cons (pe_callB call_lenU rfl T.f_len boot_len (pa_cons (pv 1) pa_nil)) pa_nil))) (fun _ _ => rfl)))), ?_⟩
  · obtain ⟨d, c, N, a, xs, rfl, _⟩ := h
    rfl
  · obtain ⟨d, c, N, a, xs, rfl, hp, hN, ha, h1, h2, q⟩ := h
    simp [tRet, tRetN, tDrop, tAsg, gName, tSeq, tNext, tIfS, tAndV, tOrV, tNotV, tAnd, tOr, tNot, tB, tTest, tVar, tC, tOp, tUn, tCons, tNil, tTup, tLst, tCB, tBM, tBM0, tM1, tM0, tCall, tMeth, tMake, tFldU, sFldU, tChain, tIf, tPar, tPar3, tAug, tDisp, tPairs, tDGet2, sDPut, rIsiU, rIsiTU, rLenU, rIxU, rInU, rNilU, rEqU, rNeU, rEq, rNe, rMax2U, rMin2U, rInt1U, rAbsU, scal, rAddU, rMulU, rI0, rI, rU, rListU, rTupU, rSumU, rAllU, rAnyU, rDictU, rSlU, tSl, tPart, tNoPart, rAppend, rExtend, rPop, rPopAt, rJoinU, rRepr, tSumVals, tyN_non, tyN_bl, tyN_int, tyN_str, tyN_ref, tyO_lst, tyO_tup, tyO_dK, tyO_flst, tyO_ftup, tyO_fdK, and_assoc, tyList, isT, tyAsk, lk_none, lk_frz, lk_lst, lk_tup, lk_dK, lk_ins, kV_str, kV_int, kV_kV, L2.start, E0, tForZ, zList, zTup, zStr, zRng1, zRng2, zEnumS, zEnumL, zKeys, zVals, zItems, tAugS, rGetL, rSetL, ipI, tyN_new, upd_same, tLcV, tDcZ, tYes, wipe, tLcZ, tScZ, cxOf, RVal, RTup, gTupU, gCons, gNil, tProp, tDGetU, sDPutU, rLenO, rDEqU, tBML, tBML0, tConU, tDNewK, rIsiO, sp__law_draw, ha]
    refine Or.inl ⟨c, N, xs.length, rfl, hp, hN, h1, by omega, fun i H' hi hs hp' => Or.inl ⟨xs, ?_, xs[i], atI_at (by simp [hi]), q _ _ (List.getElem_mem hi) hs hp'⟩⟩
    rw [SubX.get hs (hp.ne ha nofun) ha]
    rfl
theorem erase_perm {α : Type} : ∀ {l : List α} {i : Nat} (h : i < l.length), (l[i] :: l.eraseIdx i).Perm l
  | a :: l, 0, _ => List.Perm.refl _
  | a :: l, i + 1, h => (List.Perm.swap _ _ _).trans ((erase_perm (l := l) (i := i) (by simpa using h)).cons a)
def Items (H : Hp) (v : V) (xs : List V) : Prop := (∃ x, v = .str x ∧ xs = signsV x) ∨ ∃ a, v = .ref a ∧ H a = some (.lst xs)
def sp__law_shuffled (K : PySem.W.Frag) : Sp := fun vs H Q _ => ∃ d c N v xs, vs = [.ref d, v] ∧ PenAt H d c N ∧ N + 4 * xs.length ≤ 900000 ∧ Items H v xs ∧ xs.length ≤ 1000 ∧
  ∀ p H' ys, H p = none → SubX d H H' → PenAt H' d c (N + 4 * xs.length) → H' p = some (.lst ys) → ys.Perm xs → Q (.ref p) H'
theorem ok__law_shuffled (T : Txt K mg) : FnOk P w K mg base CX0 6 (He.ga K "_law_shuffled") T.fd__law_shuffled ["_law_pen_here", "_law_items"] (sp__law_shuffled K) := by
  refine FunD.ok T.F__law_shuffled sc__law_shuffled (fun vs H Q E h => ?_) fun cdv A outer s H vs Q E hr h => ⟨_, PSs.nox (pss_cons (ps_par (i := 2) (j := 3) rfl sc__law_shuffled.nd rfl rfl (by decide) rfl rfl (pa_cons (pe_callTy (call_listU rfl) rfl T.f_list boot_list (pa_cons (pv 1) pa_nil)) (pa_cons (pe_lst pa_nil) pa_nil)) rfl)
      (pss_cons (ps_while PassesOwn.never (pt_cmpR (op_neU (hu0 hr)) (pv 2) (pe_lst pa_nil) (nomark _)) (pss_one (ps_expr (pe_bmL PySem.F.slot_list_append PySem.F.type_list_append mt_append (pv 3) (pa_cons (pe_bmL PySem.F.slot_list_pop PySem.F.type_list_pop mt_popAt (pv 2) (pa_cons (pe_call (ok__law_draw T) (hr.mono (by omega)) rfl T.g__law_draw T.F__law_draw.kp (b__law_draw T) .nil pass0 (pa_cons (pv 0) (pa_cons (pe_callB call_lenU rfl T.f_len boot_len (pa_cons (pv 2) pa_nil)) pa_nil))) pa_nil)) pa_nil)))))
      (pss_one (ps_ret (pv 3))))), ?_⟩
  · obtain ⟨d, c, N, v, xs, rfl, _⟩ := h
    rfl
  · obtain ⟨d, c, N, v, xs, rfl, hp, hN, hi, h1, q⟩ := h
    obtain ⟨WB, hWB⟩ : ∃ WB : TS, WB = tWhile (tTest (tOp rNeU (tVar 2) (tLst tNil))) (tDrop (tBML rAppend (tVar 3) (tCons (tBML rPopAt (tVar 2) (tCons (tCall (sp__law_draw K) [] E0 (tCons (tVar 0) (tCons (tCB (rLenU P w) (tCons (tVar 2) tNil)) tNil))) tNil)) tNil))) := ⟨_, rfl⟩
    have body : ∀ p, H p = none → ∀ p1, upd H p (.lst xs) p1 = none → WB { nx := tRet (tVar 3) { nx := fun x H' => Q V.non H', rt := Q }, rt := Q } [some (V.ref d), some v, some (V.ref p), some (V.ref p1)] (upd (upd H p (.lst xs)) p1 (.lst [])) := by
      intro p hp0 p1 hp1
      have n1 : p1 ≠ p := fun e => by rw [e, upd_same] at hp1; cases hp1
      have hp1' : H p1 = none := by rw [upd_ne n1] at hp1; exact hp1
      have dp : p ≠ d := fun e => hp.nn.1 (by rw [← e]; exact hp0)
      have dp1 : p1 ≠ d := fun e => hp.nn.1 (by rw [← e]; exact hp1')
      have hs0 : Sub H (upd (upd H p (.lst xs)) p1 (.lst [])) := sub_upd (Sub.new hp0) hp1'
      rw [hWB]
      refine ⟨fun m σ H' => ∃ left found, m = left.length ∧ σ = [some (V.ref d), some v, some (V.ref p), some (V.ref p1)] ∧ SubX d H H' ∧ PenAt H' d c (N + 4 * found.length) ∧ H' p = some (.lst left) ∧ H' p1 = some (.lst found) ∧ (left ++ found).Perm xs,
        ⟨_, xs, [], rfl, rfl, SubX.of hs0, by simpa using hp.sub hs0, by rw [upd_ne n1.symm, upd_same], upd_same, by simp⟩, ?_⟩
      rintro m σ H' ⟨left, found, rfl, rfl, h2, h3, h4, h5, h6⟩
      have hl := h6.length_eq
      rw [List.length_append] at hl
      simp [tTest, tB, tOp, tVar, tLst, tNil, sz1, sz2]
      intro p2 hp2
      have hn : Sub H' (upd H' p2 (.lst [])) := Sub.new hp2
      have hp3 : upd H' p2 (.lst []) p2 = some (.lst []) := upd_same
      have h2' := SubX.trans h2 (SubX.of (d := d) hn)
      have h3' := h3.sub hn
      have h4' := hn.get h4
      have h5' := hn.get h5
      generalize upd H' p2 (.lst []) = H3 at *
      refine Or.inr (Or.inl ⟨p, p2, left, rfl, rfl, by rw [h4']; rfl, by rw [hp3]; rfl, ?_⟩)
      by_cases hl0 : left = []
      · subst hl0
        refine Or.inl ⟨rfl, ?_⟩
        simp [tRet, tVar]
        have hfl : found.length = xs.length := by simpa using hl
        exact q p1 H3 found hp1' h2' (by rw [← hfl]; exact h3') h5' (by simpa using h6)
      · have hlen : 0 < left.length := List.length_pos_iff.mpr hl0
        refine Or.inr ⟨by rw [decide_eq_false hl0]; rfl, fun σ' H'' => ∃ left' found', left'.length < left.length ∧ σ' = [some (V.ref d), some v, some (V.ref p), some (V.ref p1)] ∧ SubX d H H'' ∧ PenAt H'' d c (N + 4 * found'.length) ∧ H'' p = some (.lst left') ∧ H'' p1 = some (.lst found') ∧ (left' ++ found').Perm xs, ?_, ?_⟩
        · rintro σ' H'' ⟨left', found', e1, e2, e3, e4, e5, e6, e7⟩
          exact ⟨_, e1, left', rfl, e2, e3, found', e4, e5, e6, e7⟩
        · simp [tRet, tRetN, tDrop, tAsg, gName, tSeq, tNext, tIfS, tAndV, tOrV, tNotV, tAnd, tOr, tNot, tB, tTest, tVar, tC, tOp, tUn, tCons, tNil, tTup, tLst, tCB, tBM, tBM0, tM1, tM0, tCall, tMeth, tMake, tFldU, sFldU, tChain, tIf, tPar, tPar3, tAug, tDisp, tPairs, tDGet2, sDPut, rIsiU, rIsiTU, rLenU, rIxU, rInU, rNilU, rEqU, rNeU, rEq, rNe, rMax2U, rMin2U, rInt1U, rAbsU, scal, rAddU, rMulU, rI0, rI, rU, rListU, rTupU, rSumU, rAllU, rAnyU, rDictU, rSlU, tSl, tPart, tNoPart, rAppend, rExtend, rPop, rPopAt, rJoinU, rRepr, tSumVals, tyN_non, tyN_bl, tyN_int, tyN_str, tyN_ref, tyO_lst, tyO_tup, tyO_dK, tyO_flst, tyO_ftup, tyO_fdK, and_assoc, tyList, isT, tyAsk, lk_none, lk_frz, lk_lst, lk_tup, lk_dK, lk_ins, kV_str, kV_int, kV_kV, L2.start, E0, tForZ, zList, zTup, zStr, zRng1, zRng2, zEnumS, zEnumL, zKeys, zVals, zItems, tAugS, rGetL, rSetL, ipI, tyN_new, upd_same, tLcV, tDcZ, tYes, wipe, tLcZ, tScZ, cxOf, RVal, RTup, gTupU, gCons, gNil, tProp, tDGetU, sDPutU, rLenO, rDEqU, tBML, tBML0, tConU, tDNewK, rIsiO, sp__law_draw, h4', h5']
          refine Or.inl ⟨c, _, left.length, rfl, h3', by omega, hlen, by omega, fun i H4 hi hs4 hp4 => ?_⟩
          have e4 := SubX.get hs4 dp h4'
          have e5 := SubX.get hs4 dp1 h5'
          have hsx := sizeLine_eq
          refine ⟨left, e4, by omega, i, ?_, left[i], by simp [hi], found, by rw [upd_ne n1]; exact e5, by omega, left.eraseIdx i, ?_, ?_, found ++ [left[i]], ?_, by rw [upd_ne n1.symm, upd_same], rfl, ?_⟩
          · rw [PySem.seqIndex_of (by omega) (by omega)]
            rfl
          · rw [List.length_eraseIdx_of_lt hi]
            omega
          · intro a ha hn
            rw [upd_ne (fun e => hn (by rw [e]; exact hp1')), upd_ne (fun e => hn (by rw [e]; exact hp0))]
            exact (SubX.trans h2' hs4) a ha hn
          · rw [List.length_append, List.length_singleton]
            exact hp.off hp1' (hp.off hp0 (hp4.mono (by omega)))
          · refine List.Perm.trans ?_ h6
            rw [← List.append_assoc]
            exact (List.perm_append_singleton _ _).trans ((erase_perm hi).append_right found)
    have q1 := body
    subst hWB
    rcases hi with ⟨x, rfl, rfl⟩ | ⟨a, rfl, ha⟩
    · simp [tRet, tRetN, tDrop, tAsg, gName, tSeq, tNext, tIfS, tAndV, tOrV, tNotV, tAnd, tOr, tNot, tB, tTest, tVar, tC, tOp, tUn, tCons, tNil, tTup, tLst, tCB, tBM, tBM0, tM1, tM0, tCall, tMeth, tMake, tFldU, sFldU, tChain, tIf, tPar, tPar3, tAug, tDisp, tPairs, tDGet2, sDPut, rIsiU, rIsiTU, rLenU, rIxU, rInU, rNilU, rEqU, rNeU, rEq, rNe, rMax2U, rMin2U, rInt1U, rAbsU, scal, rAddU, rMulU, rI0, rI, rU, rListU, rTupU, rSumU, rAllU, rAnyU, rDictU, rSlU, tSl, tPart, tNoPart, rAppend, rExtend, rPop, rPopAt, rJoinU, rRepr, tSumVals, tyN_non, tyN_bl, tyN_int, tyN_str, tyN_ref, tyO_lst, tyO_tup, tyO_dK, tyO_flst, tyO_ftup, tyO_fdK, and_assoc, tyList, isT, tyAsk, lk_none, lk_frz, lk_lst, lk_tup, lk_dK, lk_ins, kV_str, kV_int, kV_kV, L2.start, E0, tForZ, zList, zTup, zStr, zRng1, zRng2, zEnumS, zEnumL, zKeys, zVals, zItems, tAugS, rGetL, rSetL, ipI, tyN_new, upd_same, tLcV, tDcZ, tYes, wipe, tLcZ, tScZ, cxOf, RVal, RTup, gTupU, gCons, gNil, tProp, tDGetU, sDPutU, rLenO, rDEqU, tBML, tBML0, tConU, tDNewK, rIsiO, sp__law_draw]
      refine ⟨?_, q1⟩
      rw [signsV, List.length_map, Array.length_toList] at h1
      show x.cps.size ≤ _
      omega
    · simp [tRet, tRetN, tDrop, tAsg, gName, tSeq, tNext, tIfS, tAndV, tOrV, tNotV, tAnd, tOr, tNot, tB, tTest, tVar, tC, tOp, tUn, tCons, tNil, tTup, tLst, tCB, tBM, tBM0, tM1, tM0, tCall, tMeth, tMake, tFldU, sFldU, tChain, tIf, tPar, tPar3, tAug, tDisp, tPairs, tDGet2, sDPut, rIsiU, rIsiTU, rLenU, rIxU, rInU, rNilU, rEqU, rNeU, rEq, rNe, rMax2U, rMin2U, rInt1U, rAbsU, scal, rAddU, rMulU, rI0, rI, rU, rListU, rTupU, rSumU, rAllU, rAnyU, rDictU, rSlU, tSl, tPart, tNoPart, rAppend, rExtend, rPop, rPopAt, rJoinU, rRepr, tSumVals, tyN_non, tyN_bl, tyN_int, tyN_str, tyN_ref, tyO_lst, tyO_tup, tyO_dK, tyO_flst, tyO_ftup, tyO_fdK, and_assoc, tyList, isT, tyAsk, lk_none, lk_frz, lk_lst, lk_tup, lk_dK, lk_ins, kV_str, kV_int, kV_kV, L2.start, E0, tForZ, zList, zTup, zStr, zRng1, zRng2, zEnumS, zEnumL, zKeys, zVals, zItems, tAugS, rGetL, rSetL, ipI, tyN_new, upd_same, tLcV, tDcZ, tYes, wipe, tLcZ, tScZ, cxOf, RVal, RTup, gTupU, gCons, gNil, tProp, tDGetU, sDPutU, rLenO, rDEqU, tBML, tBML0, tConU, tDNewK, rIsiO, sp__law_draw, ha]
      exact q1
end
end K74

set_option Elab.async false
set_option linter.all false
set_option maxRecDepth 100000
set_option maxHeartbeats 4000000
namespace K74
open PySem PySem.Spec PyProof.Rows L2 G
section
variable {P : Program} {w : World} {K : PySem.W.Frag} {mg : Str → Option Value} {base : Heap}
theorem sum_ones {α : Type} : ∀ l : List α, (l.map fun _ => 1).sum = l.length
  | [] => rfl
  | a :: l => by rw [List.map_cons, List.sum_cons, sum_ones l, List.length_cons]; omega
theorem flatten_one {α : Type} : ∀ l : List α, (l.map fun c => [c]).flatten = l
  | [] => rfl
  | a :: l => by rw [List.map_cons, List.flatten_cons, flatten_one l]; rfl
theorem tNeNil {i : Nat} {σ : L2.St} {H : Hp} {a : Addr} {xs : List V} {Q : Bool → Hp → Prop} (hσ : σ[i]? = some (some (.ref a))) (ha : H a = some (.lst xs)) (q : ∀ H', Sub H H' → Q (decide (xs ≠ [])) H') : tTest (tOp rNeU (tVar i) (tLst tNil)) σ H Q := by
  simp [tTest, tB, tOp, tVar, tLst, tNil, hσ]
  intro p hp
  have hn : Sub H (upd H p (.lst [])) := Sub.new hp
  have hq := q _ hn
  refine Or.inr (Or.inl ⟨a, p, xs, rfl, rfl, by rw [hn.get ha]; rfl, by rw [upd_same]; rfl, ?_⟩)
  by_cases h0 : xs = []
  · subst h0
    simpa using hq
  · simpa [h0] using hq
theorem tEqI {i : Nat} {σ : L2.St} {H : Hp} {n k : Int} {Q : Bool → Hp → Prop} (hσ : σ[i]? = some (some (.int n))) (q : Q (decide (n = k)) H) : tTest (tOp rEqU (tVar i) (tC (V.int k))) σ H Q := by
  simp [tTest, tOp, tVar, tC, hσ]
  refine Or.inl ?_
  by_cases e : n = k
  · simpa [rEq, scal, e] using q
  · simpa [rEq, scal, e] using q
def sp__law_font (K : PySem.W.Frag) : Sp := fun vs H Q _ => ∃ d c N, vs = [.ref d, .int 2, .int 6] ∧ PenAt H d c N ∧ N ≤ 800000 ∧
  ∀ t hp H' sg prs, H t = none → H hp = none → SubX d H H' → PenAt H' d c (N + 300) → H' t = some (.tup [.str (txt sg), .ref hp]) → H' hp = some (.dK (hdV prs)) → SgOk sg → HsOk sg prs → Q (.ref t) H'
theorem ok__law_font (T : Txt K mg) : FnOk P w K mg base CX0 7 (He.ga K "_law_font") T.fd__law_font ["_law_pen_here", "_law_fewest", "_law_most"] (sp__law_font K) := by
  refine FunD.ok T.F__law_font sc__law_font (fun vs H Q E h => ?_) fun cdv A outer s H vs Q E hr h => ⟨_, PSs.nox (pss_cutG (ps_set (i := 3) sc__law_font.nd rfl (by first | exact Or.inl rfl | exact Or.inr rfl) (pe_call (ok__law_shuffled T) (hr.mono (by omega)) rfl T.g__law_shuffled T.F__law_shuffled.kp (b__law_shuffled T) .nil pass0 (pa_cons (pv 0) (pa_cons pe_str pa_nil))))
      (pss_cutG (ps_par (i := 4) (j := 5) rfl sc__law_font.nd rfl rfl (by decide) rfl rfl (pa_cons (pe_m1 PySem.F.slot_str_join PySem.F.type_str_join mt_joinU pe_str (pe_slice sl_U (pv 3) po_none (po_some (pe_op op_addU (pv 1) (pe_call (ok__law_draw T) (hr.mono (by omega)) rfl T.g__law_draw T.F__law_draw.kp (b__law_draw T) .nil pass0 (pa_cons (pv 0) (pa_cons (pe_op op_addU (pe_op op_sub (pv 2) (pv 1)) pe_int) pa_nil))))))) (pa_cons pe_dnewK pa_nil)) rfl)
      (pss_cutG (ps_set (i := 6) sc__law_font.nd rfl (by first | exact Or.inl rfl | exact Or.inr rfl) (pe_call (ok__law_shuffled T) (hr.mono (by omega)) rfl T.g__law_shuffled T.F__law_shuffled.kp (b__law_shuffled T) .nil pass0 (pa_cons (pv 0) (pa_cons (pv 4) pa_nil))))
      (pss_cons (ps_while PassesOwn.never (pt_cmpR (op_neU (hu0 hr)) (pv 6) (pe_lst pa_nil) (nomark _)) (pss_cutG (ps_par (i := 7) (j := 8) rfl sc__law_font.nd rfl rfl (by decide) rfl rfl (pa_cons (pe_bmL0 PySem.F.slot_list_pop PySem.F.type_list_pop mt_pop (pv 6)) (pa_cons (pe_call (ok__law_draw T) (hr.mono (by omega)) rfl T.g__law_draw T.F__law_draw.kp (b__law_draw T) .nil pass0 (pa_cons (pv 0) (pa_cons pe_int pa_nil))) pa_nil)) rfl)
      (pss_cutG (ps_if (pt_cmpR (op_eqU (hu0 hr)) (pv 8) pe_int (nomark _)) (pss_one (ps_dputU (hu_of hr) (pv 5) (pv 7) (pv 7) rfl)) pss_nil)
      (pss_one (ps_if (PW.pt (pw_and (pt_cmpR (op_eqU (hu0 hr)) (pv 8) pe_int (nomark _)) (pw_and1 (pt_cmpR (op_neU (hu0 hr)) (pv 6) (pe_lst pa_nil) (nomark _))))) (pss_cons (ps_set (i := 9) sc__law_font.nd rfl (by first | exact Or.inl rfl | exact Or.inr rfl) (pe_bmL0 PySem.F.slot_list_pop PySem.F.type_list_pop mt_pop (pv 6)))
      (pss_cons (ps_dputU (hu_of hr) (pv 5) (pv 7) (pv 9) rfl)
      (pss_one (ps_dputU (hu_of hr) (pv 5) (pv 9) (pv 7) rfl)))) pss_nil)))))
      (pss_one (ps_ret (pe_tup (pa_cons (pv 4) (pa_cons (pv 5) pa_nil))))))))), ?_⟩
  · obtain ⟨d, c, N, rfl, _⟩ := h
    rfl
  · obtain ⟨d, c, N, rfl, hp, hN, q⟩ := h
    have hsl := sizeLine_eq
    obtain ⟨al, hal⟩ : ∃ al : Str, al = "0123456789abcdefghijklmnopqrstuvwxyz" := ⟨_, rfl⟩
    have halN : (al.cps.toList).Nodup := by subst hal; decide +kernel
    have halL : al.cps.toList.length = 36 := by subst hal; decide +kernel
    show tCutG _ _ _ _ _
    refine ⟨fun (σ : L2.St) (H1 : Hp) => ∃ (lp : Addr) (ls : List Nat), σ = [some (.ref d), some (.int 2), some (.int 6), some (.ref lp), none, none, none, none, none, none] ∧ SubX d H H1 ∧ PenAt H1 d c (N + 144) ∧ H1 lp = some (.lst (ls.map sgn)) ∧ ls.Perm al.cps.toList, ?_, ?_⟩
    · simp [tRet, tRetN, tDrop, tAsg, gName, tSeq, tNext, tIfS, tAndV, tOrV, tNotV, tAnd, tOr, tNot, tB, tTest, tVar, tC, tOp, tUn, tCons, tNil, tTup, tLst, tCB, tBM, tBM0, tM1, tM0, tCall, tMeth, tMake, tFldU, sFldU, tChain, tIf, tPar, tPar3, tAug, tDisp, tPairs, tDGet2, sDPut, rIsiU, rIsiTU, rLenU, rIxU, rInU, rNilU, rEqU, rNeU, rEq, rNe, rMax2U, rMin2U, rInt1U, rAbsU, scal, rAddU, rMulU, rI0, rI, rU, rListU, rTupU, rSumU, rAllU, rAnyU, rDictU, rSlU, tSl, tPart, tNoPart, rAppend, rExtend, rPop, rPopAt, rJoinU, rRepr, tSumVals, tyN_non, tyN_bl, tyN_int, tyN_str, tyN_ref, tyO_lst, tyO_tup, tyO_dK, tyO_flst, tyO_ftup, tyO_fdK, and_assoc, tyList, isT, tyAsk, lk_none, lk_frz, lk_lst, lk_tup, lk_dK, lk_ins, kV_str, kV_int, kV_kV, L2.start, E0, tForZ, zList, zTup, zStr, zRng1, zRng2, zEnumS, zEnumL, zKeys, zVals, zItems, tAugS, rGetL, rSetL, ipI, tyN_new, upd_same, tLcV, tDcZ, tYes, wipe, tLcZ, tScZ, cxOf, RVal, RTup, gTupU, gCons, gNil, tProp, tDGetU, sDPutU, rLenO, rDEqU, tBML, tBML0, tConU, tDNewK, rIsiO, sp__law_shuffled]
      refine ⟨c, N, hp, signsV al, ?_, ?_, ?_, ?_⟩
      · rw [signsV, List.length_map, halL]
        omega
      · exact Or.inl ⟨al, by rw [hal], rfl⟩
      · rw [signsV, List.length_map, halL]
        omega
      · intro p H' ys hn hs' hp' hl hpm
        rw [signsV, List.length_map, halL] at hp'
        obtain ⟨ls, rfl, hls⟩ := perm_of_map (f := sgn) hpm
        exact ⟨hs', hp', ls, hl, hls⟩
    rintro σ H1 ⟨lp, ls, rfl, hs1, hp1, hl1, hpm⟩
    have hlsN : ls.Nodup := hpm.nodup_iff.mpr halN
    have hlsL : ls.length = 36 := by rw [hpm.length_eq, halL]
    show tCutG _ _ _ _ _
    refine ⟨fun (σ : L2.St) (H2 : Hp) => ∃ (hpd : Addr) (sg : List Nat), σ = [some (.ref d), some (.int 2), some (.int 6), some (.ref lp), some (.str (txt sg)), some (.ref hpd), none, none, none, none] ∧ SubX d H H2 ∧ PenAt H2 d c (N + 148) ∧ H hpd = none ∧ H2 hpd = some (.dK (hdV [])) ∧ SgOk sg, ?_, ?_⟩
    · simp [tRet, tRetN, tDrop, tAsg, gName, tSeq, tNext, tIfS, tAndV, tOrV, tNotV, tAnd, tOr, tNot, tB, tTest, tVar, tC, tOp, tUn, tCons, tNil, tTup, tLst, tCB, tBM, tBM0, tM1, tM0, tCall, tMeth, tMake, tFldU, sFldU, tChain, tIf, tPar, tPar3, tAug, tDisp, tPairs, tDGet2, sDPut, rIsiU, rIsiTU, rLenU, rIxU, rInU, rNilU, rEqU, rNeU, rEq, rNe, rMax2U, rMin2U, rInt1U, rAbsU, scal, rAddU, rMulU, rI0, rI, rU, rListU, rTupU, rSumU, rAllU, rAnyU, rDictU, rSlU, tSl, tPart, tNoPart, rAppend, rExtend, rPop, rPopAt, rJoinU, rRepr, tSumVals, tyN_non, tyN_bl, tyN_int, tyN_str, tyN_ref, tyO_lst, tyO_tup, tyO_dK, tyO_flst, tyO_ftup, tyO_fdK, and_assoc, tyList, isT, tyAsk, lk_none, lk_frz, lk_lst, lk_tup, lk_dK, lk_ins, kV_str, kV_int, kV_kV, L2.start, E0, tForZ, zList, zTup, zStr, zRng1, zRng2, zEnumS, zEnumL, zKeys, zVals, zItems, tAugS, rGetL, rSetL, ipI, tyN_new, upd_same, tLcV, tDcZ, tYes, wipe, tLcZ, tScZ, cxOf, RVal, RTup, gTupU, gCons, gNil, tProp, tDGetU, sDPutU, rLenO, rDEqU, tBML, tBML0, tConU, tDNewK, rIsiO, sp__law_draw]
      refine ⟨c, _, 5, rfl, hp1, by omega, by omega, by omega, fun i H2 hi hs2 hp2 => ?_⟩
      have hl2 := SubX.get hs2 (hp1.ne hl1 nofun) hl1
      refine ⟨ls.map sgn, by rw [hl2]; rfl, fun p hpn => ?_⟩
      have e2 : cutV (ls.map sgn) none (some (2 + (i : Int))) = (ls.take (2 + i)).map sgn := by
        rw [show (2 : Int) + (i : Int) = ((2 + i : Nat) : Int) by omega, cut_to, List.map_take]
      rw [e2]
      obtain ⟨sg, hsg⟩ : ∃ sg, sg = ls.take (2 + i) := ⟨_, rfl⟩
      have hsgl : sg.length = 2 + i := by rw [hsg, List.length_take]; omega
      rw [← hsg]
      have len1 : (sg.map fun c => (⟨#[c]⟩ : Str)).map (fun x => x.length) = sg.map fun _ => 1 := by rw [List.map_map]; rfl
      have e0 : (Str.ofString "").length = 0 := by decide +kernel
      refine ⟨sg.map fun c => ⟨#[c]⟩, by simp [sgn], ?_, fun p1 hp1 => ?_⟩
      · rw [len1, e0, sum_ones]
        omega
      · have n1 : p1 ≠ p := fun e => by rw [e, upd_same] at hp1; cases hp1
        have f1 : H2 p1 = none := by rw [upd_ne n1] at hp1; exact hp1
        have hs12 := SubX.trans hs1 hs2
        have hsn : Sub H2 (upd (upd H2 p (.lst (sg.map sgn))) p1 (.dK [])) := sub_upd (Sub.new hpn) f1
        refine ⟨p1, sg, ?_, rfl, SubX.trans hs12 (SubX.of hsn), (hp2.sub hsn).mono (by omega), SubX.none hs12 (fun e => hp2.nn.1 (by rw [← e]; exact f1)) f1, upd_same, ⟨?_, by omega, by omega, fun c hc => ?_⟩⟩
        · have := join_empty (sg.map fun c => [c])
          rw [List.map_map] at this
          refine Eq.trans this ?_
          show _ = txt sg
          unfold txt
          rw [flatten_one]
        · rw [hsg]
          exact hlsN.sublist (List.take_sublist _ _)
        · rw [hsg] at hc
          have := hpm.mem_iff.mp (List.mem_of_mem_take hc)
          rw [hal] at this
          exact this
    rintro σ H2 ⟨hpd, sg, rfl, hs2, hp2, hn2, hd2, ok⟩
    have hlo := ok.lo
    have hhi := ok.hi
    show tCutG _ _ _ _ _
    refine ⟨fun (σ : L2.St) (H3 : Hp) => ∃ (lp2 : Addr) (left : List Nat), σ = [some (.ref d), some (.int 2), some (.int 6), some (.ref lp), some (.str (txt sg)), some (.ref hpd), some (.ref lp2), none, none, none] ∧ SubX d H H3 ∧ PenAt H3 d c (N + 188) ∧ H lp2 = none ∧ lp2 ≠ hpd ∧ H3 hpd = some (.dK (hdV [])) ∧ H3 lp2 = some (.lst (left.map sgn)) ∧ left.Perm sg, ?_, ?_⟩
    · simp [tRet, tRetN, tDrop, tAsg, gName, tSeq, tNext, tIfS, tAndV, tOrV, tNotV, tAnd, tOr, tNot, tB, tTest, tVar, tC, tOp, tUn, tCons, tNil, tTup, tLst, tCB, tBM, tBM0, tM1, tM0, tCall, tMeth, tMake, tFldU, sFldU, tChain, tIf, tPar, tPar3, tAug, tDisp, tPairs, tDGet2, sDPut, rIsiU, rIsiTU, rLenU, rIxU, rInU, rNilU, rEqU, rNeU, rEq, rNe, rMax2U, rMin2U, rInt1U, rAbsU, scal, rAddU, rMulU, rI0, rI, rU, rListU, rTupU, rSumU, rAllU, rAnyU, rDictU, rSlU, tSl, tPart, tNoPart, rAppend, rExtend, rPop, rPopAt, rJoinU, rRepr, tSumVals, tyN_non, tyN_bl, tyN_int, tyN_str, tyN_ref, tyO_lst, tyO_tup, tyO_dK, tyO_flst, tyO_ftup, tyO_fdK, and_assoc, tyList, isT, tyAsk, lk_none, lk_frz, lk_lst, lk_tup, lk_dK, lk_ins, kV_str, kV_int, kV_kV, L2.start, E0, tForZ, zList, zTup, zStr, zRng1, zRng2, zEnumS, zEnumL, zKeys, zVals, zItems, tAugS, rGetL, rSetL, ipI, tyN_new, upd_same, tLcV, tDcZ, tYes, wipe, tLcZ, tScZ, cxOf, RVal, RTup, gTupU, gCons, gNil, tProp, tDGetU, sDPutU, rLenO, rDEqU, tBML, tBML0, tConU, tDNewK, rIsiO, sp__law_shuffled]
      refine ⟨c, N + 148, hp2, signsV (txt sg), ?_, Or.inl ⟨txt sg, rfl, rfl⟩, ?_, ?_⟩
      · rw [signsV, List.length_map, txt_list]
        omega
      · rw [signsV, List.length_map, txt_list]
        omega
      · intro p H' ys hn hs' hp' hl hpm2
        rw [signsV, List.length_map, txt_list] at hp'
        rw [signsV, txt_list] at hpm2
        obtain ⟨left, rfl, hleft⟩ := perm_of_map (f := sgn) hpm2
        have hdh : hpd ≠ d := fun e => hp.nn.1 (by rw [← e]; exact hn2)
        exact ⟨SubX.trans hs2 hs', hp'.mono (by omega), SubX.none hs2 (fun e => hp2.nn.1 (by rw [← e]; exact hn)) hn, (fun e => by rw [e, hd2] at hn; cases hn), SubX.get hs' hdh hd2, left, hl, hleft⟩
    rintro σ H3 ⟨lp2, left, rfl, hs3, hp3, hn3, hne, hd3, hl3, hpm3⟩
    have dl : lp2 ≠ d := fun e => hp.nn.1 (by rw [← e]; exact hn3)
    have dh : hpd ≠ d := fun e => hp.nn.1 (by rw [← e]; exact hn2)
    show tWhile _ _ _ _ _
    refine ⟨fun m σ H' => ∃ (left : List Nat) (prs : List (Nat × Nat)) (x y z : Option V), m = left.length ∧ σ = [some (.ref d), some (.int 2), some (.int 6), some (.ref lp), some (.str (txt sg)), some (.ref hpd), some (.ref lp2), x, y, z] ∧ SubX d H H' ∧ PenAt H' d c (N + 188 + 4 * (10 - left.length)) ∧ H' lp2 = some (.lst (left.map sgn)) ∧ H' hpd = some (.dK (hdV prs)) ∧ HInv sg left prs,
      ⟨_, left, [], none, none, none, rfl, rfl, hs3, hp3.mono (by omega), hl3, hd3, HInv.start ok.nd hpm3⟩, ?_⟩
    rintro m σ H' ⟨left, prs, x, y, z, rfl, rfl, h1, h2, h3, h4, hi⟩
    refine tNeNil rfl h3 fun H4 hs4 => ?_
    have h1' := SubX.trans h1 (SubX.of (d := d) hs4)
    have h2' := h2.sub hs4
    have h3' := hs4.get h3
    have h4' := hs4.get h4
    rcases List.eq_nil_or_concat left with e | ⟨init, one, e⟩
    · subst e
      rw [if_neg (by simp)]
      simp [tRet, tRetN, tDrop, tAsg, gName, tSeq, tNext, tIfS, tAndV, tOrV, tNotV, tAnd, tOr, tNot, tB, tTest, tVar, tC, tOp, tUn, tCons, tNil, tTup, tLst, tCB, tBM, tBM0, tM1, tM0, tCall, tMeth, tMake, tFldU, sFldU, tChain, tIf, tPar, tPar3, tAug, tDisp, tPairs, tDGet2, sDPut, rIsiU, rIsiTU, rLenU, rIxU, rInU, rNilU, rEqU, rNeU, rEq, rNe, rMax2U, rMin2U, rInt1U, rAbsU, scal, rAddU, rMulU, rI0, rI, rU, rListU, rTupU, rSumU, rAllU, rAnyU, rDictU, rSlU, tSl, tPart, tNoPart, rAppend, rExtend, rPop, rPopAt, rJoinU, rRepr, tSumVals, tyN_non, tyN_bl, tyN_int, tyN_str, tyN_ref, tyO_lst, tyO_tup, tyO_dK, tyO_flst, tyO_ftup, tyO_fdK, and_assoc, tyList, isT, tyAsk, lk_none, lk_frz, lk_lst, lk_tup, lk_dK, lk_ins, kV_str, kV_int, kV_kV, L2.start, E0, tForZ, zList, zTup, zStr, zRng1, zRng2, zEnumS, zEnumL, zKeys, zVals, zItems, tAugS, rGetL, rSetL, ipI, tyN_new, upd_same, tLcV, tDcZ, tYes, wipe, tLcZ, tScZ, cxOf, RVal, RTup, gTupU, gCons, gNil, tProp, tDGetU, sDPutU, rLenO, rDEqU, tBML, tBML0, tConU, tDNewK, rIsiO, sz2]
      refine fun p hpn => q p hpd _ sg prs (SubX.none h1' (fun e => h2'.nn.1 (by rw [← e]; exact hpn)) hpn) hn2 ?_ ?_ upd_same ?_ ok hi.ok
      · exact SubX.trans h1' (SubX.of (Sub.new hpn))
      · exact (h2'.sub (Sub.new hpn)).mono (by simp)
      · exact (Sub.new hpn).get h4'
    · rw [List.concat_eq_append] at e
      subst e
      rw [if_pos (by simp)]
      have ho := hi.pop
      obtain ⟨Iv, hIv⟩ : ∃ Iv : L2.St → Hp → Prop, Iv = fun σ' H'' => ∃ (left : List Nat) (prs : List (Nat × Nat)) (x y z : Option V), left.length ≤ init.length ∧ σ' = [some (.ref d), some (.int 2), some (.int 6), some (.ref lp), some (.str (txt sg)), some (.ref hpd), some (.ref lp2), x, y, z] ∧ SubX d H H'' ∧ PenAt H'' d c (N + 188 + 4 * (10 - left.length)) ∧ H'' lp2 = some (.lst (left.map sgn)) ∧ H'' hpd = some (.dK (hdV prs)) ∧ HInv sg left prs := ⟨_, rfl⟩
      refine ⟨Iv, ?_, ?_⟩
      · rw [hIv]
        rintro σ' H'' ⟨left', prs', x, y, z, e1, e2⟩
        exact ⟨_, by rw [List.length_append, List.length_singleton]; omega, left', prs', x, y, z, rfl, e2⟩
      have hl0 := hi.len
      rw [List.length_append, List.length_singleton] at hl0
      refine ⟨fun (σ : L2.St) (H5 : Hp) => ∃ way : Nat, way < 4 ∧ σ = [some (.ref d), some (.int 2), some (.int 6), some (.ref lp), some (.str (txt sg)), some (.ref hpd), some (.ref lp2), some (sgn one), some (.int way), z] ∧ SubX d H H5 ∧ PenAt H5 d c (N + 188 + 4 * (10 - init.length)) ∧ H5 lp2 = some (.lst (init.map sgn)) ∧ H5 hpd = some (.dK (hdV prs)), ?_, ?_⟩
      · have hne2 : hpd ≠ lp2 := fun e => hne e.symm
        have hu : SubX d H (upd H4 lp2 (.lst (init.map sgn))) := fun a ha hn => by
          rw [upd_ne (fun e => hn (by rw [e]; exact hn3)), h1' a ha hn]
        simp [tRet, tRetN, tDrop, tAsg, gName, tSeq, tNext, tIfS, tAndV, tOrV, tNotV, tAnd, tOr, tNot, tB, tTest, tVar, tC, tOp, tUn, tCons, tNil, tTup, tLst, tCB, tBM, tBM0, tM1, tM0, tCall, tMeth, tMake, tFldU, sFldU, tChain, tIf, tPar, tPar3, tAug, tDisp, tPairs, tDGet2, sDPut, rIsiU, rIsiTU, rLenU, rIxU, rInU, rNilU, rEqU, rNeU, rEq, rNe, rMax2U, rMin2U, rInt1U, rAbsU, scal, rAddU, rMulU, rI0, rI, rU, rListU, rTupU, rSumU, rAllU, rAnyU, rDictU, rSlU, tSl, tPart, tNoPart, rAppend, rExtend, rPop, rPopAt, rJoinU, rRepr, tSumVals, tyN_non, tyN_bl, tyN_int, tyN_str, tyN_ref, tyO_lst, tyO_tup, tyO_dK, tyO_flst, tyO_ftup, tyO_fdK, and_assoc, tyList, isT, tyAsk, lk_none, lk_frz, lk_lst, lk_tup, lk_dK, lk_ins, kV_str, kV_int, kV_kV, L2.start, E0, tForZ, zList, zTup, zStr, zRng1, zRng2, zEnumS, zEnumL, zKeys, zVals, zItems, tAugS, rGetL, rSetL, ipI, tyN_new, upd_same, tLcV, tDcZ, tYes, wipe, tLcZ, tScZ, cxOf, RVal, RTup, gTupU, gCons, gNil, tProp, tDGetU, sDPutU, rLenO, rDEqU, tBML, tBML0, tConU, tDNewK, rIsiO, sp__law_draw, h3']
        refine ⟨c, _, 4, rfl, hp.off hn3 h2', by omega, by omega, by omega, fun i H5 hi5 hs5 hp5 => ⟨i, hi5, rfl, SubX.trans hu hs5, hp5.mono (by simp; omega), ?_, ?_⟩⟩
        · exact SubX.get hs5 dl upd_same
        · exact SubX.get hs5 dh (by rw [upd_ne hne2]; exact h4')
      rintro σ H5 ⟨way, hway, rfl, g1, g2, g3, g4⟩
      have hsz := sizeLine_eq
      have hoff : ∀ {prs' : List (Key × V)}, SubX d H (upd H5 hpd (.dK prs')) := fun {prs'} a ha hn => by
        rw [upd_ne (fun e => hn (by rw [e]; exact hn2)), g1 a ha hn]
      refine ⟨fun (σ : L2.St) (H6 : Hp) => ∃ prs' : List (Nat × Nat), σ = [some (.ref d), some (.int 2), some (.int 6), some (.ref lp), some (.str (txt sg)), some (.ref hpd), some (.ref lp2), some (sgn one), some (.int way), z] ∧ SubX d H H6 ∧ PenAt H6 d c (N + 188 + 4 * (10 - init.length)) ∧ H6 lp2 = some (.lst (init.map sgn)) ∧ H6 hpd = some (.dK (hdV prs')) ∧ ((way = 0 ∧ HInv sg init prs') ∨ (way ≠ 0 ∧ HOne sg init prs' one)), ?_, ?_⟩
      · by_cases hw : way = 0
        · subst hw
          simp [tRet, tRetN, tDrop, tAsg, gName, tSeq, tNext, tIfS, tAndV, tOrV, tNotV, tAnd, tOr, tNot, tB, tTest, tVar, tC, tOp, tUn, tCons, tNil, tTup, tLst, tCB, tBM, tBM0, tM1, tM0, tCall, tMeth, tMake, tFldU, sFldU, tChain, tIf, tPar, tPar3, tAug, tDisp, tPairs, tDGet2, sDPut, rIsiU, rIsiTU, rLenU, rIxU, rInU, rNilU, rEqU, rNeU, rEq, rNe, rMax2U, rMin2U, rInt1U, rAbsU, scal, rAddU, rMulU, rI0, rI, rU, rListU, rTupU, rSumU, rAllU, rAnyU, rDictU, rSlU, tSl, tPart, tNoPart, rAppend, rExtend, rPop, rPopAt, rJoinU, rRepr, tSumVals, tyN_non, tyN_bl, tyN_int, tyN_str, tyN_ref, tyO_lst, tyO_tup, tyO_dK, tyO_flst, tyO_ftup, tyO_fdK, and_assoc, tyList, isT, tyAsk, lk_none, lk_frz, lk_lst, lk_tup, lk_dK, lk_ins, kV_str, kV_int, kV_kV, L2.start, E0, tForZ, zList, zTup, zStr, zRng1, zRng2, zEnumS, zEnumL, zKeys, zVals, zItems, tAugS, rGetL, rSetL, ipI, tyN_new, upd_same, tLcV, tDcZ, tYes, wipe, tLcZ, tScZ, cxOf, RVal, RTup, gTupU, gCons, gNil, tProp, tDGetU, sDPutU, rLenO, rDEqU, tBML, tBML0, tConU, tDNewK, rIsiO, g4]
          exact ⟨sk one, rfl, by simp [hdV]; omega, hoff, hp.off hn2 g2, by rw [upd_ne hne]; exact g3, _, putK_hd ho.nk, ho.put0⟩
        · simp [tRet, tRetN, tDrop, tAsg, gName, tSeq, tNext, tIfS, tAndV, tOrV, tNotV, tAnd, tOr, tNot, tB, tTest, tVar, tC, tOp, tUn, tCons, tNil, tTup, tLst, tCB, tBM, tBM0, tM1, tM0, tCall, tMeth, tMake, tFldU, sFldU, tChain, tIf, tPar, tPar3, tAug, tDisp, tPairs, tDGet2, sDPut, rIsiU, rIsiTU, rLenU, rIxU, rInU, rNilU, rEqU, rNeU, rEq, rNe, rMax2U, rMin2U, rInt1U, rAbsU, scal, rAddU, rMulU, rI0, rI, rU, rListU, rTupU, rSumU, rAllU, rAnyU, rDictU, rSlU, tSl, tPart, tNoPart, rAppend, rExtend, rPop, rPopAt, rJoinU, rRepr, tSumVals, tyN_non, tyN_bl, tyN_int, tyN_str, tyN_ref, tyO_lst, tyO_tup, tyO_dK, tyO_flst, tyO_ftup, tyO_fdK, and_assoc, tyList, isT, tyAsk, lk_none, lk_frz, lk_lst, lk_tup, lk_dK, lk_ins, kV_str, kV_int, kV_kV, L2.start, E0, tForZ, zList, zTup, zStr, zRng1, zRng2, zEnumS, zEnumL, zKeys, zVals, zItems, tAugS, rGetL, rSetL, ipI, tyN_new, upd_same, tLcV, tDcZ, tYes, wipe, tLcZ, tScZ, cxOf, RVal, RTup, gTupU, gCons, gNil, tProp, tDGetU, sDPutU, rLenO, rDEqU, tBML, tBML0, tConU, tDNewK, rIsiO, hw]
          exact ⟨g1, g2, g3, prs, g4, ho⟩
      rintro σ H6 ⟨prs', rfl, k1, k2, k3, k4, k5⟩
      refine tEqI rfl ?_
      by_cases hw : way = 1
      · rw [if_pos (by simp; omega)]
        have ho2 : HOne sg init prs' one := by
          rcases k5 with ⟨q1, _⟩ | ⟨_, q2⟩
          · omega
          · exact q2
        refine tNeNil rfl k3 fun H7 hs7 => ?_
        have m1 := SubX.trans k1 (SubX.of (d := d) hs7)
        have m2 := k2.sub hs7
        have m3 := hs7.get k3
        have m4 := hs7.get k4
        rcases List.eq_nil_or_concat init with e | ⟨init2, two, e⟩
        · subst e
          rw [if_neg (by simp)]
          show Iv _ _
          rw [hIv]
          exact ⟨[], prs', _, _, _, by simp, rfl, m1, m2, m3, m4, ho2.inv⟩
        · rw [List.concat_eq_append] at e
          subst e
          rw [if_pos (by simp)]
          obtain ⟨t1, t2, t3⟩ := ho2.put1
          have hl2 := ho2.len
          rw [List.length_append, List.length_singleton] at hl2
          have hne2 : hpd ≠ lp2 := fun e => hne e.symm
          have l3 := putK_len (l := hdV prs') (k := sk one) (v := sgn two)
          have l4 : (hdV prs').length = prs'.length := by simp [hdV]
          have e1 : putK (putK (hdV prs') (sk one) (sgn two)) (sk two) (sgn one) = hdV (prs' ++ [(one, two), (two, one)]) := by
            rw [putK_hd ho2.nk, putK_hd, List.append_assoc]
            · rfl
            · rw [List.map_append, List.mem_append]
              rintro (q | q)
              · exact t1 q
              · exact t2 (by simpa using q)
          simp [tRet, tRetN, tDrop, tAsg, gName, tSeq, tNext, tIfS, tAndV, tOrV, tNotV, tAnd, tOr, tNot, tB, tTest, tVar, tC, tOp, tUn, tCons, tNil, tTup, tLst, tCB, tBM, tBM0, tM1, tM0, tCall, tMeth, tMake, tFldU, sFldU, tChain, tIf, tPar, tPar3, tAug, tDisp, tPairs, tDGet2, sDPut, rIsiU, rIsiTU, rLenU, rIxU, rInU, rNilU, rEqU, rNeU, rEq, rNe, rMax2U, rMin2U, rInt1U, rAbsU, scal, rAddU, rMulU, rI0, rI, rU, rListU, rTupU, rSumU, rAllU, rAnyU, rDictU, rSlU, tSl, tPart, tNoPart, rAppend, rExtend, rPop, rPopAt, rJoinU, rRepr, tSumVals, tyN_non, tyN_bl, tyN_int, tyN_str, tyN_ref, tyO_lst, tyO_tup, tyO_dK, tyO_flst, tyO_ftup, tyO_fdK, and_assoc, tyList, isT, tyAsk, lk_none, lk_frz, lk_lst, lk_tup, lk_dK, lk_ins, kV_str, kV_int, kV_kV, L2.start, E0, tForZ, zList, zTup, zStr, zRng1, zRng2, zEnumS, zEnumL, zKeys, zVals, zItems, tAugS, rGetL, rSetL, ipI, tyN_new, upd_same, tLcV, tDcZ, tYes, wipe, tLcZ, tScZ, cxOf, RVal, RTup, gTupU, gCons, gNil, tProp, tDGetU, sDPutU, rLenO, rDEqU, tBML, tBML0, tConU, tDNewK, rIsiO, m3]
          refine ⟨_, by rw [upd_ne hne2]; exact m4, sk one, rfl, by omega, sk two, rfl, by omega, ?_⟩
          rw [hIv]
          refine ⟨init2, prs' ++ [(one, two), (two, one)], _, _, _, by simp, rfl, ?_, ?_, ?_, ?_, t3⟩
          · intro a ha hn
            have a1 : a ≠ hpd := fun e => hn (by rw [e]; exact hn2)
            have a2 : a ≠ lp2 := fun e => hn (by rw [e]; exact hn3)
            rw [upd_ne a1, upd_ne a1, upd_ne a2, m1 a ha hn]
          · exact (hp.off hn2 (hp.off hn2 (hp.off hn3 m2))).mono (by simp; omega)
          · rw [upd_ne hne, upd_ne hne, upd_same]
          · rw [upd_same, e1]
      · rw [if_neg (by simp; omega)]
        show (if false = true then _ else Iv _ _)
        rw [if_neg (by simp), hIv]
        have hv : HInv sg init prs' := by
          rcases k5 with ⟨_, q1⟩ | ⟨_, q2⟩
          · exact q1
          · exact q2.inv
        exact ⟨init, prs', _, _, _, Nat.le_refl _, rfl, k1, k2, k3, k4, hv⟩
end
end K74

set_option Elab.async false
set_option linter.all false
set_option maxRecDepth 100000
set_option maxHeartbeats 4000000
namespace K74
open PySem PySem.Spec PyProof.Rows L2 G
section
variable {P : Program} {w : World} {K : PySem.W.Frag} {mg : Str → Option Value} {base : Heap}
/-- a drawn font: its signs and its heads -/
def FHere (H : Hp) (d t : Addr) (sg : List Nat) (prs : List (Nat × Nat)) : Prop := ∃ hp, hp ≠ d ∧ t ≠ d ∧ H t = some (.tup [.str (txt sg), .ref hp]) ∧ H hp = some (.dK (hdV prs))
theorem FHere.subx {H H' : Hp} {d t : Addr} {sg : List Nat} {prs : List (Nat × Nat)} (s : SubX d H H') (h : FHere H d t sg prs) : FHere H' d t sg prs := by
  obtain ⟨hp, h1, h2, h3, h4⟩ := h
  exact ⟨hp, h1, h2, SubX.get s h2 h3, SubX.get s h1 h4⟩
def sp__law_turns (K : PySem.W.Frag) : Sp := fun vs H Q _ => ∃ d c N t sg prs, vs = [.ref d, .ref t] ∧ PenAt H d c N ∧ N ≤ 800000 ∧ FHere H d t sg prs ∧ SgOk sg ∧ HsOk sg prs ∧
  ∀ p H' ts, H p = none → SubX d H H' → PenAt H' d c (N + 100) → TurnsAt H' p ts → TsOk sg ts → Q (.ref p) H'
theorem ok__law_turns (T : Txt K mg) : FnOk P w K mg base CX0 7 (He.ga K "_law_turns") T.fd__law_turns ["_law_pen_here", "_law_font_here"] (sp__law_turns K) := by
  refine FunD.ok T.F__law_turns sc__law_turns (fun vs H Q E h => ?_) fun cdv A outer s H vs Q E hr h => ⟨_, PSs.nox (pss_cons (ps_asg (pv 1) (pg_tupU (n := 2) rfl (pgs_cons (pg_name (i := 2) sc__law_turns.nd rfl (by first | exact Or.inl rfl | exact Or.inr rfl)) (pgs_cons (pg_name (i := 3) sc__law_turns.nd rfl (by first | exact Or.inl rfl | exact Or.inr rfl)) pgs_nil))))
      (pss_cons (ps_set (i := 4) sc__law_turns.nd rfl (by first | exact Or.inl rfl | exact Or.inr rfl) (pe_lst pa_nil))
      (pss_cons (ps_forZ PassesOwn.never rfl (z_str (pv 2)) (pg_name (i := 5) sc__law_turns.nd rfl (by first | exact Or.inl rfl | exact Or.inr rfl)) (pss_one (ps_if (PW.pt (pw_and (pt_cmpR (op_inU (hu_of hr)) (pv 5) (pv 3) rfl) (pw_and1 (pt_cmpR op_le (pe_m1 PySem.F.slot_str_index PySem.F.type_str_index mt_sindex (pv 2) (pv 5)) (pe_m1 PySem.F.slot_str_index PySem.F.type_str_index mt_sindex (pv 2) (pe_ix (ix_U (hu_of hr)) (pv 3) (pv 5) (fun _ _ => rfl))) (nomark _))))) (pss_one (ps_expr (pe_bmL PySem.F.slot_list_append PySem.F.type_list_append mt_append (pv 4) (pa_cons (pe_call (ok__law_pick T) (hr.mono (by omega)) rfl T.g__law_pick T.F__law_pick.kp (b__law_pick T) .nil pass0 (pa_cons (pv 0) (pa_cons (pe_lst (pa_cons (pe_tup (pa_cons (pv 5) (pa_cons (pe_ix (ix_U (hu_of hr)) (pv 3) (pv 5) (fun _ _ => rfl)) pa_nil))) (pa_cons (pe_tup (pa_cons (pe_ix (ix_U (hu_of hr)) (pv 3) (pv 5) (fun _ _ => rfl)) (pa_cons (pv 5) pa_nil))) pa_nil))) pa_nil))) pa_nil)))) pss_nil)))
      (pss_one (ps_ret (pe_call (ok__law_shuffled T) (hr.mono (by omega)) rfl T.g__law_shuffled T.F__law_shuffled.kp (b__law_shuffled T) .nil pass0 (pa_cons (pv 0) (pa_cons (pv 4) pa_nil)))))))), ?_⟩
  · obtain ⟨d, c, N, t, sg, prs, rfl, _⟩ := h
    rfl
  · obtain ⟨d, c, N, t, sg, prs, rfl, hp, hN, ⟨hd, hne, tne, ht, hh⟩, ok, hs, q⟩ := h
    simp [tRet, tRetN, tDrop, tAsg, gName, tSeq, tNext, tIfS, tAndV, tOrV, tNotV, tAnd, tOr, tNot, tB, tTest, tVar, tC, tOp, tUn, tCons, tNil, tTup, tLst, tCB, tBM, tBM0, tM1, tM0, tCall, tMeth, tMake, tFldU, sFldU, tChain, tIf, tPar, tPar3, tAug, tDisp, tPairs, tDGet2, sDPut, rIsiU, rIsiTU, rLenU, rIxU, rInU, rNilU, rEqU, rNeU, rEq, rNe, rMax2U, rMin2U, rInt1U, rAbsU, scal, rAddU, rMulU, rI0, rI, rU, rListU, rTupU, rSumU, rAllU, rAnyU, rDictU, rSlU, tSl, tPart, tNoPart, rAppend, rExtend, rPop, rPopAt, rJoinU, rRepr, tSumVals, tyN_non, tyN_bl, tyN_int, tyN_str, tyN_ref, tyO_lst, tyO_tup, tyO_dK, tyO_flst, tyO_ftup, tyO_fdK, and_assoc, tyList, isT, tyAsk, lk_none, lk_frz, lk_lst, lk_tup, lk_dK, lk_ins, kV_str, kV_int, kV_kV, L2.start, E0, tForZ, zList, zTup, zStr, zRng1, zRng2, zEnumS, zEnumL, zKeys, zVals, zItems, tAugS, rGetL, rSetL, ipI, tyN_new, upd_same, tLcV, tDcZ, tYes, wipe, tLcZ, tScZ, cxOf, RVal, RTup, gTupU, gCons, gNil, tProp, tDGetU, sDPutU, rLenO, rDEqU, tBML, tBML0, tConU, tDNewK, rIsiO, ht]
    intro p hpn
    have hn0 : Sub H (upd H p (.lst [])) := Sub.new hpn
    have pd : p ≠ d := fun e => hp.nn.1 (by rw [← e]; exact hpn)
    rw [txt_list]
    obtain ⟨Pv, hPv⟩ : ∃ Pv : Nat → L2.St → Hp → Prop, Pv = fun i σ H3 => ∃ (ts : List (Nat × Nat)) (x : Option V), σ = [some (V.ref d), some (V.ref t), some (V.str (txt sg)), some (V.ref hd), some (V.ref p), x] ∧ SubX d H H3 ∧ PenAt H3 d c (N + 4 * i) ∧
      (∃ rs : List Addr, H3 p = some (.lst (rs.map V.ref)) ∧ Paired (fun r p => H3 r = some (.tup [sgn p.1, sgn p.2])) rs ts) ∧ TsInv sg prs (sg.take i) ts := ⟨_, rfl⟩
    refine loop_ix Pv (by rw [hPv]; exact ⟨[], none, rfl, SubX.of hn0, hp.sub hn0, ⟨[], upd_same, .nil⟩, by simpa using TsInv.nil⟩) (fun _ _ _ _ => trivial) ?_ ?_
    · intro i z σ H3 v H4 hz hP hr
      rw [hPv] at hP
      obtain ⟨ts, x, rfl, h1, h2, ⟨rs, h3, h4⟩, h5⟩ := hP
      obtain ⟨rfl, rfl⟩ := hr
      have hz' : z ∈ sg := List.mem_of_getElem? hz
      have hh3 := SubX.get h1 hne hh
      have hnd : z ∉ sg.take i := by
        intro hm
        have hi := (List.getElem?_eq_some_iff.mp hz).1
        have e1 := (List.getElem?_eq_some_iff.mp hz).2
        obtain ⟨j, hj, e2⟩ := List.mem_iff_getElem.mp hm
        rw [List.length_take] at hj
        rw [List.getElem_take] at e2
        have := (List.getElem_inj ok.nd).mp (e2.trans e1.symm)
        omega
      have lk1 := valV_hd z prs
      have hlen := ok.hi
      have hi := (List.getElem?_eq_some_iff.mp hz).1
      have skip : Pv (i + 1) [some (V.ref d), some (V.ref t), some (V.str (txt sg)), some (V.ref hd), some (V.ref p), some (V.str ⟨#[z]⟩)] H4 := by
        rw [hPv]
        exact ⟨ts, _, rfl, h1, h2.mono (by omega), ⟨rs, h3, h4⟩, by rw [take_at hz]; exact h5.skip z⟩
      cases e : prs.lookup z with
      | none =>
        rw [e] at lk1
        have lk1 : valV (hdV prs) (Sum.inr ⟨#[z]⟩) = none := lk1
        simp [tRet, tRetN, tDrop, tAsg, gName, tSeq, tNext, tIfS, tAndV, tOrV, tNotV, tAnd, tOr, tNot, tB, tTest, tVar, tC, tOp, tUn, tCons, tNil, tTup, tLst, tCB, tBM, tBM0, tM1, tM0, tCall, tMeth, tMake, tFldU, sFldU, tChain, tIf, tPar, tPar3, tAug, tDisp, tPairs, tDGet2, sDPut, rIsiU, rIsiTU, rLenU, rIxU, rInU, rNilU, rEqU, rNeU, rEq, rNe, rMax2U, rMin2U, rInt1U, rAbsU, scal, rAddU, rMulU, rI0, rI, rU, rListU, rTupU, rSumU, rAllU, rAnyU, rDictU, rSlU, tSl, tPart, tNoPart, rAppend, rExtend, rPop, rPopAt, rJoinU, rRepr, tSumVals, tyN_non, tyN_bl, tyN_int, tyN_str, tyN_ref, tyO_lst, tyO_tup, tyO_dK, tyO_flst, tyO_ftup, tyO_fdK, and_assoc, tyList, isT, tyAsk, lk_none, lk_frz, lk_lst, lk_tup, lk_dK, lk_ins, kV_str, kV_int, kV_kV, L2.start, E0, tForZ, zList, zTup, zStr, zRng1, zRng2, zEnumS, zEnumL, zKeys, zVals, zItems, tAugS, rGetL, rSetL, ipI, tyN_new, upd_same, tLcV, tDcZ, tYes, wipe, tLcZ, tScZ, cxOf, RVal, RTup, gTupU, gCons, gNil, tProp, tDGetU, sDPutU, rLenO, rDEqU, tBML, tBML0, tConU, tDNewK, rIsiO, sgn, hh3, lk1]
        exact skip
      | some b =>
        rw [e] at lk1
        have lk1 : valV (hdV prs) (Sum.inr ⟨#[z]⟩) = some (sgn b) := lk1
        have hzb := mem_of_lookup e
        have hb : b ∈ sg := hs.mem _ (hs.sym _ _ hzb)
        have i1 := index_one (txt sg) z (by rw [txt_list]; exact hz')
        have i2 := index_one (txt sg) b (by rw [txt_list]; exact hb)
        rw [txt_list] at i1 i2
        simp [tRet, tRetN, tDrop, tAsg, gName, tSeq, tNext, tIfS, tAndV, tOrV, tNotV, tAnd, tOr, tNot, tB, tTest, tVar, tC, tOp, tUn, tCons, tNil, tTup, tLst, tCB, tBM, tBM0, tM1, tM0, tCall, tMeth, tMake, tFldU, sFldU, tChain, tIf, tPar, tPar3, tAug, tDisp, tPairs, tDGet2, sDPut, rIsiU, rIsiTU, rLenU, rIxU, rInU, rNilU, rEqU, rNeU, rEq, rNe, rMax2U, rMin2U, rInt1U, rAbsU, scal, rAddU, rMulU, rI0, rI, rU, rListU, rTupU, rSumU, rAllU, rAnyU, rDictU, rSlU, tSl, tPart, tNoPart, rAppend, rExtend, rPop, rPopAt, rJoinU, rRepr, tSumVals, tyN_non, tyN_bl, tyN_int, tyN_str, tyN_ref, tyO_lst, tyO_tup, tyO_dK, tyO_flst, tyO_ftup, tyO_fdK, and_assoc, tyList, isT, tyAsk, lk_none, lk_frz, lk_lst, lk_tup, lk_dK, lk_ins, kV_str, kV_int, kV_kV, L2.start, E0, tForZ, zList, zTup, zStr, zRng1, zRng2, zEnumS, zEnumL, zKeys, zVals, zItems, tAugS, rGetL, rSetL, ipI, tyN_new, upd_same, tLcV, tDcZ, tYes, wipe, tLcZ, tScZ, cxOf, RVal, RTup, gTupU, gCons, gNil, tProp, tDGetU, sDPutU, rLenO, rDEqU, tBML, tBML0, tConU, tDNewK, rIsiO, sgn, hh3, lk1, i1, i2, sp__law_pick, h3]
        refine ite_all (fun hle => ⟨sz2, fun p1 hp1 => ?_⟩) (fun _ => skip)
        have s1 : Sub H4 (upd H4 p1 (.tup [V.str ⟨#[z]⟩, V.str ⟨#[b]⟩])) := Sub.new hp1
        have g1 : upd H4 p1 (.tup [V.str ⟨#[z]⟩, V.str ⟨#[b]⟩]) p1 = some (.tup [sgn z, sgn b]) := upd_same
        refine ⟨hdV prs, by rw [s1.get hh3]; rfl, sgn b, lk1, sz2, fun p2 hp2 => ⟨sz2, fun p3 hp3 => ?_⟩⟩
        have s2 := s1.trans (Sub.new (o := .tup [sgn b, V.str ⟨#[z]⟩]) hp2)
        have s3 := s2.trans (Sub.new (o := .lst [V.ref p1, V.ref p2]) hp3)
        have g2 : upd (upd H4 p1 (.tup [V.str ⟨#[z]⟩, V.str ⟨#[b]⟩])) p2 (.tup [sgn b, V.str ⟨#[z]⟩]) p2 = some (.tup [sgn b, sgn z]) := upd_same
        have g1' := (Sub.new (o := .lst [V.ref p1, V.ref p2]) hp3).get ((Sub.new (o := .tup [sgn b, V.str ⟨#[z]⟩]) hp2).get g1)
        have g2' := (Sub.new (o := .lst [V.ref p1, V.ref p2]) hp3).get g2
        generalize upd (upd (upd H4 p1 (.tup [V.str ⟨#[z]⟩, V.str ⟨#[b]⟩])) p2 (.tup [sgn b, V.str ⟨#[z]⟩])) p3 (.lst [V.ref p1, V.ref p2]) = H5 at *
        have h25 := h2.sub s3
        refine ⟨c, _, h25, by omega, fun x H6 hx hs6 hp6 => ?_⟩
        obtain ⟨r, pr, rfl, hpr, hr6⟩ : ∃ (r : Addr) (pr : Nat × Nat), x = V.ref r ∧ (pr = (z, b) ∨ pr = (b, z)) ∧ H6 r = some (.tup [sgn pr.1, sgn pr.2]) := by
          rcases hx with rfl | rfl
          · exact ⟨p1, (z, b), rfl, Or.inl rfl, SubX.get hs6 (h25.ne g1' nofun) g1'⟩
          · exact ⟨p2, (b, z), rfl, Or.inr rfl, SubX.get hs6 (h25.ne g2' nofun) g2'⟩
        have h36 := SubX.trans (SubX.of (d := d) s3) hs6
        have hp36 := SubX.get h36 pd h3
        have l1 := Paired.length h4
        have l2 := h5.len
        rw [List.length_take] at l2
        refine ⟨rs.map V.ref, hp36, by rw [List.length_map, sizeLine_eq]; omega, ?_⟩
        rw [hPv]
        refine ⟨ts ++ [pr], _, rfl, ?_, hp.off hpn (hp6.mono (by omega)), ⟨rs ++ [r], by rw [upd_same, List.map_append]; rfl, ?_⟩, by rw [take_at hz]; exact h5.add hs ok.nd hzb hpr hnd hle⟩
        · intro a ha hn
          rw [upd_ne (fun e => hn (by rw [e]; exact hpn)), (SubX.trans h1 h36) a ha hn]
        · refine Paired.snoc (Paired.mapP h4 fun r' pr' hr' => ?_) ?_
          · rw [upd_ne (fun e => by rw [e, h3] at hr'; cases hr')]
            exact SubX.get h36 (h2.ne hr' nofun) hr'
          · rw [upd_ne (fun e => by rw [e, hp36] at hr6; cases hr6)]
            exact hr6
    · intro σ H3 hP
      rw [hPv] at hP
      obtain ⟨ts, x, rfl, h1, h2, ⟨rs, h3, h4⟩, h5⟩ := hP
      have l1 := Paired.length h4
      have l2 := h5.len
      rw [List.take_length] at h5 l2
      have l3 := ok.hi
      simp [tRet, tRetN, tDrop, tAsg, gName, tSeq, tNext, tIfS, tAndV, tOrV, tNotV, tAnd, tOr, tNot, tB, tTest, tVar, tC, tOp, tUn, tCons, tNil, tTup, tLst, tCB, tBM, tBM0, tM1, tM0, tCall, tMeth, tMake, tFldU, sFldU, tChain, tIf, tPar, tPar3, tAug, tDisp, tPairs, tDGet2, sDPut, rIsiU, rIsiTU, rLenU, rIxU, rInU, rNilU, rEqU, rNeU, rEq, rNe, rMax2U, rMin2U, rInt1U, rAbsU, scal, rAddU, rMulU, rI0, rI, rU, rListU, rTupU, rSumU, rAllU, rAnyU, rDictU, rSlU, tSl, tPart, tNoPart, rAppend, rExtend, rPop, rPopAt, rJoinU, rRepr, tSumVals, tyN_non, tyN_bl, tyN_int, tyN_str, tyN_ref, tyO_lst, tyO_tup, tyO_dK, tyO_flst, tyO_ftup, tyO_fdK, and_assoc, tyList, isT, tyAsk, lk_none, lk_frz, lk_lst, lk_tup, lk_dK, lk_ins, kV_str, kV_int, kV_kV, L2.start, E0, tForZ, zList, zTup, zStr, zRng1, zRng2, zEnumS, zEnumL, zKeys, zVals, zItems, tAugS, rGetL, rSetL, ipI, tyN_new, upd_same, tLcV, tDcZ, tYes, wipe, tLcZ, tScZ, cxOf, RVal, RTup, gTupU, gCons, gNil, tProp, tDGetU, sDPutU, rLenO, rDEqU, tBML, tBML0, tConU, tDNewK, rIsiO, sp__law_shuffled]
      refine ⟨c, _, h2, rs.map V.ref, ?_, Or.inr ⟨p, rfl, h3⟩, ?_, ?_⟩
      · rw [List.length_map]
        omega
      · rw [List.length_map]
        omega
      · intro p2 H4 ys hn hs4 hp4 hl4 hpm
        rw [List.length_map] at hp4
        obtain ⟨rs', rfl, hrs⟩ := perm_of_map (f := V.ref) hpm
        obtain ⟨ts', h6, h7⟩ := paired_perm hrs h4
        refine q p2 H4 ts' (SubX.none h1 (fun e => h2.nn.1 (by rw [← e]; exact hn)) hn) (SubX.trans h1 hs4) (hp4.mono (by omega)) ⟨rs', hl4, ?_⟩ (h5.ok hs (by omega) h7)
        refine Paired.mapP h6 fun r pr hr => SubX.get hs4 (h2.ne hr nofun) hr
theorem TurnsAt.sub {H H' : Hp} {t : Addr} {ts : List (Nat × Nat)} (s : Sub H H') (h : TurnsAt H t ts) : TurnsAt H' t ts := by
  obtain ⟨rs, h1, h2⟩ := h
  exact ⟨rs, s.get h1, Paired.mapP h2 fun _ _ hr => s.get hr⟩
theorem b_Font_ddinitdd (T : Txt K mg) : Binds K T.fd_Font_ddinitdd ["self", "signs", "turns"] [] := by
  obtain ⟨ds, hv, hb⟩ := T.F_Font_ddinitdd.binds1 (ps := ["self", "signs", "turns"]) 3 1 (by simp) rfl (fun _ _ _ _ _ _ _ us its hl hi => match us, its, hl, hi with | [_, _, _], [_], _, _ => ⟨_, rfl, rfl⟩)
  cases hv
  exact hb
/-- a font that no draw changes -/
def FontS (K : PySem.W.Frag) (H : Hp) (d x : Addr) (sg : List Nat) : Prop := ∀ H', SubX d H H' → FontAt K H' x sg
theorem FontS.at {K : PySem.W.Frag} {H : Hp} {d x : Addr} {sg : List Nat} (h : FontS K H d x sg) : FontAt K H x sg := h H fun _ _ _ => rfl
theorem FontS.subx {K : PySem.W.Frag} {H H' : Hp} {d x : Addr} {sg : List Nat} (s : SubX d H H') (h : FontS K H d x sg) : FontS K H' d x sg := fun H2 s2 => h H2 (SubX.trans s s2)
def SkKeys (l : List (Key × V)) : Prop := ∀ p ∈ l, ∃ c, p.1 = sk c
theorem sk_cells (c : Nat) : ¬ sk c = Sum.inr ("cells" : Str) := by
  intro e
  injection e with e
  have := congrArg Str.length e
  revert this
  show ¬ 1 = (Str.ofString "cells").length
  decide +kernel
theorem SkKeys.none : ∀ {l : List (Key × V)}, SkKeys l → valV l (Sum.inr ("cells" : Str)) = none
  | [], _ => rfl
  | kv :: l, h => by
    obtain ⟨c, hc⟩ := h kv List.mem_cons_self
    rw [valV_cons, if_neg, SkKeys.none fun p hp => h p (List.mem_cons_of_mem _ hp)]
    rw [hc]
    exact sk_cells c
theorem SkKeys.put {l : List (Key × V)} {c : Nat} {v : V} (h : SkKeys l) : SkKeys (putK l (sk c) v) := by
  unfold putK
  split
  · intro p hp
    obtain ⟨z, hz, rfl⟩ := List.mem_map.mp hp
    obtain ⟨a, ha⟩ := h z hz
    refine ⟨a, ?_⟩
    split
    · exact ha
    · exact ha
  · intro p hp
    rcases List.mem_append.mp hp with hp | hp
    · exact h p hp
    · rw [List.mem_singleton.mp hp]
      exact ⟨c, rfl⟩
theorem headsOf_sk : ∀ (ts : List (Nat × Nat)) (l : List (Key × V)), SkKeys l → SkKeys (ts.foldl (fun l p => putK (putK l (sk p.1) (sgn p.2)) (sk p.2) (sgn p.1)) l)
  | [], l, h => h
  | p :: ts, l, h => headsOf_sk ts _ h.put.put
theorem ranksOf_sk (sg : List Nat) : SkKeys (ranksOf sg) := by
  intro p hp
  obtain ⟨z, hz, rfl⟩ := List.mem_map.mp hp
  exact ⟨z.1, rfl⟩
theorem PenAt.nosk {H : Hp} {d c r : Addr} {N : Nat} {l : List (Key × V)} (h : PenAt H d c N) (hr : H r = some (.dK l)) (hs : SkKeys l) : r ≠ d := by
  intro e
  obtain ⟨cs, u, l2, h1, _⟩ := h
  rw [e, h1] at hr
  injection hr with hr
  injection hr with hr
  have h2 := hs.none
  rw [← hr, pen_cells] at h2
  cases h2
def sp__law_made_font (K : PySem.W.Frag) : Sp := fun vs H Q _ => ∃ d c N t sg prs, vs = [.ref d, .ref t] ∧ PenAt H d c N ∧ N ≤ 800000 ∧ FHere H d t sg prs ∧ SgOk sg ∧ HsOk sg prs ∧
  ∀ x H', H x = none → SubX d H H' → PenAt H' d c (N + 100) → FontS K H' d x sg → Q (.ref x) H'
theorem ok__law_made_font (T : Txt K mg) : FnOk P w K mg base CX0 8 (He.ga K "_law_made_font") T.fd__law_made_font ["_law_pen_here", "_law_font_here"] (sp__law_made_font K) := by
  refine FunD.ok T.F__law_made_font sc__law_made_font (fun vs H Q E h => ?_) fun cdv A outer s H vs Q E hr h => ⟨_, PSs.nox (pss_one (ps_ret (pe_make T.mk_Font (ok_Font_ddinitdd T) (hr.mono (by omega)) rfl T.g_Font (b_Font_ddinitdd T) .nil pass0 (pa_cons (pe_ix (ix_U (hu_of hr)) (pv 1) pe_int (fun _ _ => rfl)) (pa_cons (pe_call (ok__law_turns T) (hr.mono (by omega)) rfl T.g__law_turns T.F__law_turns.kp (b__law_turns T) .nil pass0 (pa_cons (pv 0) (pa_cons (pv 1) pa_nil))) pa_nil))))), ?_⟩
  · obtain ⟨d, c, N, t, sg, prs, rfl, _⟩ := h
    rfl
  · obtain ⟨d, c, N, t, sg, prs, rfl, hp, hN, hf, ok, hs, q⟩ := h
    obtain ⟨hd, hne, tne, ht, hh⟩ := id hf
    simp [tRet, tRetN, tDrop, tAsg, gName, tSeq, tNext, tIfS, tAndV, tOrV, tNotV, tAnd, tOr, tNot, tB, tTest, tVar, tC, tOp, tUn, tCons, tNil, tTup, tLst, tCB, tBM, tBM0, tM1, tM0, tCall, tMeth, tMake, tFldU, sFldU, tChain, tIf, tPar, tPar3, tAug, tDisp, tPairs, tDGet2, sDPut, rIsiU, rIsiTU, rLenU, rIxU, rInU, rNilU, rEqU, rNeU, rEq, rNe, rMax2U, rMin2U, rInt1U, rAbsU, scal, rAddU, rMulU, rI0, rI, rU, rListU, rTupU, rSumU, rAllU, rAnyU, rDictU, rSlU, tSl, tPart, tNoPart, rAppend, rExtend, rPop, rPopAt, rJoinU, rRepr, tSumVals, tyN_non, tyN_bl, tyN_int, tyN_str, tyN_ref, tyO_lst, tyO_tup, tyO_dK, tyO_flst, tyO_ftup, tyO_fdK, and_assoc, tyList, isT, tyAsk, lk_none, lk_frz, lk_lst, lk_tup, lk_dK, lk_ins, kV_str, kV_int, kV_kV, L2.start, E0, tForZ, zList, zTup, zStr, zRng1, zRng2, zEnumS, zEnumL, zKeys, zVals, zItems, tAugS, rGetL, rSetL, ipI, tyN_new, upd_same, tLcV, tDcZ, tYes, wipe, tLcZ, tScZ, cxOf, RVal, RTup, gTupU, gCons, gNil, tProp, tDGetU, sDPutU, rLenO, rDEqU, tBML, tBML0, tConU, tDNewK, rIsiO, ht, sp__law_turns]
    refine ⟨V.str (txt sg), rfl, c, N, hp, hN, sg, prs, hf, ok, hs, fun p H1 ts hn hs1 hp1 htu hts x dx hx hdx hxd => ?_⟩
    have s5 : Sub H1 (upd (upd H1 dx (.own x)) x (.ins (He.ga K "Font") dx [])) := sub_upd (Sub.new hdx) hx
    have gx : upd (upd H1 dx (.own x)) x (.ins (He.ga K "Font") dx []) x = some (.ins (He.ga K "Font") dx []) := upd_same
    have xd : x ≠ d := fun e => hp1.nn.1 (by rw [← e]; exact hx)
    have xc : x ≠ c := fun e => hp1.nn.2 (by rw [← e]; exact hx)
    have hx0 : H x = none := SubX.none hs1 xd hx
    show sp_Font_ddinitdd K _ (upd (upd H1 dx (.own x)) x (.ins (He.ga K "Font") dx [])) _ _
    generalize upd (upd H1 dx (.own x)) x (.ins (He.ga K "Font") dx []) = H5 at *
    refine ⟨x, dx, sg, p, ts, rfl, gx, ok, htu.sub s5, hts, fun H' r h hsx hx' hr hh' => ?_⟩
    have pen' : PenAt H' d c (N + 100) := by
      refine hp1.keep ?_ ?_
      · rw [hsx d (fun e => xd e.symm) (by rw [s5 d hp1.nn.1]; exact hp1.nn.1), s5 d hp1.nn.1]
      · rw [hsx c (fun e => xc e.symm) (by rw [s5 c hp1.nn.2]; exact hp1.nn.2), s5 c hp1.nn.2]
    have hrd := pen'.nosk hr (ranksOf_sk sg)
    have hhd := pen'.nosk hh' (headsOf_sk ts [] (by intro p hp; cases hp))
    refine ⟨rfl, q x H' hx0 ?_ pen' fun H2 s2 => ⟨dx, r, h, headsOf ts, SubX.get s2 xd hx', by rw [SubX.get s2 hrd hr]; rfl, by rw [SubX.get s2 hhd hh']; rfl, ?_, ?_⟩⟩
    · intro a ha hn
      have h1 : H1 a ≠ none := by rw [hs1 a ha hn]; exact hn
      rw [hsx a (fun e => hn (by rw [e]; exact hx0)) (by rw [s5 a h1]; exact h1), s5 a h1, hs1 a ha hn]
    · exact (headsOf_ok ts [] (by simp) (by simp)).2
    · exact (headsOf_ok ts [] (by simp) (by simp)).1
end
end K74

set_option Elab.async false
set_option linter.all false
set_option maxRecDepth 100000
/-! k74: what repr shows of counts. -/
namespace K74
open PySem PySem.Spec PyProof.Rows L2 G
def dD (cs : List (Nat × Int)) : PyData := .dict (cs.map fun z => (.str ⟨#[z.1]⟩, .int z.2))
theorem dt_ints {K : PySem.W.Frag} {H : Hp} : ∀ cs : List (Nat × Int), DtAll K H ((cnts cs).map (·.2)) (cs.map fun z => PyData.int z.2) []
  | [] => .nil
  | z :: cs => by
    have := DtAll.cons (Dt.int (K := K) (H := H) z.2) (dt_ints cs)
    simpa [cnts] using this
theorem dt_cnts {K : PySem.W.Frag} {H : Hp} {a : Addr} {cs : List (Nat × Int)} (h : Rd H a (.dK (cnts cs))) : Dt K H (.ref a) (dD cs) [a] := by
  have := Dt.dct h (dt_ints (K := K) (H := H) cs)
  have e : ((cnts cs).map fun q => kD q.1).zip (cs.map fun z => PyData.int z.2) = cs.map fun z => (PyData.str ⟨#[z.1]⟩, PyData.int z.2) := by
    clear this h
    induction cs with
    | nil => rfl
    | cons z cs ih =>
      simp only [cnts, List.map_cons, List.map_map, List.zip_cons_cons] at ih ⊢
      rw [ih]
      rfl
  rw [e] at this
  exact this
theorem kv_ok : ∀ (cs : List (Nat × Int)), (∀ z ∈ cs, z.1 < 1000 ∧ z.2.natAbs < 10 ^ 12) →
    PyData.showableKv (cs.map fun z => (.str ⟨#[z.1]⟩, .int z.2)) = true ∧ PyData.leavesShortKv 13 (cs.map fun z => (.str ⟨#[z.1]⟩, .int z.2)) = true ∧ PyData.weightKv (cs.map fun z => (.str ⟨#[z.1]⟩, .int z.2)) ≤ 50 * cs.length ∧ PyData.depthKv (cs.map fun z => (.str ⟨#[z.1]⟩, .int z.2)) ≤ 5
  | [], _ => by
    refine ⟨rfl, rfl, by simp [PyData.weightKv], by simp [PyData.depthKv]⟩
  | z :: cs, h => by
    obtain ⟨h1, h2, h3, h4⟩ := kv_ok cs fun x hx => h x (List.mem_cons_of_mem _ hx)
    obtain ⟨g1, g2⟩ := h z List.mem_cons_self
    have g3 := PyData.shown_int_le g2
    refine ⟨?_, ?_, ?_, ?_⟩
    · simp only [List.map_cons, PyData.showableKv, PyData.showable, Bool.true_and, Bool.and_eq_true, decide_eq_true_eq]
      refine ⟨?_, h1⟩
      by_cases e : z.2.natAbs = 0
      · rw [e]; decide
      · rw [Nat.log2_lt e]
        have : (10 : Nat) ^ 12 < 2 ^ 1920 := by decide
        omega
    · simp only [List.map_cons, PyData.leavesShortKv, PyData.leavesShort, Bool.and_eq_true, decide_eq_true_eq]
      refine ⟨⟨?_, g3⟩, h2⟩
      simp
      omega
    · simp only [List.map_cons, PyData.weightKv, PyData.weight, List.length_cons]
      have h5 : z.2 = 0 ∨ z.2.natAbs.log2 < 40 := by
        by_cases e : z.2.natAbs = 0
        · exact Or.inl (by omega)
        · right
          rw [Nat.log2_lt e]
          have : (10 : Nat) ^ 12 < 2 ^ 40 := by decide
          omega
      have h6 : (if z.2 = 0 then 0 else z.2.natAbs.log2 + 1) ≤ 41 := by
        split
        · omega
        · rcases h5 with q | q
          · contradiction
          · omega
      simp
      omega
    · simp only [List.map_cons, PyData.depthKv, PyData.depth]
      omega
theorem dD_ok {cs : List (Nat × Int)} (h : ∀ z ∈ cs, z.1 < 1000 ∧ z.2.natAbs < 10 ^ 12) (hl : cs.length ≤ 1000) : (dD cs).showable = true ∧ (dD cs).depth ≤ 60 ∧ (dD cs).shown.length ≤ sizeLine := by
  obtain ⟨h1, h2, h3, h4⟩ := kv_ok cs h
  refine ⟨?_, ?_, ?_⟩
  · unfold dD
    simp only [PyData.showable]
    exact h1
  · unfold dD
    simp only [PyData.depth]
    omega
  · refine PyData.shown_fits (B := 13) (by decide) (by decide) ?_ ?_
    · unfold dD
      simp only [PyData.leavesShort]
      exact h2
    · unfold dD
      simp only [PyData.weight]
      have : (2 : Nat) ^ 20 = 1048576 := by decide
      omega
theorem tally_le {b d f : Nat} : ∀ k, (∀ j, j < k → (rowD b (f + j) (f + j)).length ≤ 110) → tallyD b d f k ≤ 110 * k
  | 0, _ => by simp [tallyD]
  | k + 1, h => by
    have h1 := tally_le (b := b) (d := d) (f := f) k fun j hj => h j (by omega)
    have h2 := h k (by omega)
    have h3 := List.count_le_length (a := d) (l := rowD b (f + k) (f + k))
    unfold tallyD
    omega
end K74

set_option Elab.async false
set_option linter.all false
set_option maxRecDepth 100000
set_option maxHeartbeats 4000000
namespace K74
open PySem PySem.Spec PyProof.Rows L2 G
section
variable {P : Program} {w : World} {K : PySem.W.Frag} {mg : Str → Option Value} {base : Heap}
theorem few_digits {l n : Nat} {acc : List Nat} (h : l * 2 ^ acc.length ≤ n) (hn : n ≤ 10 ^ 31) (z : l ≠ 0) : acc.length ≤ 110 := by
  have h3 : 2 ^ acc.length ≤ 10 ^ 31 := by
    have : 1 * 2 ^ acc.length ≤ l * 2 ^ acc.length := Nat.mul_le_mul_right _ (by omega)
    omega
  by_cases h4 : acc.length ≤ 110
  · exact h4
  · have h5 : 2 ^ 111 ≤ 2 ^ acc.length := Nat.pow_le_pow_right (by decide) (by omega)
    have h6 : (10 : Nat) ^ 31 < 2 ^ 111 := by decide
    omega
def sp_digits_of (K : PySem.W.Frag) : Sp := fun vs H Q _ => ∃ n b : Nat, vs = [.int n, .int b] ∧ 2 ≤ b ∧ b ≤ 100 ∧ n ≤ 10 ^ 31 ∧ ∀ p H', H p = none → Sub H H' → H' p = some (.lst ((rw' b n).map fun d : Nat => V.int (d : Nat))) → Q (.ref p) H'
theorem ok_digits_of (T : Txt K mg) : FnOk P w K mg base CX0 1 (He.ga K "digits_of") T.fd_digits_of ["number", "base"] (sp_digits_of K) := by
  refine FunD.ok T.F_digits_of sc_digits_of (fun vs H Q E h => ?_) fun cdv A outer s H vs Q E hr h => ⟨_, PSs.nox (pss_cons (ps_set (i := 2) sc_digits_of.nd rfl (by first | exact Or.inl rfl | exact Or.inr rfl) (pe_lst pa_nil))
      (pss_cons (ps_while PassesOwn.never (pt_cmpR op_gt (pv 0) pe_int (nomark _)) (pss_cons (ps_expr (pe_bmL PySem.F.slot_list_append PySem.F.type_list_append mt_append (pv 2) (pa_cons (pe_op op_mod (pv 0) (pv 1)) pa_nil)))
      (pss_one (ps_set (i := 0) sc_digits_of.nd rfl (by first | exact Or.inl rfl | exact Or.inr rfl) (pe_op op_fdivW (pv 0) (pv 1))))))
      (pss_one (ps_ret (pe_revL (pv 2)))))), ?_⟩
  · obtain ⟨n, b, rfl, _⟩ := h
    rfl
  · obtain ⟨n, b, rfl, hb, hb2, hn, q⟩ := h
    have hsl := sizeLine_eq
    simp [tRet, tRetN, tDrop, tAsg, gName, tSeq, tNext, tIfS, tAndV, tOrV, tNotV, tAnd, tOr, tNot, tB, tTest, tVar, tC, tOp, tUn, tCons, tNil, tTup, tLst, tCB, tBM, tBM0, tM1, tM0, tCall, tMeth, tMake, tFldU, sFldU, tChain, tIf, tPar, tPar3, tAug, tDisp, tPairs, tDGet2, sDPut, rIsiU, rIsiTU, rLenU, rIxU, rInU, rNilU, rEqU, rNeU, rEq, rNe, rMax2U, rMin2U, rInt1U, rAbsU, scal, rAddU, rMulU, rI0, rI, rU, rListU, rTupU, rSumU, rAllU, rAnyU, rDictU, rSlU, tSl, tPart, tNoPart, rAppend, rExtend, rPop, rPopAt, rJoinU, rRepr, tSumVals, tyN_non, tyN_bl, tyN_int, tyN_str, tyN_ref, tyO_lst, tyO_tup, tyO_dK, tyO_flst, tyO_ftup, tyO_fdK, and_assoc, tyList, isT, tyAsk, lk_none, lk_frz, lk_lst, lk_tup, lk_dK, lk_ins, kV_str, kV_int, kV_kV, L2.start, E0, tForZ, zList, zTup, zStr, zRng1, zRng2, zEnumS, zEnumL, zKeys, zVals, zItems, tAugS, rGetL, rSetL, ipI, tyN_new, upd_same, tLcV, tDcZ, tYes, wipe, tLcZ, tScZ, cxOf, RVal, RTup, gTupU, gCons, gNil, tProp, tDGetU, sDPutU, rLenO, rDEqU, tBML, tBML0, tConU, tDNewK, rIsiO]
    intro p hp
    refine ⟨fun m σ H' => ∃ (l : Nat) (acc : List Nat), m = l ∧ H' = upd H p (.lst (acc.map fun d : Nat => V.int (d : Nat))) ∧ σ = [some (V.int l), some (V.int b), some (V.ref p)] ∧ rw' b n = rw' b l ++ acc.reverse ∧ l * 2 ^ acc.length ≤ n, ⟨_, n, [], rfl, rfl, rfl, by simp, by simp⟩, ?_⟩
    rintro l σ H' ⟨_, acc, rfl, rfl, rfl, h1, h2⟩
    simp [tRet, tRetN, tDrop, tAsg, gName, tSeq, tNext, tIfS, tAndV, tOrV, tNotV, tAnd, tOr, tNot, tB, tTest, tVar, tC, tOp, tUn, tCons, tNil, tTup, tLst, tCB, tBM, tBM0, tM1, tM0, tCall, tMeth, tMake, tFldU, sFldU, tChain, tIf, tPar, tPar3, tAug, tDisp, tPairs, tDGet2, sDPut, rIsiU, rIsiTU, rLenU, rIxU, rInU, rNilU, rEqU, rNeU, rEq, rNe, rMax2U, rMin2U, rInt1U, rAbsU, scal, rAddU, rMulU, rI0, rI, rU, rListU, rTupU, rSumU, rAllU, rAnyU, rDictU, rSlU, tSl, tPart, tNoPart, rAppend, rExtend, rPop, rPopAt, rJoinU, rRepr, tSumVals, tyN_non, tyN_bl, tyN_int, tyN_str, tyN_ref, tyO_lst, tyO_tup, tyO_dK, tyO_flst, tyO_ftup, tyO_fdK, and_assoc, tyList, isT, tyAsk, lk_none, lk_frz, lk_lst, lk_tup, lk_dK, lk_ins, kV_str, kV_int, kV_kV, L2.start, E0, tForZ, zList, zTup, zStr, zRng1, zRng2, zEnumS, zEnumL, zKeys, zVals, zItems, tAugS, rGetL, rSetL, ipI, tyN_new, upd_same, tLcV, tDcZ, tYes, wipe, tLcZ, tScZ, cxOf, RVal, RTup, gTupU, gCons, gNil, tProp, tDGetU, sDPutU, rLenO, rDEqU, tBML, tBML0, tConU, tDNewK, rIsiO]
    refine ite_all (fun hpos => ?_) fun hz => ?_
    · have hacc := few_digits h2 hn (by omega)
      have hm : (l : Int) % (b : Int) = ((l % b : Nat) : Int) := by norm_cast
      have hd : (l : Int) / (b : Int) = ((l / b : Nat) : Int) := by norm_cast
      refine ⟨fun σ' H'' => H'' = upd H p (.lst ((acc ++ [l % b]).map fun d : Nat => V.int (d : Nat))) ∧ σ' = [some (V.int ((l / b : Nat) : Int)), some (V.int b), some (V.ref p)], ?_, ?_⟩
      · rintro σ' H'' ⟨rfl, rfl⟩
        have hd2 : l / b ≤ l / 2 := Nat.div_le_div_left hb (by omega)
        refine ⟨l / b, by omega, acc ++ [l % b], rfl, rfl, ?_, ?_⟩
        · rw [h1, rw_pos hb (by omega), List.reverse_append, List.append_assoc]
          rfl
        · rw [List.length_append, List.length_singleton, Nat.pow_succ]
          have h3 : l / b * 2 ≤ l := by omega
          have h4 : (l / b * 2) * 2 ^ acc.length ≤ l * 2 ^ acc.length := Nat.mul_le_mul_right _ h3
          have h5 : l / b * (2 ^ acc.length * 2) = (l / b * 2) * 2 ^ acc.length := by ac_rfl
          omega
      · refine ⟨by omega, by omega, cdivw (by omega) (few40 (by omega) (by omega)), ?_, by rw [hd]⟩
        rw [L2.upd_upd, List.map_append, hm]
        rfl
    · obtain rfl : l = 0 := by omega
      rw [rw_zero, List.nil_append] at h1
      refine ⟨_, rfl, p, _, rfl, Or.inl (Or.inl upd_same), fun p2 hp2 => ?_⟩
      have hn2 : p2 ≠ p := fun e => by rw [e, upd_same] at hp2; cases hp2
      rw [upd_ne hn2] at hp2
      refine q p2 _ hp2 (sub_upd (Sub.new hp) hp2) ?_
      rw [upd_same, h1, List.map_reverse]
theorem FontL.ins {K : PySem.W.Frag} {H : Hp} {x : Addr} {sg : List Nat} (h : FontL K H x sg) : ∃ dx fs, H x = some (.ins (He.ga K "Font") dx fs) := by
  obtain ⟨dx, r, k, h1, h2⟩ := h
  exact ⟨_, _, h1⟩
theorem no_asc {u v z : V} : ∀ (a : Str) (b : V), (a, b) ∈ ([(("word" : Str), u), ("ranks", v), ("heads", z)] : List (Str × V)) → ¬ Str.ofString "ascending" = a := by
  intro a b h e
  simp at h
  rcases h with ⟨rfl, _⟩ | ⟨rfl, _⟩ | ⟨rfl, _⟩ <;> revert e <;> decide +kernel
def sp_is_row (K : PySem.W.Frag) : Sp := fun vs H Q _ => ∃ x sg ms, vs = [.ref x, .str (txt ms)] ∧ FontL K H x sg ∧ (∀ c ∈ ms, c ∈ sg) ∧ ms.length ≤ 1000 ∧ ∀ H', Sub H H' → Q (.bl true) H'
theorem ok_is_row (T : Txt K mg) : FnOk P w K mg base CX0 1 (He.ga K "is_row") T.fd_is_row ["font", "value"] (sp_is_row K) := by
  refine FunD.ok T.F_is_row sc_is_row (fun vs H Q E h => ?_) fun cdv A outer s H vs Q E hr h => ⟨_, PSs.nox (pss_one (ps_ret (pe_and (pe_callB call_isiU rfl T.f_isinstance boot_isinstance (pa_cons (pv 1) (pa_cons (pe_bltn (v := .ty "str") rfl T.f_str boot_str rfl) pa_nil))) (pe_one (pe_callB (call_allU rfl) rfl T.f_all boot_all (pa_cons (pe_lcV rfl sc_is_row.nd (z_str (pv 1)) (own := [("sign", 2)]) (show BlkOk ["font", "value", "sign"] (defScope s_is_row) _ [("sign", 2)] from ⟨rfl, by decide +kernel, by decide +kernel, by decide +kernel, by decide +kernel⟩) (fun _ _ _ _ _ => (pg_name (i := 2) sc_is_row.nd rfl (by first | exact Or.inl rfl | exact Or.inr rfl))) (fun _ _ _ _ _ => pts_nil) (fun _ _ _ _ _ => (pe_cmpR (op_inU (hu_of hr)) (pv 2) (pe_fldU (C := He.ga K "Font") T.cls_Font T.na_Font_ranks (pv 0) rfl) rfl))) pa_nil)))))), ?_⟩
  · obtain ⟨x, sg, ms, rfl, _⟩ := h
    rfl
  · obtain ⟨x, sg, ms, rfl, hF, hms, hml, q⟩ := h
    have hsl := sizeLine_eq
    have hlen := txt_len ms
    obtain ⟨dx, r, k, h1, h2⟩ := id hF
    simp [tRet, tRetN, tDrop, tAsg, gName, tSeq, tNext, tIfS, tAndV, tOrV, tNotV, tAnd, tOr, tNot, tB, tTest, tVar, tC, tOp, tUn, tCons, tNil, tTup, tLst, tCB, tBM, tBM0, tM1, tM0, tCall, tMeth, tMake, tFldU, sFldU, tChain, tIf, tPar, tPar3, tAug, tDisp, tPairs, tDGet2, sDPut, rIsiU, rIsiTU, rLenU, rIxU, rInU, rNilU, rEqU, rNeU, rEq, rNe, rMax2U, rMin2U, rInt1U, rAbsU, scal, rAddU, rMulU, rI0, rI, rU, rListU, rTupU, rSumU, rAllU, rAnyU, rDictU, rSlU, tSl, tPart, tNoPart, rAppend, rExtend, rPop, rPopAt, rJoinU, rRepr, tSumVals, tyN_non, tyN_bl, tyN_int, tyN_str, tyN_ref, tyO_lst, tyO_tup, tyO_dK, tyO_flst, tyO_ftup, tyO_fdK, and_assoc, tyList, isT, tyAsk, lk_none, lk_frz, lk_lst, lk_tup, lk_dK, lk_ins, kV_str, kV_int, kV_kV, L2.start, E0, tForZ, zList, zTup, zStr, zRng1, zRng2, zEnumS, zEnumL, zKeys, zVals, zItems, tAugS, rGetL, rSetL, ipI, tyN_new, upd_same, tLcV, tDcZ, tYes, wipe, tLcZ, tScZ, cxOf, RVal, RTup, gTupU, gCons, gNil, tProp, tDGetU, sDPutU, rLenO, rDEqU, tBML, tBML0, tConU, tDNewK, rIsiO]
    refine lcv (fun _ => true) (fun _ => V.bl true) (by rw [txt_list]; omega) (fun _ _ => trivial) (fun z hz H2 v H3 hs2 hr => ?_) (fun D H2 hD hs2 hH2 => ?_)
    · obtain ⟨rfl, rfl⟩ := hr
      rw [txt_list] at hz
      have hv := valV_ranks (sg := sg) (c := z)
      simp [tRet, tRetN, tDrop, tAsg, gName, tSeq, tNext, tIfS, tAndV, tOrV, tNotV, tAnd, tOr, tNot, tB, tTest, tVar, tC, tOp, tUn, tCons, tNil, tTup, tLst, tCB, tBM, tBM0, tM1, tM0, tCall, tMeth, tMake, tFldU, sFldU, tChain, tIf, tPar, tPar3, tAug, tDisp, tPairs, tDGet2, sDPut, rIsiU, rIsiTU, rLenU, rIxU, rInU, rNilU, rEqU, rNeU, rEq, rNe, rMax2U, rMin2U, rInt1U, rAbsU, scal, rAddU, rMulU, rI0, rI, rU, rListU, rTupU, rSumU, rAllU, rAnyU, rDictU, rSlU, tSl, tPart, tNoPart, rAppend, rExtend, rPop, rPopAt, rJoinU, rRepr, tSumVals, tyN_non, tyN_bl, tyN_int, tyN_str, tyN_ref, tyO_lst, tyO_tup, tyO_dK, tyO_flst, tyO_ftup, tyO_fdK, and_assoc, tyList, isT, tyAsk, lk_none, lk_frz, lk_lst, lk_tup, lk_dK, lk_ins, kV_str, kV_int, kV_kV, L2.start, E0, tForZ, zList, zTup, zStr, zRng1, zRng2, zEnumS, zEnumL, zKeys, zVals, zItems, tAugS, rGetL, rSetL, ipI, tyN_new, upd_same, tLcV, tDcZ, tYes, wipe, tLcZ, tScZ, cxOf, RVal, RTup, gTupU, gCons, gNil, tProp, tDGetU, sDPutU, rLenO, rDEqU, tBML, tBML0, tConU, tDNewK, rIsiO, sgn, hs2.get h1, lk_sub hs2 h2, lk_ranks]
      have hv : (valV (ranksOf sg) (Sum.inr ⟨#[z]⟩)).isSome = decide (z ∈ sg) := hv
      rw [hv]
      exact ⟨Sub.refl _, by simpa using hms z hz⟩
    · rw [filt, txt_list] at hH2
      simp [tRet, tRetN, tDrop, tAsg, gName, tSeq, tNext, tIfS, tAndV, tOrV, tNotV, tAnd, tOr, tNot, tB, tTest, tVar, tC, tOp, tUn, tCons, tNil, tTup, tLst, tCB, tBM, tBM0, tM1, tM0, tCall, tMeth, tMake, tFldU, sFldU, tChain, tIf, tPar, tPar3, tAug, tDisp, tPairs, tDGet2, sDPut, rIsiU, rIsiTU, rLenU, rIxU, rInU, rNilU, rEqU, rNeU, rEq, rNe, rMax2U, rMin2U, rInt1U, rAbsU, scal, rAddU, rMulU, rI0, rI, rU, rListU, rTupU, rSumU, rAllU, rAnyU, rDictU, rSlU, tSl, tPart, tNoPart, rAppend, rExtend, rPop, rPopAt, rJoinU, rRepr, tSumVals, tyN_non, tyN_bl, tyN_int, tyN_str, tyN_ref, tyO_lst, tyO_tup, tyO_dK, tyO_flst, tyO_ftup, tyO_fdK, and_assoc, tyList, isT, tyAsk, lk_none, lk_frz, lk_lst, lk_tup, lk_dK, lk_ins, kV_str, kV_int, kV_kV, L2.start, E0, tForZ, zList, zTup, zStr, zRng1, zRng2, zEnumS, zEnumL, zKeys, zVals, zItems, tAugS, rGetL, rSetL, ipI, tyN_new, upd_same, tLcV, tDcZ, tYes, wipe, tLcZ, tScZ, cxOf, RVal, RTup, gTupU, gCons, gNil, tProp, tDGetU, sDPutU, rLenO, rDEqU, tBML, tBML0, tConU, tDNewK, rIsiO, hH2]
      refine ⟨ms.map fun _ => true, by simp [List.map_map], ?_⟩
      have e : (ms.map fun _ => true).all id = true := by simp
      first
        | rw [e]; exact q _ hs2
        | (have e2 : (ms.all fun x => true) = true := by simp
           simp only [List.all_map]
           first
             | exact e2 ▸ q _ hs2
             | (have := q _ hs2; rw [← e2] at this; exact this))
def sp_Font_ascending (K : PySem.W.Frag) : Sp := fun vs H Q _ => ∃ x sg ms, vs = [.ref x, .str (txt ms)] ∧ FontL K H x sg ∧ SgOk sg ∧ ∀ H', Sub H H' → Q (.str (txt (sg.filter fun c => decide (c ∈ ms)))) H'
theorem ok_Font_ascending (T : Txt K mg) : FnOk P w K mg base CX0 1 (He.ma K (He.ga K "Font") "ascending") T.fd_Font_ascending ["self", "signs"] (sp_Font_ascending K) := by
  refine FunD.ok T.F_Font_ascending sc_Font_ascending (fun vs H Q E h => ?_) fun cdv A outer s H vs Q E hr h => ⟨_, PSs.nox (pss_one (ps_ret (pe_m1 PySem.F.slot_str_join PySem.F.type_str_join mt_joinU pe_str (pe_lcV rfl sc_Font_ascending.nd (z_str (pe_fldU (C := He.ga K "Font") T.cls_Font T.na_Font_word (pv 0) rfl)) (own := [("sign", 2)]) (show BlkOk ["self", "signs", "sign"] (defScope s_Font_ascending) _ [("sign", 2)] from ⟨rfl, by decide +kernel, by decide +kernel, by decide +kernel, by decide +kernel⟩) (fun _ _ _ _ _ => (pg_name (i := 2) sc_Font_ascending.nd rfl (by first | exact Or.inl rfl | exact Or.inr rfl))) (fun _ _ _ _ _ => (pts_one (pt_cmpR (op_inU (hu_of hr)) (pv 2) (pv 1) rfl))) (fun _ _ _ _ _ => (pv 2)))))), ?_⟩
  · obtain ⟨x, sg, ms, rfl, _⟩ := h
    rfl
  · obtain ⟨x, sg, ms, rfl, hF, ok, q⟩ := h
    have hsl := sizeLine_eq
    have hhi := ok.hi
    obtain ⟨dx, r, k, h1, h2⟩ := id hF
    have e0 : (Str.ofString "").length = 0 := by decide +kernel
    simp [tRet, tRetN, tDrop, tAsg, gName, tSeq, tNext, tIfS, tAndV, tOrV, tNotV, tAnd, tOr, tNot, tB, tTest, tVar, tC, tOp, tUn, tCons, tNil, tTup, tLst, tCB, tBM, tBM0, tM1, tM0, tCall, tMeth, tMake, tFldU, sFldU, tChain, tIf, tPar, tPar3, tAug, tDisp, tPairs, tDGet2, sDPut, rIsiU, rIsiTU, rLenU, rIxU, rInU, rNilU, rEqU, rNeU, rEq, rNe, rMax2U, rMin2U, rInt1U, rAbsU, scal, rAddU, rMulU, rI0, rI, rU, rListU, rTupU, rSumU, rAllU, rAnyU, rDictU, rSlU, tSl, tPart, tNoPart, rAppend, rExtend, rPop, rPopAt, rJoinU, rRepr, tSumVals, tyN_non, tyN_bl, tyN_int, tyN_str, tyN_ref, tyO_lst, tyO_tup, tyO_dK, tyO_flst, tyO_ftup, tyO_fdK, and_assoc, tyList, isT, tyAsk, lk_none, lk_frz, lk_lst, lk_tup, lk_dK, lk_ins, kV_str, kV_int, kV_kV, L2.start, E0, tForZ, zList, zTup, zStr, zRng1, zRng2, zEnumS, zEnumL, zKeys, zVals, zItems, tAugS, rGetL, rSetL, ipI, tyN_new, upd_same, tLcV, tDcZ, tYes, wipe, tLcZ, tScZ, cxOf, RVal, RTup, gTupU, gCons, gNil, tProp, tDGetU, sDPutU, rLenO, rDEqU, tBML, tBML0, tConU, tDNewK, rIsiO, h1, lk_word]
    refine lcv (fun c => decide (c ∈ ms)) sgn (by rw [txt_list]; omega) (fun _ _ => trivial) (fun z hz H3 v H4 hs3 hr => ?_) (fun D H3 hD hs3 hH3 => ?_)
    · obtain ⟨rfl, rfl⟩ := hr
      simp [tRet, tRetN, tDrop, tAsg, gName, tSeq, tNext, tIfS, tAndV, tOrV, tNotV, tAnd, tOr, tNot, tB, tTest, tVar, tC, tOp, tUn, tCons, tNil, tTup, tLst, tCB, tBM, tBM0, tM1, tM0, tCall, tMeth, tMake, tFldU, sFldU, tChain, tIf, tPar, tPar3, tAug, tDisp, tPairs, tDGet2, sDPut, rIsiU, rIsiTU, rLenU, rIxU, rInU, rNilU, rEqU, rNeU, rEq, rNe, rMax2U, rMin2U, rInt1U, rAbsU, scal, rAddU, rMulU, rI0, rI, rU, rListU, rTupU, rSumU, rAllU, rAnyU, rDictU, rSlU, tSl, tPart, tNoPart, rAppend, rExtend, rPop, rPopAt, rJoinU, rRepr, tSumVals, tyN_non, tyN_bl, tyN_int, tyN_str, tyN_ref, tyO_lst, tyO_tup, tyO_dK, tyO_flst, tyO_ftup, tyO_fdK, and_assoc, tyList, isT, tyAsk, lk_none, lk_frz, lk_lst, lk_tup, lk_dK, lk_ins, kV_str, kV_int, kV_kV, L2.start, E0, tForZ, zList, zTup, zStr, zRng1, zRng2, zEnumS, zEnumL, zKeys, zVals, zItems, tAugS, rGetL, rSetL, ipI, tyN_new, upd_same, tLcV, tDcZ, tYes, wipe, tLcZ, tScZ, cxOf, RVal, RTup, gTupU, gCons, gNil, tProp, tDGetU, sDPutU, rLenO, rDEqU, tBML, tBML0, tConU, tDNewK, rIsiO, sgn, inS_sign, txt_list]
      exact Sub.refl _
    · rw [txt_list] at hH3
      obtain ⟨ks, hks⟩ : ∃ ks, ks = sg.filter fun c => decide (c ∈ ms) := ⟨_, rfl⟩
      rw [← hks] at hH3
      have hkl : ks.length ≤ 10 := by
        rw [hks]
        have := List.length_filter_le (fun c => decide (c ∈ ms)) sg
        omega
      refine ⟨D, rfl, _, by rw [hH3]; rfl, ks.map fun c => (⟨[c].toArray⟩ : Str), by rw [List.map_map]; rfl, ?_, ?_⟩
      · rw [e0, List.map_map]
        have e3 : (ks.map ((fun x : Str => x.length) ∘ fun c : Nat => (⟨[c].toArray⟩ : Str))) = ks.map fun _ => 1 := rfl
        rw [e3, sum_ones]
        omega
      · have := join_empty (ks.map fun c => [c])
        rw [List.map_map] at this
        have e4 : (ks.map ((fun l : List Nat => (⟨l.toArray⟩ : Str)) ∘ fun c : Nat => [c])) = ks.map fun c => (⟨[c].toArray⟩ : Str) := rfl
        rw [e4] at this
        rw [this, flatten_one, hks]
        exact q H3 hs3
def sp_need_signs (K : PySem.W.Frag) : Sp := fun vs H Q _ => ∃ x sg ms, vs = [.ref x, .str (txt ms)] ∧ FontL K H x sg ∧ SgOk sg ∧ (∀ c ∈ ms, c ∈ sg) ∧ ms.Nodup ∧ ms.length ≤ 10 ∧ ∀ H', Sub H H' → Q (.str (txt (sg.filter fun c => decide (c ∈ ms)))) H'
theorem ok_need_signs (T : Txt K mg) : FnOk P w K mg base CX0 2 (He.ga K "need_signs") T.fd_need_signs ["font", "value"] (sp_need_signs K) := by
  refine FunD.ok T.F_need_signs sc_need_signs (fun vs H Q E h => ?_) fun cdv A outer s H vs Q E hr h => ⟨_, PSs.nox (pss_cons (ps_if (PW.pt (pw_or (pt_not (pt_val (pe_call (ok_is_row T) (hr.mono (by omega)) rfl T.g_is_row T.F_is_row.kp (b_is_row T) .nil pass0 (pa_cons (pv 0) (pa_cons (pv 1) pa_nil))))) (pw_or1 (pt_cmpR op_lt (pe_callB call_lenU rfl T.f_len boot_len (pa_cons (pe_scZ rfl sc_need_signs.nd (z_str (pv 1)) (own := [("sign", 2)]) (show BlkOk ["font", "value", "sign"] (defScope s_need_signs) _ [("sign", 2)] from ⟨rfl, by decide +kernel, by decide +kernel, by decide +kernel, by decide +kernel⟩) (fun _ _ _ _ _ => (pg_name (i := 2) sc_need_signs.nd rfl (by first | exact Or.inl rfl | exact Or.inr rfl))) (fun _ _ _ _ _ => pts_nil) (fun _ _ _ _ _ => (pv 2))) pa_nil)) (pe_callB call_lenU rfl T.f_len boot_len (pa_cons (pv 1) pa_nil)) (nomark _))))) (pss_one ps_never) pss_nil)
      (pss_one (ps_ret (pe_meth (pv 0) T.cls_Font T.me_Font_ascending (ok_Font_ascending T) (hr.mono (by omega)) (b_Font_ascending T) .nil pass0 (pa_cons (pv 1) pa_nil))))), ?_⟩
  · obtain ⟨x, sg, ms, rfl, _⟩ := h
    rfl
  · obtain ⟨x, sg, ms, rfl, hF, ok, hms, nd, hml, q⟩ := h
    have hsl := sizeLine_eq
    have hlen := txt_len ms
    simp [tRet, tRetN, tDrop, tAsg, gName, tSeq, tNext, tIfS, tAndV, tOrV, tNotV, tAnd, tOr, tNot, tB, tTest, tVar, tC, tOp, tUn, tCons, tNil, tTup, tLst, tCB, tBM, tBM0, tM1, tM0, tCall, tMeth, tMake, tFldU, sFldU, tChain, tIf, tPar, tPar3, tAug, tDisp, tPairs, tDGet2, sDPut, rIsiU, rIsiTU, rLenU, rIxU, rInU, rNilU, rEqU, rNeU, rEq, rNe, rMax2U, rMin2U, rInt1U, rAbsU, scal, rAddU, rMulU, rI0, rI, rU, rListU, rTupU, rSumU, rAllU, rAnyU, rDictU, rSlU, tSl, tPart, tNoPart, rAppend, rExtend, rPop, rPopAt, rJoinU, rRepr, tSumVals, tyN_non, tyN_bl, tyN_int, tyN_str, tyN_ref, tyO_lst, tyO_tup, tyO_dK, tyO_flst, tyO_ftup, tyO_fdK, and_assoc, tyList, isT, tyAsk, lk_none, lk_frz, lk_lst, lk_tup, lk_dK, lk_ins, kV_str, kV_int, kV_kV, L2.start, E0, tForZ, zList, zTup, zStr, zRng1, zRng2, zEnumS, zEnumL, zKeys, zVals, zItems, tAugS, rGetL, rSetL, ipI, tyN_new, upd_same, tLcV, tDcZ, tYes, wipe, tLcZ, tScZ, cxOf, RVal, RTup, gTupU, gCons, gNil, tProp, tDGetU, sDPutU, rLenO, rDEqU, tBML, tBML0, tConU, tDNewK, rIsiO, sp_is_row, sp_Font_ascending]
    refine ⟨sg, ms, rfl, hF, hms, by omega, fun H1 hs1 => ?_⟩
    refine scv (fun _ => true) sk (by rw [txt_list]; omega) (fun _ _ => trivial) (fun z hz H3 v H4 hs3 hr => ?_) (fun D2 H3 S n hD2 hs3 hH3 hS hn => ?_)
    · obtain ⟨rfl, rfl⟩ := hr
      simp [tRet, tRetN, tDrop, tAsg, gName, tSeq, tNext, tIfS, tAndV, tOrV, tNotV, tAnd, tOr, tNot, tB, tTest, tVar, tC, tOp, tUn, tCons, tNil, tTup, tLst, tCB, tBM, tBM0, tM1, tM0, tCall, tMeth, tMake, tFldU, sFldU, tChain, tIf, tPar, tPar3, tAug, tDisp, tPairs, tDGet2, sDPut, rIsiU, rIsiTU, rLenU, rIxU, rInU, rNilU, rEqU, rNeU, rEq, rNe, rMax2U, rMin2U, rInt1U, rAbsU, scal, rAddU, rMulU, rI0, rI, rU, rListU, rTupU, rSumU, rAllU, rAnyU, rDictU, rSlU, tSl, tPart, tNoPart, rAppend, rExtend, rPop, rPopAt, rJoinU, rRepr, tSumVals, tyN_non, tyN_bl, tyN_int, tyN_str, tyN_ref, tyO_lst, tyO_tup, tyO_dK, tyO_flst, tyO_ftup, tyO_fdK, and_assoc, tyList, isT, tyAsk, lk_none, lk_frz, lk_lst, lk_tup, lk_dK, lk_ins, kV_str, kV_int, kV_kV, L2.start, E0, tForZ, zList, zTup, zStr, zRng1, zRng2, zEnumS, zEnumL, zKeys, zVals, zItems, tAugS, rGetL, rSetL, ipI, tyN_new, upd_same, tLcV, tDcZ, tYes, wipe, tLcZ, tScZ, cxOf, RVal, RTup, gTupU, gCons, gNil, tProp, tDGetU, sDPutU, rLenO, rDEqU, tBML, tBML0, tConU, tDNewK, rIsiO, sgn, sk]
      exact Sub.refl _
    · right; right; right; right
      have en : n = ms.length := by
        rw [filt, txt_list] at hn
        have h2 := hn.2 (nodup_map_sk (f := fun z => z) (by simpa using nd))
        simpa using h2
      subst en
      have hF3 := hF.sub (hs1.trans hs3)
      obtain ⟨dx, r, k, h1, h2⟩ := id hF3
      refine ⟨D2, rfl, S, _, hH3, by omega, ?_⟩
      rw [if_neg (by omega)]
      exact ⟨_, _, h1, no_asc, sg, ms, rfl, hF3, ok, fun H' hs' => q H' ((hs1.trans hs3).trans hs')⟩
/-- 0 and 1 for the digits in a set of signs -/
def mbs (sg ms : List Nat) : List Nat := sg.map fun c => if c ∈ ms then 1 else 0
def sp_members_of (K : PySem.W.Frag) : Sp := fun vs H Q _ => ∃ x sg ms, vs = [.ref x, .str (txt ms)] ∧ FontL K H x sg ∧ SgOk sg ∧ ∀ p H', H p = none → Sub H H' → H' p = some (.lst ((mbs sg ms).map fun d : Nat => V.int (d : Nat))) → Q (.ref p) H'
theorem ok_members_of (T : Txt K mg) : FnOk P w K mg base CX0 3 (He.ga K "members_of") T.fd_members_of ["font", "signs"] (sp_members_of K) := by
  refine FunD.ok T.F_members_of sc_members_of (fun vs H Q E h => ?_) fun cdv A outer s H vs Q E hr h => ⟨_, PSs.nox (pss_one (ps_ret (pe_lcV rfl sc_members_of.nd (z_str (pe_prop (pv 0) T.cls_Font T.pr_Font_signs (ok_Font_signs T) (hr.mono (by omega)) (b_Font_signs T) .nil pass0 rfl)) (own := [("sign", 2)]) (show BlkOk ["font", "signs", "sign"] (defScope s_members_of) _ [("sign", 2)] from ⟨rfl, by decide +kernel, by decide +kernel, by decide +kernel, by decide +kernel⟩) (fun _ _ _ _ _ => (pg_name (i := 2) sc_members_of.nd rfl (by first | exact Or.inl rfl | exact Or.inr rfl))) (fun _ _ _ _ _ => pts_nil) (fun _ _ _ _ _ => (pe_ifExp (pt_cmpR (op_inU (hu_of hr)) (pv 2) (pv 1) rfl) pe_int pe_int))))), ?_⟩
  · obtain ⟨x, sg, ms, rfl, _⟩ := h
    rfl
  · obtain ⟨x, sg, ms, rfl, hF, ok, q⟩ := h
    have hsl := sizeLine_eq
    have hhi := ok.hi
    simp [tRet, tRetN, tDrop, tAsg, gName, tSeq, tNext, tIfS, tAndV, tOrV, tNotV, tAnd, tOr, tNot, tB, tTest, tVar, tC, tOp, tUn, tCons, tNil, tTup, tLst, tCB, tBM, tBM0, tM1, tM0, tCall, tMeth, tMake, tFldU, sFldU, tChain, tIf, tPar, tPar3, tAug, tDisp, tPairs, tDGet2, sDPut, rIsiU, rIsiTU, rLenU, rIxU, rInU, rNilU, rEqU, rNeU, rEq, rNe, rMax2U, rMin2U, rInt1U, rAbsU, scal, rAddU, rMulU, rI0, rI, rU, rListU, rTupU, rSumU, rAllU, rAnyU, rDictU, rSlU, tSl, tPart, tNoPart, rAppend, rExtend, rPop, rPopAt, rJoinU, rRepr, tSumVals, tyN_non, tyN_bl, tyN_int, tyN_str, tyN_ref, tyO_lst, tyO_tup, tyO_dK, tyO_flst, tyO_ftup, tyO_fdK, and_assoc, tyList, isT, tyAsk, lk_none, lk_frz, lk_lst, lk_tup, lk_dK, lk_ins, kV_str, kV_int, kV_kV, L2.start, E0, tForZ, zList, zTup, zStr, zRng1, zRng2, zEnumS, zEnumL, zKeys, zVals, zItems, tAugS, rGetL, rSetL, ipI, tyN_new, upd_same, tLcV, tDcZ, tYes, wipe, tLcZ, tScZ, cxOf, RVal, RTup, gTupU, gCons, gNil, tProp, tDGetU, sDPutU, rLenO, rDEqU, tBML, tBML0, tConU, tDNewK, rIsiO, sp_Font_signs]
    refine ⟨hF.ins, sg, hF, ?_⟩
    refine lcv (fun _ => true) (fun c => V.int (if c ∈ ms then 1 else 0 : Nat)) (by rw [txt_list]; omega) (fun _ _ => trivial) (fun z hz H3 v H4 hs3 hr => ?_) (fun D H3 hD hs3 hH3 => ?_)
    · obtain ⟨rfl, rfl⟩ := hr
      simp [tRet, tRetN, tDrop, tAsg, gName, tSeq, tNext, tIfS, tAndV, tOrV, tNotV, tAnd, tOr, tNot, tB, tTest, tVar, tC, tOp, tUn, tCons, tNil, tTup, tLst, tCB, tBM, tBM0, tM1, tM0, tCall, tMeth, tMake, tFldU, sFldU, tChain, tIf, tPar, tPar3, tAug, tDisp, tPairs, tDGet2, sDPut, rIsiU, rIsiTU, rLenU, rIxU, rInU, rNilU, rEqU, rNeU, rEq, rNe, rMax2U, rMin2U, rInt1U, rAbsU, scal, rAddU, rMulU, rI0, rI, rU, rListU, rTupU, rSumU, rAllU, rAnyU, rDictU, rSlU, tSl, tPart, tNoPart, rAppend, rExtend, rPop, rPopAt, rJoinU, rRepr, tSumVals, tyN_non, tyN_bl, tyN_int, tyN_str, tyN_ref, tyO_lst, tyO_tup, tyO_dK, tyO_flst, tyO_ftup, tyO_fdK, and_assoc, tyList, isT, tyAsk, lk_none, lk_frz, lk_lst, lk_tup, lk_dK, lk_ins, kV_str, kV_int, kV_kV, L2.start, E0, tForZ, zList, zTup, zStr, zRng1, zRng2, zEnumS, zEnumL, zKeys, zVals, zItems, tAugS, rGetL, rSetL, ipI, tyN_new, upd_same, tLcV, tDcZ, tYes, wipe, tLcZ, tScZ, cxOf, RVal, RTup, gTupU, gCons, gNil, tProp, tDGetU, sDPutU, rLenO, rDEqU, tBML, tBML0, tConU, tDNewK, rIsiO, sgn, inS_sign, txt_list]
      by_cases h : z ∈ ms
      · simp [h]
        exact Sub.refl _
      · simp [h]
        exact Sub.refl _
    · rw [filt, txt_list] at hH3
      refine q D H3 hD hs3 ?_
      rw [hH3]
      unfold mbs
      rw [List.map_map]
      rfl
theorem mbs_asc {sg ms : List Nat} : mbs sg (sg.filter fun c => decide (c ∈ ms)) = mbs sg ms := by
  unfold mbs
  apply List.map_congr_left
  intro c hc
  simp [hc]
def sp_members_for (K : PySem.W.Frag) : Sp := fun vs H Q _ => ∃ x sg ms, ∃ n s : Nat, vs = [.ref x, .int n, .str (txt ms), .int s] ∧ FontL K H x sg ∧ SgOk sg ∧ (∀ c ∈ ms, c ∈ sg) ∧ ms.Nodup ∧ ms.length ≤ 10 ∧ n ≤ 10 ^ 30 ∧ s ≤ 1000 ∧
  ∀ p H', H p = none → Sub H H' → H' p = some (.lst ((mbs sg ms).map fun d : Nat => V.int (d : Nat))) → Q (.ref p) H'
theorem ok_members_for (T : Txt K mg) : FnOk P w K mg base CX0 4 (He.ga K "members_for") T.fd_members_for ["font", "last", "signs", "share"] (sp_members_for K) := by
  refine FunD.ok T.F_members_for sc_members_for (fun vs H Q E h => ?_) fun cdv A outer s H vs Q E hr h => ⟨_, PSs.nox (pss_cons (ps_expr (pe_call (ok_need_number T) (hr.mono (by omega)) rfl T.g_need_number T.F_need_number.kp (b_need_number T) .nil pass0 (pa_cons (pv 1) (pa_cons pe_int (pa_cons (pe_glob (v := .int (10 ^ 30)) rfl T.c_MAX_COUNT.choose_spec ⟨_, rfl⟩) pa_nil)))))
      (pss_cons (ps_set (i := 4) sc_members_for.nd rfl (by first | exact Or.inl rfl | exact Or.inr rfl) (pe_call (ok_need_signs T) (hr.mono (by omega)) rfl T.g_need_signs T.F_need_signs.kp (b_need_signs T) .nil pass0 (pa_cons (pv 0) (pa_cons (pv 2) pa_nil))))
      (pss_cons (ps_expr (pe_call (ok_need_number T) (hr.mono (by omega)) rfl T.g_need_number T.F_need_number.kp (b_need_number T) .nil pass0 (pa_cons (pv 3) (pa_cons pe_int (pa_cons (pe_glob (v := .int (1000)) rfl T.c_MOST_SHARE.choose_spec ⟨_, rfl⟩) pa_nil)))))
      (pss_one (ps_ret (pe_call (ok_members_of T) (hr.mono (by omega)) rfl T.g_members_of T.F_members_of.kp (b_members_of T) .nil pass0 (pa_cons (pv 0) (pa_cons (pv 4) pa_nil)))))))), ?_⟩
  · obtain ⟨x, sg, ms, n, s, rfl, _⟩ := h
    rfl
  · obtain ⟨x, sg, ms, n, s, rfl, hF, ok, hms, nd, hml, hn, hs, q⟩ := h
    simp [tRet, tRetN, tDrop, tAsg, gName, tSeq, tNext, tIfS, tAndV, tOrV, tNotV, tAnd, tOr, tNot, tB, tTest, tVar, tC, tOp, tUn, tCons, tNil, tTup, tLst, tCB, tBM, tBM0, tM1, tM0, tCall, tMeth, tMake, tFldU, sFldU, tChain, tIf, tPar, tPar3, tAug, tDisp, tPairs, tDGet2, sDPut, rIsiU, rIsiTU, rLenU, rIxU, rInU, rNilU, rEqU, rNeU, rEq, rNe, rMax2U, rMin2U, rInt1U, rAbsU, scal, rAddU, rMulU, rI0, rI, rU, rListU, rTupU, rSumU, rAllU, rAnyU, rDictU, rSlU, tSl, tPart, tNoPart, rAppend, rExtend, rPop, rPopAt, rJoinU, rRepr, tSumVals, tyN_non, tyN_bl, tyN_int, tyN_str, tyN_ref, tyO_lst, tyO_tup, tyO_dK, tyO_flst, tyO_ftup, tyO_fdK, and_assoc, tyList, isT, tyAsk, lk_none, lk_frz, lk_lst, lk_tup, lk_dK, lk_ins, kV_str, kV_int, kV_kV, L2.start, E0, tForZ, zList, zTup, zStr, zRng1, zRng2, zEnumS, zEnumL, zKeys, zVals, zItems, tAugS, rGetL, rSetL, ipI, tyN_new, upd_same, tLcV, tDcZ, tYes, wipe, tLcZ, tScZ, cxOf, RVal, RTup, gTupU, gCons, gNil, tProp, tDGetU, sDPutU, rLenO, rDEqU, tBML, tBML0, tConU, tDNewK, rIsiO, sp_need_number, sp_need_signs, sp_members_of]
    refine ⟨by omega, sg, ms, rfl, hF, ok, hms, nd, hml, fun H1 hs1 => ⟨by omega, sg, _, rfl, hF.sub hs1, ok, fun p H2 hp hs2 hl => q p H2 (hs1.none hp) (hs1.trans hs2) ?_⟩⟩
    rw [hl, mbs_asc]
end
end K74

set_option Elab.async false
set_option linter.all false
set_option maxRecDepth 100000
set_option maxHeartbeats 4000000
namespace K74
open PySem PySem.Spec PyProof.Rows L2 G
section
variable {P : Program} {w : World} {K : PySem.W.Frag} {mg : Str → Option Value} {base : Heap}
def rgN (b : Nat) (T : Nat → Nat) : List V := (List.range b).map fun d : Nat => V.int (T d : Nat)
theorem rgN_at {b : Nat} {T : Nat → Nat} {j : Nat} (hj : j < b) : atI (rgN b T) (j : Int) = some (V.int (T j : Nat)) := atI_at (by simp [rgN, hj])
theorem rgN_set {b j v : Nat} {T : Nat → Nat} : (rgN b T).set j (.int (v : Nat)) = rgN b fun d => if d = j then v else T d := by
  unfold rgN
  have := range_set (n := b) (j := j) (g := fun d => (T d : Int)) (v := (v : Int))
  rw [this]
  apply List.map_congr_left
  intro d _
  by_cases e : d = j
  · simp [e]
  · simp [e]
theorem rgN_len {b : Nat} {T : Nat → Nat} : (rgN b T).length = b := by simp [rgN]
theorem rgN_ext {b : Nat} {T T' : Nat → Nat} (h : ∀ d, d < b → T d = T' d) : rgN b T = rgN b T' := by
  unfold rgN
  apply List.map_congr_left
  intro d hd
  rw [h d (List.mem_range.mp hd)]
def sp__law_block (K : PySem.W.Frag) : Sp := fun vs H Q _ => ∃ (a e : Addr) (b n : Nat) (T : Nat → Nat) (ds : List Nat), vs = [.ref a, .int b, .ref e, .int n] ∧ H a = some (.lst (rgN b T)) ∧ H e = some (.lst (ds.map fun d : Nat => V.int (d : Nat))) ∧
  2 ≤ b ∧ b ≤ 10 ∧ (∀ x ∈ ds, x < b) ∧ ds.length ≤ 200 ∧ n ≤ 110 ∧ ∀ p H', H p = none → Sub H H' → H' p = some (.lst (rgN b fun d => T d + (b ^ n * ds.count d + n * b ^ (n - 1)))) → Q (.ref p) H'
theorem ok__law_block (T : Txt K mg) : FnOk P w K mg base CX0 1 (He.ga K "_law_block") T.fd__law_block ["_law_totals_here", "_law_base", "_law_digits", "_law_free"] (sp__law_block K) := by
  refine FunD.ok T.F__law_block sc__law_block (fun vs H Q E h => ?_) fun cdv A outer s H vs Q E hr h => ⟨_, PSs.nox (pss_cutG (ps_asg (pe_tup (pa_cons (pe_callTy (call_listU rfl) rfl T.f_list boot_list (pa_cons (pv 0) pa_nil)) (pa_cons pe_int pa_nil))) (pg_tupU (n := 2) rfl (pgs_cons (pg_name (i := 4) sc__law_block.nd rfl (by first | exact Or.inl rfl | exact Or.inr rfl)) (pgs_cons (pg_name (i := 5) sc__law_block.nd rfl (by first | exact Or.inl rfl | exact Or.inr rfl)) pgs_nil))))
      (pss_cutG (ps_forZ PassesOwn.never rfl (z_rng1 (by exact rfl) T.f_range (pa_cons (pv 3) pa_nil)) (pg_name (i := 6) sc__law_block.nd rfl (by first | exact Or.inl rfl | exact Or.inr rfl)) (pss_one (ps_set (i := 5) sc__law_block.nd rfl (by first | exact Or.inl rfl | exact Or.inr rfl) (pe_op op_mulU (pv 5) (pv 1)))))
      (pss_cutG (ps_forZ PassesOwn.never rfl (z_list (pv 2)) (pg_name (i := 7) sc__law_block.nd rfl (by first | exact Or.inl rfl | exact Or.inr rfl)) (pss_one (ps_asg (pe_op op_addU (pe_ix (ix_U (hu_of hr)) (pv 4) (pv 7) (fun _ _ => rfl)) (pv 5)) (pg_sub (pv 4) (pv 7) set_list))))
      (pss_one (ps_ret (pe_lcV rfl sc__law_block.nd (z_list (pv 4)) (own := [("_law_number", 8)]) (show BlkOk ["_law_totals_here", "_law_base", "_law_digits", "_law_free", "_law_found", "_law_many", "_law_place", "_law_digit", "_law_number"] (defScope s__law_block) _ [("_law_number", 8)] from ⟨rfl, by decide +kernel, by decide +kernel, by decide +kernel, by decide +kernel⟩) (fun _ _ _ _ _ => (pg_name (i := 8) sc__law_block.nd rfl (by first | exact Or.inl rfl | exact Or.inr rfl))) (fun _ _ _ _ _ => pts_nil) (fun _ _ _ _ _ => (pe_op op_addU (pv 8) (pe_ifExp (pt_cmpR op_gt (pv 3) pe_int (nomark _)) (pe_op op_fdivW (pe_op op_mulU (pv 3) (pv 5)) (pv 1)) pe_int))))))))), ?_⟩
  · obtain ⟨a, e, b, n, T, ds, rfl, _⟩ := h
    rfl
  · obtain ⟨a, e, b, n, T, ds, rfl, ha, he, hb, hb2, hds, hdl, hn, q⟩ := h
    have hsl := sizeLine_eq
    have hpw : b ^ n ≤ 10 ^ 110 := Nat.le_trans (Nat.pow_le_pow_left hb2 n) (Nat.pow_le_pow_right (by decide) hn)
    obtain ⟨M, hM⟩ : ∃ M, M = b ^ n := ⟨_, rfl⟩
    rw [← hM] at hpw
    show tCutG _ _ _ _ _
    refine ⟨fun σ H1 => ∃ p, σ = [some (V.ref a), some (V.int b), some (V.ref e), some (V.int n), some (V.ref p), some (V.int 1), none, none, none] ∧ H p = none ∧ Sub H H1 ∧ H1 p = some (.lst (rgN b T)), ?_, ?_⟩
    · simp [tRet, tRetN, tDrop, tAsg, gName, tSeq, tNext, tIfS, tAndV, tOrV, tNotV, tAnd, tOr, tNot, tB, tTest, tVar, tC, tOp, tUn, tCons, tNil, tTup, tLst, tCB, tBM, tBM0, tM1, tM0, tCall, tMeth, tMake, tFldU, sFldU, tChain, tIf, tPar, tPar3, tAug, tDisp, tPairs, tDGet2, sDPut, rIsiU, rIsiTU, rLenU, rIxU, rInU, rNilU, rEqU, rNeU, rEq, rNe, rMax2U, rMin2U, rInt1U, rAbsU, scal, rAddU, rMulU, rI0, rI, rU, rListU, rTupU, rSumU, rAllU, rAnyU, rDictU, rSlU, tSl, tPart, tNoPart, rAppend, rExtend, rPop, rPopAt, rJoinU, rRepr, tSumVals, tyN_non, tyN_bl, tyN_int, tyN_str, tyN_ref, tyO_lst, tyO_tup, tyO_dK, tyO_flst, tyO_ftup, tyO_fdK, and_assoc, tyList, isT, tyAsk, lk_none, lk_frz, lk_lst, lk_tup, lk_dK, lk_ins, kV_str, kV_int, kV_kV, L2.start, E0, tForZ, zList, zTup, zStr, zRng1, zRng2, zEnumS, zEnumL, zKeys, zVals, zItems, tAugS, rGetL, rSetL, ipI, tyN_new, upd_same, tLcV, tDcZ, tYes, wipe, tLcZ, tScZ, cxOf, RVal, RTup, gTupU, gCons, gNil, tProp, tDGetU, sDPutU, rLenO, rDEqU, tBML, tBML0, tConU, tDNewK, rIsiO, ha]
      intro p hp
      refine ⟨sz2, fun p2 hp2 => ?_⟩
      have n2 : p2 ≠ p := fun e => by rw [e, upd_same] at hp2; cases hp2
      rw [upd_ne n2] at hp2
      exact ⟨hp, sub_upd (Sub.new hp) hp2, by rw [upd_ne n2.symm, upd_same]⟩
    rintro σ H1 ⟨p, rfl, hp, hs1, hl1⟩
    show tCutG _ _ _ _ _
    refine ⟨fun σ H2 => (∃ x, σ = [some (V.ref a), some (V.int b), some (V.ref e), some (V.int n), some (V.ref p), some (V.int (M : Nat)), x, none, none]) ∧ H2 = H1, ?_, ?_⟩
    · simp [tRet, tRetN, tDrop, tAsg, gName, tSeq, tNext, tIfS, tAndV, tOrV, tNotV, tAnd, tOr, tNot, tB, tTest, tVar, tC, tOp, tUn, tCons, tNil, tTup, tLst, tCB, tBM, tBM0, tM1, tM0, tCall, tMeth, tMake, tFldU, sFldU, tChain, tIf, tPar, tPar3, tAug, tDisp, tPairs, tDGet2, sDPut, rIsiU, rIsiTU, rLenU, rIxU, rInU, rNilU, rEqU, rNeU, rEq, rNe, rMax2U, rMin2U, rInt1U, rAbsU, scal, rAddU, rMulU, rI0, rI, rU, rListU, rTupU, rSumU, rAllU, rAnyU, rDictU, rSlU, tSl, tPart, tNoPart, rAppend, rExtend, rPop, rPopAt, rJoinU, rRepr, tSumVals, tyN_non, tyN_bl, tyN_int, tyN_str, tyN_ref, tyO_lst, tyO_tup, tyO_dK, tyO_flst, tyO_ftup, tyO_fdK, and_assoc, tyList, isT, tyAsk, lk_none, lk_frz, lk_lst, lk_tup, lk_dK, lk_ins, kV_str, kV_int, kV_kV, L2.start, E0, tForZ, zList, zTup, zStr, zRng1, zRng2, zEnumS, zEnumL, zKeys, zVals, zItems, tAugS, rGetL, rSetL, ipI, tyN_new, upd_same, tLcV, tDcZ, tYes, wipe, tLcZ, tScZ, cxOf, RVal, RTup, gTupU, gCons, gNil, tProp, tDGetU, sDPutU, rLenO, rDEqU, tBML, tBML0, tConU, tDNewK, rIsiO]
      refine ⟨by omega, ?_⟩
      refine loop_ix (fun i σ H2 => (∃ (c : Nat) (x : Option V), c = b ^ i ∧ σ = [some (V.ref a), some (V.int b), some (V.ref e), some (V.int n), some (V.ref p), some (V.int (c : Nat)), x, none, none]) ∧ H2 = H1) ⟨⟨1, none, by simp, rfl⟩, rfl⟩ (fun _ _ _ _ => trivial) ?_ ?_
      · rintro i z σ H2 v H3 hz ⟨⟨c, x, hc, rfl⟩, rfl⟩ ⟨rfl, rfl⟩
        obtain ⟨rfl, hi⟩ := intsZ_get hz
        have hi : i < n := by omega
        have hci : c ≤ 10 ^ 110 := by
          rw [hc]
          exact Nat.le_trans (Nat.pow_le_pow_left hb2 i) (Nat.pow_le_pow_right (by decide) (by omega))
        simp [tRet, tRetN, tDrop, tAsg, gName, tSeq, tNext, tIfS, tAndV, tOrV, tNotV, tAnd, tOr, tNot, tB, tTest, tVar, tC, tOp, tUn, tCons, tNil, tTup, tLst, tCB, tBM, tBM0, tM1, tM0, tCall, tMeth, tMake, tFldU, sFldU, tChain, tIf, tPar, tPar3, tAug, tDisp, tPairs, tDGet2, sDPut, rIsiU, rIsiTU, rLenU, rIxU, rInU, rNilU, rEqU, rNeU, rEq, rNe, rMax2U, rMin2U, rInt1U, rAbsU, scal, rAddU, rMulU, rI0, rI, rU, rListU, rTupU, rSumU, rAllU, rAnyU, rDictU, rSlU, tSl, tPart, tNoPart, rAppend, rExtend, rPop, rPopAt, rJoinU, rRepr, tSumVals, tyN_non, tyN_bl, tyN_int, tyN_str, tyN_ref, tyO_lst, tyO_tup, tyO_dK, tyO_flst, tyO_ftup, tyO_fdK, and_assoc, tyList, isT, tyAsk, lk_none, lk_frz, lk_lst, lk_tup, lk_dK, lk_ins, kV_str, kV_int, kV_kV, L2.start, E0, tForZ, zList, zTup, zStr, zRng1, zRng2, zEnumS, zEnumL, zKeys, zVals, zItems, tAugS, rGetL, rSetL, ipI, tyN_new, upd_same, tLcV, tDcZ, tYes, wipe, tLcZ, tScZ, cxOf, RVal, RTup, gTupU, gCons, gNil, tProp, tDGetU, sDPutU, rLenO, rDEqU, tBML, tBML0, tConU, tDNewK, rIsiO]
        exact ⟨cmul (few (by omega) (by omega)) (few (by omega) (by omega)), by rw [hc]; push_cast; rw [Int.pow_succ]⟩
      · rintro σ H2 ⟨⟨c, x, hc, rfl⟩, rfl⟩
        rw [intsZ_len] at hc
        have : ((n : Int) - 0).toNat = n := by omega
        rw [this, ← hM] at hc
        subst hc
        exact ⟨⟨_, rfl⟩, rfl⟩
    rintro σ H2 ⟨⟨x, rfl⟩, rfl⟩
    show tCutG _ _ _ _ _
    refine ⟨fun σ H3 => (∃ x y, σ = [some (V.ref a), some (V.int b), some (V.ref e), some (V.int n), some (V.ref p), some (V.int (M : Nat)), x, y, none]) ∧ Sub H H3 ∧ H3 p = some (.lst (rgN b fun d => T d + M * ds.count d)), ?_, ?_⟩
    · simp [tRet, tRetN, tDrop, tAsg, gName, tSeq, tNext, tIfS, tAndV, tOrV, tNotV, tAnd, tOr, tNot, tB, tTest, tVar, tC, tOp, tUn, tCons, tNil, tTup, tLst, tCB, tBM, tBM0, tM1, tM0, tCall, tMeth, tMake, tFldU, sFldU, tChain, tIf, tPar, tPar3, tAug, tDisp, tPairs, tDGet2, sDPut, rIsiU, rIsiTU, rLenU, rIxU, rInU, rNilU, rEqU, rNeU, rEq, rNe, rMax2U, rMin2U, rInt1U, rAbsU, scal, rAddU, rMulU, rI0, rI, rU, rListU, rTupU, rSumU, rAllU, rAnyU, rDictU, rSlU, tSl, tPart, tNoPart, rAppend, rExtend, rPop, rPopAt, rJoinU, rRepr, tSumVals, tyN_non, tyN_bl, tyN_int, tyN_str, tyN_ref, tyO_lst, tyO_tup, tyO_dK, tyO_flst, tyO_ftup, tyO_fdK, and_assoc, tyList, isT, tyAsk, lk_none, lk_frz, lk_lst, lk_tup, lk_dK, lk_ins, kV_str, kV_int, kV_kV, L2.start, E0, tForZ, zList, zTup, zStr, zRng1, zRng2, zEnumS, zEnumL, zKeys, zVals, zItems, tAugS, rGetL, rSetL, ipI, tyN_new, upd_same, tLcV, tDcZ, tYes, wipe, tLcZ, tScZ, cxOf, RVal, RTup, gTupU, gCons, gNil, tProp, tDGetU, sDPutU, rLenO, rDEqU, tBML, tBML0, tConU, tDNewK, rIsiO]
      refine ⟨_, by rw [hs1.get he]; rfl, ?_⟩
      refine loop_ix (fun i σ H3 => (∃ x y, σ = [some (V.ref a), some (V.int b), some (V.ref e), some (V.int n), some (V.ref p), some (V.int (M : Nat)), x, y, none]) ∧ Sub H H3 ∧ H3 p = some (.lst (rgN b fun d => T d + M * (ds.take i).count d))) ⟨⟨_, _, rfl⟩, hs1, by simpa using hl1⟩ (fun i σ H3 hh => by rw [hh.2.1.get he]; rfl) ?_ ?_
      · rintro i z σ H3 v H4 hz ⟨⟨x, y, rfl⟩, s3, l3⟩ ⟨rfl, hv⟩
        have hv : v = z := hv
        subst hv
        rw [List.getElem?_map] at hz
        obtain ⟨j, hj, rfl⟩ := Option.map_eq_some_iff.mp hz
        have hjb := hds j (List.mem_of_getElem? hj)
        simp [tRet, tRetN, tDrop, tAsg, gName, tSeq, tNext, tIfS, tAndV, tOrV, tNotV, tAnd, tOr, tNot, tB, tTest, tVar, tC, tOp, tUn, tCons, tNil, tTup, tLst, tCB, tBM, tBM0, tM1, tM0, tCall, tMeth, tMake, tFldU, sFldU, tChain, tIf, tPar, tPar3, tAug, tDisp, tPairs, tDGet2, sDPut, rIsiU, rIsiTU, rLenU, rIxU, rInU, rNilU, rEqU, rNeU, rEq, rNe, rMax2U, rMin2U, rInt1U, rAbsU, scal, rAddU, rMulU, rI0, rI, rU, rListU, rTupU, rSumU, rAllU, rAnyU, rDictU, rSlU, tSl, tPart, tNoPart, rAppend, rExtend, rPop, rPopAt, rJoinU, rRepr, tSumVals, tyN_non, tyN_bl, tyN_int, tyN_str, tyN_ref, tyO_lst, tyO_tup, tyO_dK, tyO_flst, tyO_ftup, tyO_fdK, and_assoc, tyList, isT, tyAsk, lk_none, lk_frz, lk_lst, lk_tup, lk_dK, lk_ins, kV_str, kV_int, kV_kV, L2.start, E0, tForZ, zList, zTup, zStr, zRng1, zRng2, zEnumS, zEnumL, zKeys, zVals, zItems, tAugS, rGetL, rSetL, ipI, tyN_new, upd_same, tLcV, tDcZ, tYes, wipe, tLcZ, tScZ, cxOf, RVal, RTup, gTupU, gCons, gNil, tProp, tDGetU, sDPutU, rLenO, rDEqU, tBML, tBML0, tConU, tDNewK, rIsiO, gSub, l3, rgN_at hjb, rgN_len]
        refine ⟨j, ixN_at hjb, sub_upd s3 hp, ?_⟩
        have ev : V.int ((T j : Int) + (M : Int) * ((ds.take i).count j : Int) + (M : Int)) = V.int ((T j + M * (ds.take i).count j + M : Nat) : Int) := by push_cast; rfl
        rw [ev, rgN_set]
        apply rgN_ext
        intro d hd
        rw [take_at hj, List.count_append, List.count_singleton]
        by_cases e : d = j
        · subst e
          simp [Nat.mul_add]
          omega
        · have e2 : (j == d) = false := by simpa using fun q : j = d => e q.symm
          simp [e, e2]
      · rintro σ H3 ⟨⟨x, y, rfl⟩, s3, l3⟩
        rw [List.length_map, List.take_length] at l3
        exact ⟨⟨_, _, rfl⟩, s3, l3⟩
    rintro σ H3 ⟨⟨x, y, rfl⟩, s3, l3⟩
    simp only [tRet]
    refine ⟨_, rfl, p, _, rfl, by rw [l3]; rfl, ?_⟩
    refine lcv (fun _ => true) (fun v => match v with | .int i => V.int (i + ((n * b ^ (n - 1) : Nat) : Int)) | _ => V.non) (by rw [rgN_len]; omega) (fun H' hs' => by rw [hs'.get l3]; rfl) (fun z hz H4 v H5 hs4 hr => ?_) (fun D H4 hD hs4 hH4 => ?_)
    · obtain ⟨rfl, hv⟩ := hr
      have hv : v = z := hv
      subst hv
      obtain ⟨d, hd, rfl⟩ := List.mem_map.mp hz
      have hbe := block_eq hb n
      rw [← hM] at hbe
      by_cases h0 : 0 < n
      · rw [if_pos h0] at hbe
        have hbe2 : (n : Int) * (M : Int) / (b : Int) = ((n * b ^ (n - 1) : Nat) : Int) := by rw [← hbe]; norm_cast
        simp [tRet, tRetN, tDrop, tAsg, gName, tSeq, tNext, tIfS, tAndV, tOrV, tNotV, tAnd, tOr, tNot, tB, tTest, tVar, tC, tOp, tUn, tCons, tNil, tTup, tLst, tCB, tBM, tBM0, tM1, tM0, tCall, tMeth, tMake, tFldU, sFldU, tChain, tIf, tPar, tPar3, tAug, tDisp, tPairs, tDGet2, sDPut, rIsiU, rIsiTU, rLenU, rIxU, rInU, rNilU, rEqU, rNeU, rEq, rNe, rMax2U, rMin2U, rInt1U, rAbsU, scal, rAddU, rMulU, rI0, rI, rU, rListU, rTupU, rSumU, rAllU, rAnyU, rDictU, rSlU, tSl, tPart, tNoPart, rAppend, rExtend, rPop, rPopAt, rJoinU, rRepr, tSumVals, tyN_non, tyN_bl, tyN_int, tyN_str, tyN_ref, tyO_lst, tyO_tup, tyO_dK, tyO_flst, tyO_ftup, tyO_fdK, and_assoc, tyList, isT, tyAsk, lk_none, lk_frz, lk_lst, lk_tup, lk_dK, lk_ins, kV_str, kV_int, kV_kV, L2.start, E0, tForZ, zList, zTup, zStr, zRng1, zRng2, zEnumS, zEnumL, zKeys, zVals, zItems, tAugS, rGetL, rSetL, ipI, tyN_new, upd_same, tLcV, tDcZ, tYes, wipe, tLcZ, tScZ, cxOf, RVal, RTup, gTupU, gCons, gNil, tProp, tDGetU, sDPutU, rLenO, rDEqU, tBML, tBML0, tConU, tDNewK, rIsiO, h0, -Int.natCast_mul]
        refine ⟨cmul (few (by omega) (by omega)) (few (by omega) (by omega)), cdivw (by omega) (few (by omega) (by omega)), Sub.refl _, ?_⟩
        rw [hbe2]
      · obtain rfl : n = 0 := by omega
        simp [tRet, tRetN, tDrop, tAsg, gName, tSeq, tNext, tIfS, tAndV, tOrV, tNotV, tAnd, tOr, tNot, tB, tTest, tVar, tC, tOp, tUn, tCons, tNil, tTup, tLst, tCB, tBM, tBM0, tM1, tM0, tCall, tMeth, tMake, tFldU, sFldU, tChain, tIf, tPar, tPar3, tAug, tDisp, tPairs, tDGet2, sDPut, rIsiU, rIsiTU, rLenU, rIxU, rInU, rNilU, rEqU, rNeU, rEq, rNe, rMax2U, rMin2U, rInt1U, rAbsU, scal, rAddU, rMulU, rI0, rI, rU, rListU, rTupU, rSumU, rAllU, rAnyU, rDictU, rSlU, tSl, tPart, tNoPart, rAppend, rExtend, rPop, rPopAt, rJoinU, rRepr, tSumVals, tyN_non, tyN_bl, tyN_int, tyN_str, tyN_ref, tyO_lst, tyO_tup, tyO_dK, tyO_flst, tyO_ftup, tyO_fdK, and_assoc, tyList, isT, tyAsk, lk_none, lk_frz, lk_lst, lk_tup, lk_dK, lk_ins, kV_str, kV_int, kV_kV, L2.start, E0, tForZ, zList, zTup, zStr, zRng1, zRng2, zEnumS, zEnumL, zKeys, zVals, zItems, tAugS, rGetL, rSetL, ipI, tyN_new, upd_same, tLcV, tDcZ, tYes, wipe, tLcZ, tScZ, cxOf, RVal, RTup, gTupU, gCons, gNil, tProp, tDGetU, sDPutU, rLenO, rDEqU, tBML, tBML0, tConU, tDNewK, rIsiO]
        exact Sub.refl _
    · rw [filt] at hH4
      refine q D H4 (s3.none hD) (s3.trans hs4) ?_
      rw [hH4]
      unfold rgN
      rw [List.map_map]
      congr 2
      apply List.map_congr_left
      intro d _
      show V.int (((T d + M * ds.count d : Nat) : Int) + ((n * b ^ (n - 1) : Nat) : Int)) = V.int ((T d + (b ^ n * ds.count d + n * b ^ (n - 1)) : Nat) : Int)
      rw [← hM]
      congr 1
      push_cast
      omega
theorem rw_len_le {b : Nat} (hb : 2 ≤ b) : ∀ (k n : Nat), n < 2 ^ k → (rw' b n).length ≤ k
  | 0, n, h => by
    obtain rfl : n = 0 := by omega
    simp [rw_zero]
  | k + 1, n, h => by
    by_cases z : n = 0
    · subst z
      simp [rw_zero]
    · rw [rw_pos hb (by omega), List.length_append, List.length_singleton]
      have h1 : n / b ≤ n / 2 := Nat.div_le_div_left hb (by omega)
      have := rw_len_le hb k (n / b) (by rw [Nat.pow_succ] at h; omega)
      omega
/-- what is counted before cur -/
def tl (b cur : Nat) : Nat → Nat := fun d => tallyD b d 1 (cur - 1)
theorem tl_block {b d n p : Nat} (hb : 2 ≤ b) (hd : d < b) (hp : 1 ≤ p) {ds : List Nat} (e : rw' b p = ds) : tl b (p * b ^ n) d + (b ^ n * ds.count d + n * b ^ (n - 1)) = tl b ((p + 1) * b ^ n) d := by
  have h := tally_block hb hd n p hp
  have hpos : 0 < b ^ n := Nat.pow_pos (by omega)
  have h1 : 1 * 1 ≤ p * b ^ n := Nat.mul_le_mul hp hpos
  rw [e] at h
  unfold tl
  rw [← h, Nat.add_mul, Nat.one_mul, show p * b ^ n + b ^ n - 1 = (p * b ^ n - 1) + b ^ n by omega, tally_add, show 1 + (p * b ^ n - 1) = p * b ^ n by omega]
def sp__law_totals (K : PySem.W.Frag) : Sp := fun vs H Q _ => ∃ b n : Nat, vs = [.int b, .int n] ∧ 2 ≤ b ∧ b ≤ 10 ∧ n ≤ 10 ^ 31 ∧ ∀ p H', Sub H H' → H' p = some (.lst (rgN b fun d => tallyD b d 1 n)) → Q (.ref p) H'
theorem ok__law_totals (T : Txt K mg) : FnOk P w K mg base CX0 2 (He.ga K "_law_totals") T.fd__law_totals ["_law_base", "_law_last"] (sp__law_totals K) := by
  refine FunD.ok T.F__law_totals sc__law_totals (fun vs H Q E h => ?_) fun cdv A outer s H vs Q E hr h => ⟨_, PSs.nox (pss_cutG (ps_par (i := 2) (j := 3) rfl sc__law_totals.nd rfl rfl (by decide) rfl rfl (pa_cons (pe_lst pa_nil) (pa_cons (pv 1) pa_nil)) rfl)
      (pss_cutG (ps_while PassesOwn.never (pt_cmpR op_gt (pv 3) pe_int (nomark _)) (pss_cons (ps_set (i := 2) sc__law_totals.nd rfl (by first | exact Or.inl rfl | exact Or.inr rfl) (pe_op op_addU (pe_lst (pa_cons (pe_op op_mod (pe_callTy call_int1U rfl T.f_int boot_int (pa_cons (pv 3) pa_nil)) (pv 0)) pa_nil)) (pv 2)))
      (pss_one (ps_set (i := 3) sc__law_totals.nd rfl (by first | exact Or.inl rfl | exact Or.inr rfl) (pe_op op_fdivW (pv 3) (pv 0))))))
      (pss_cutG (ps_set (i := 4) sc__law_totals.nd rfl (by first | exact Or.inl rfl | exact Or.inr rfl) (pe_op op_mulU (pe_lst (pa_cons pe_int pa_nil)) (pv 0)))
      (pss_cutG (ps_forZ PassesOwn.never rfl (z_rng2 (by exact rfl) T.f_range (pa_cons pe_int (pa_cons (pe_callB call_lenU rfl T.f_len boot_len (pa_cons (pv 2) pa_nil)) pa_nil))) (pg_name (i := 5) sc__law_totals.nd rfl (by first | exact Or.inl rfl | exact Or.inr rfl)) (pss_one (ps_forZ PassesOwn.never rfl (z_rng2 (by exact rfl) T.f_range (pa_cons pe_int (pa_cons (pv 0) pa_nil))) (pg_name (i := 6) sc__law_totals.nd rfl (by first | exact Or.inl rfl | exact Or.inr rfl)) (pss_one (ps_set (i := 4) sc__law_totals.nd rfl (by first | exact Or.inl rfl | exact Or.inr rfl) (pe_call (ok__law_block T) (hr.mono (by omega)) rfl T.g__law_block T.F__law_block.kp (b__law_block T) .nil pass0 (pa_cons (pv 4) (pa_cons (pv 0) (pa_cons (pe_lst (pa_cons (pv 6) pa_nil)) (pa_cons (pe_op op_sub (pv 5) pe_int) pa_nil))))))))))
      (pss_cutG (ps_forZ PassesOwn.never rfl (z_rng1 (by exact rfl) T.f_range (pa_cons (pe_callB call_lenU rfl T.f_len boot_len (pa_cons (pv 2) pa_nil)) pa_nil)) (pg_name (i := 7) sc__law_totals.nd rfl (by first | exact Or.inl rfl | exact Or.inr rfl)) (pss_one (ps_forZ PassesOwn.never rfl (z_rng2 (by exact rfl) T.f_range (pa_cons (pe_callTy call_int1U rfl T.f_int boot_int (pa_cons (pe_cmpR (op_eqU (hu0 hr)) (pv 7) pe_int (nomark _)) pa_nil)) (pa_cons (pe_ix (ix_U (hu_of hr)) (pv 2) (pv 7) (fun _ _ => rfl)) pa_nil))) (pg_name (i := 8) sc__law_totals.nd rfl (by first | exact Or.inl rfl | exact Or.inr rfl)) (pss_one (ps_set (i := 4) sc__law_totals.nd rfl (by first | exact Or.inl rfl | exact Or.inr rfl) (pe_call (ok__law_block T) (hr.mono (by omega)) rfl T.g__law_block T.F__law_block.kp (b__law_block T) .nil pass0 (pa_cons (pv 4) (pa_cons (pv 0) (pa_cons (pe_op op_addU (pe_slice sl_U (pv 2) po_none (po_some (pv 7))) (pe_lst (pa_cons (pv 8) pa_nil))) (pa_cons (pe_op op_sub (pe_op op_sub (pe_callB call_lenU rfl T.f_len boot_len (pa_cons (pv 2) pa_nil)) pe_int) (pv 7)) pa_nil))))))))))
      (pss_one (ps_ret (pe_ifExp (pt_cmpR op_gt (pv 1) pe_int (nomark _)) (pe_call (ok__law_block T) (hr.mono (by omega)) rfl T.g__law_block T.F__law_block.kp (b__law_block T) .nil pass0 (pa_cons (pv 4) (pa_cons (pv 0) (pa_cons (pv 2) (pa_cons pe_int pa_nil))))) (pv 4))))))))), ?_⟩
  · obtain ⟨b, n, rfl, _⟩ := h
    rfl
  · obtain ⟨b, n, rfl, hb, hb2, hn, q⟩ := h
    have hsl := sizeLine_eq
    have h10 : (10 : Nat) ^ 31 < 2 ^ 110 := by decide
    have hL := rw_len_le hb 110 n (by omega)
    obtain ⟨L, hLe⟩ : ∃ L, L = (rw' b n).length := ⟨_, rfl⟩
    rw [← hLe] at hL
    obtain ⟨dl, hdl⟩ : ∃ dl : List V, dl = (rw' b n).map fun d : Nat => V.int (d : Nat) := ⟨_, rfl⟩
    have hdll : dl.length = L := by rw [hdl, List.length_map, hLe]
    show tCutG _ _ _ _ _
    refine ⟨fun σ H1 => ∃ e : Addr, σ = [some (V.int (b : Nat)), some (V.int (n : Nat)), some (V.ref e), some (V.int (n : Nat)), none, none, none, none, none] ∧ Sub H H1 ∧ H1 e = some (.lst []), ?_, ?_⟩
    · simp [tRet, tRetN, tDrop, tAsg, gName, tSeq, tNext, tIfS, tAndV, tOrV, tNotV, tAnd, tOr, tNot, tB, tTest, tVar, tC, tOp, tUn, tCons, tNil, tTup, tLst, tCB, tBM, tBM0, tM1, tM0, tCall, tMeth, tMake, tFldU, sFldU, tChain, tIf, tPar, tPar3, tAug, tDisp, tPairs, tDGet2, sDPut, rIsiU, rIsiTU, rLenU, rIxU, rInU, rNilU, rEqU, rNeU, rEq, rNe, rMax2U, rMin2U, rInt1U, rAbsU, scal, rAddU, rMulU, rI0, rI, rU, rListU, rTupU, rSumU, rAllU, rAnyU, rDictU, rSlU, tSl, tPart, tNoPart, rAppend, rExtend, rPop, rPopAt, rJoinU, rRepr, tSumVals, tyN_non, tyN_bl, tyN_int, tyN_str, tyN_ref, tyO_lst, tyO_tup, tyO_dK, tyO_flst, tyO_ftup, tyO_fdK, and_assoc, tyList, isT, tyAsk, lk_none, lk_frz, lk_lst, lk_tup, lk_dK, lk_ins, kV_str, kV_int, kV_kV, L2.start, E0, tForZ, zList, zTup, zStr, zRng1, zRng2, zEnumS, zEnumL, zKeys, zVals, zItems, tAugS, rGetL, rSetL, ipI, tyN_new, upd_same, tLcV, tDcZ, tYes, wipe, tLcZ, tScZ, cxOf, RVal, RTup, gTupU, gCons, gNil, tProp, tDGetU, sDPutU, rLenO, rDEqU, tBML, tBML0, tConU, tDNewK, rIsiO]
      exact fun p hp => Sub.new hp
    rintro σ H1 ⟨e, rfl, s1, l1⟩
    show tCutG _ _ _ _ _
    refine ⟨fun σ H2 => ∃ (e : Addr) (x : Option V), σ = [some (V.int (b : Nat)), some (V.int (n : Nat)), some (V.ref e), x, none, none, none, none, none] ∧ Sub H H2 ∧ H2 e = some (.lst dl), ?_, ?_⟩
    · refine ⟨fun m σ H' => ∃ (l : Nat) (acc : List Nat) (e : Addr), m = l ∧ σ = [some (V.int (b : Nat)), some (V.int (n : Nat)), some (V.ref e), some (V.int (l : Nat)), none, none, none, none, none] ∧ Sub H H' ∧ H' e = some (.lst (acc.map fun d : Nat => V.int (d : Nat))) ∧ rw' b n = rw' b l ++ acc ∧ l * 2 ^ acc.length ≤ n, ⟨_, n, [], e, rfl, rfl, s1, l1, by simp, by simp⟩, ?_⟩
      rintro l σ H' ⟨_, acc, e, rfl, rfl, s2, l2, h1, h2⟩
      simp [tRet, tRetN, tDrop, tAsg, gName, tSeq, tNext, tIfS, tAndV, tOrV, tNotV, tAnd, tOr, tNot, tB, tTest, tVar, tC, tOp, tUn, tCons, tNil, tTup, tLst, tCB, tBM, tBM0, tM1, tM0, tCall, tMeth, tMake, tFldU, sFldU, tChain, tIf, tPar, tPar3, tAug, tDisp, tPairs, tDGet2, sDPut, rIsiU, rIsiTU, rLenU, rIxU, rInU, rNilU, rEqU, rNeU, rEq, rNe, rMax2U, rMin2U, rInt1U, rAbsU, scal, rAddU, rMulU, rI0, rI, rU, rListU, rTupU, rSumU, rAllU, rAnyU, rDictU, rSlU, tSl, tPart, tNoPart, rAppend, rExtend, rPop, rPopAt, rJoinU, rRepr, tSumVals, tyN_non, tyN_bl, tyN_int, tyN_str, tyN_ref, tyO_lst, tyO_tup, tyO_dK, tyO_flst, tyO_ftup, tyO_fdK, and_assoc, tyList, isT, tyAsk, lk_none, lk_frz, lk_lst, lk_tup, lk_dK, lk_ins, kV_str, kV_int, kV_kV, L2.start, E0, tForZ, zList, zTup, zStr, zRng1, zRng2, zEnumS, zEnumL, zKeys, zVals, zItems, tAugS, rGetL, rSetL, ipI, tyN_new, upd_same, tLcV, tDcZ, tYes, wipe, tLcZ, tScZ, cxOf, RVal, RTup, gTupU, gCons, gNil, tProp, tDGetU, sDPutU, rLenO, rDEqU, tBML, tBML0, tConU, tDNewK, rIsiO]
      refine ite_all (fun hpos => ?_) fun hz => ?_
      · have hacc := few_digits h2 hn (by omega)
        have hm : (l : Int) % (b : Int) = ((l % b : Nat) : Int) := by norm_cast
        have hd : (l : Int) / (b : Int) = ((l / b : Nat) : Int) := by norm_cast
        have hd2 : l / b ≤ l / 2 := Nat.div_le_div_left hb (by omega)
        refine ⟨fun σ' H'' => ∃ e : Addr, σ' = [some (V.int (b : Nat)), some (V.int (n : Nat)), some (V.ref e), some (V.int ((l / b : Nat) : Int)), none, none, none, none, none] ∧ Sub H H'' ∧ H'' e = some (.lst ((l % b :: acc).map fun d : Nat => V.int (d : Nat))), ?_, ?_⟩
        · rintro σ' H'' ⟨e', rfl, s3, l3⟩
          refine ⟨l / b, by omega, l % b :: acc, e', rfl, s3, l3, ?_, ?_⟩
          · rw [h1, rw_pos hb (by omega), List.append_assoc]
            rfl
          · rw [List.length_cons, Nat.pow_succ]
            have h3 : l / b * 2 ≤ l := by omega
            have h4 : (l / b * 2) * 2 ^ acc.length ≤ l * 2 ^ acc.length := Nat.mul_le_mul_right _ h3
            have h5 : l / b * (2 ^ acc.length * 2) = (l / b * 2) * 2 ^ acc.length := by ac_rfl
            omega
        · refine ⟨by omega, sz1, fun p hp => ⟨_, (Sub.new hp).get l2, by rw [List.length_map]; omega, fun p1 hp1 => ⟨cdivw (by omega) (few40 (by omega) (by omega)), p1, by rw [hd], sub_upd (s2.trans (Sub.new hp)) ((s2.trans (Sub.new hp)).none hp1), ?_⟩⟩⟩
          rw [upd_same, hm]
          rfl
      · obtain rfl : l = 0 := by omega
        rw [rw_zero, List.nil_append] at h1
        exact ⟨s2, by rw [l2, hdl, h1]⟩
    rintro σ H2 ⟨e, x, rfl, s2, l2⟩
    show tCutG _ _ _ _ _
    refine ⟨fun σ H3 => ∃ (f : Addr), σ = [some (V.int (b : Nat)), some (V.int (n : Nat)), some (V.ref e), x, some (V.ref f), none, none, none, none] ∧ Sub H H3 ∧ H3 e = some (.lst dl) ∧ H3 f = some (.lst (rgN b (tl b 1))), ?_, ?_⟩
    · simp [tRet, tRetN, tDrop, tAsg, gName, tSeq, tNext, tIfS, tAndV, tOrV, tNotV, tAnd, tOr, tNot, tB, tTest, tVar, tC, tOp, tUn, tCons, tNil, tTup, tLst, tCB, tBM, tBM0, tM1, tM0, tCall, tMeth, tMake, tFldU, sFldU, tChain, tIf, tPar, tPar3, tAug, tDisp, tPairs, tDGet2, sDPut, rIsiU, rIsiTU, rLenU, rIxU, rInU, rNilU, rEqU, rNeU, rEq, rNe, rMax2U, rMin2U, rInt1U, rAbsU, scal, rAddU, rMulU, rI0, rI, rU, rListU, rTupU, rSumU, rAllU, rAnyU, rDictU, rSlU, tSl, tPart, tNoPart, rAppend, rExtend, rPop, rPopAt, rJoinU, rRepr, tSumVals, tyN_non, tyN_bl, tyN_int, tyN_str, tyN_ref, tyO_lst, tyO_tup, tyO_dK, tyO_flst, tyO_ftup, tyO_fdK, and_assoc, tyList, isT, tyAsk, lk_none, lk_frz, lk_lst, lk_tup, lk_dK, lk_ins, kV_str, kV_int, kV_kV, L2.start, E0, tForZ, zList, zTup, zStr, zRng1, zRng2, zEnumS, zEnumL, zKeys, zVals, zItems, tAugS, rGetL, rSetL, ipI, tyN_new, upd_same, tLcV, tDcZ, tYes, wipe, tLcZ, tScZ, cxOf, RVal, RTup, gTupU, gCons, gNil, tProp, tDGetU, sDPutU, rLenO, rDEqU, tBML, tBML0, tConU, tDNewK, rIsiO]
      refine ⟨sz1, fun p hp => ⟨by omega, by omega, fun p1 hp1 => ⟨sub_upd (s2.trans (Sub.new hp)) ((s2.trans (Sub.new hp)).none hp1), ((Sub.new hp).trans (Sub.new hp1)).get l2, ?_⟩⟩⟩
      simp [rgN, tl, tallyD, List.map_const']
    rintro σ H3 ⟨f, rfl, s3, l3, f3⟩
    show tCutG _ _ _ _ _
    refine ⟨fun σ H4 => ∃ (f : Addr) (x5 x6 : Option V), σ = [some (V.int (b : Nat)), some (V.int (n : Nat)), some (V.ref e), x, some (V.ref f), x5, x6, none, none] ∧ Sub H H4 ∧ H4 e = some (.lst dl) ∧ H4 f = some (.lst (rgN b (tl b (b ^ (L - 1))))), ?_, ?_⟩
    · obtain ⟨Pv, hPv⟩ : ∃ Pv : Nat → L2.St → Hp → Prop, Pv = fun i σ H4 => ∃ (f : Addr) (x5 x6 : Option V), σ = [some (V.int (b : Nat)), some (V.int (n : Nat)), some (V.ref e), x, some (V.ref f), x5, x6, none, none] ∧ Sub H H4 ∧ H4 e = some (.lst dl) ∧ H4 f = some (.lst (rgN b (tl b (b ^ i)))) := ⟨_, rfl⟩
      simp [tRet, tRetN, tDrop, tAsg, gName, tSeq, tNext, tIfS, tAndV, tOrV, tNotV, tAnd, tOr, tNot, tB, tTest, tVar, tC, tOp, tUn, tCons, tNil, tTup, tLst, tCB, tBM, tBM0, tM1, tM0, tCall, tMeth, tMake, tFldU, sFldU, tChain, tIf, tPar, tPar3, tAug, tDisp, tPairs, tDGet2, sDPut, rIsiU, rIsiTU, rLenU, rIxU, rInU, rNilU, rEqU, rNeU, rEq, rNe, rMax2U, rMin2U, rInt1U, rAbsU, scal, rAddU, rMulU, rI0, rI, rU, rListU, rTupU, rSumU, rAllU, rAnyU, rDictU, rSlU, tSl, tPart, tNoPart, rAppend, rExtend, rPop, rPopAt, rJoinU, rRepr, tSumVals, tyN_non, tyN_bl, tyN_int, tyN_str, tyN_ref, tyO_lst, tyO_tup, tyO_dK, tyO_flst, tyO_ftup, tyO_fdK, and_assoc, tyList, isT, tyAsk, lk_none, lk_frz, lk_lst, lk_tup, lk_dK, lk_ins, kV_str, kV_int, kV_kV, L2.start, E0, tForZ, zList, zTup, zStr, zRng1, zRng2, zEnumS, zEnumL, zKeys, zVals, zItems, tAugS, rGetL, rSetL, ipI, tyN_new, upd_same, tLcV, tDcZ, tYes, wipe, tLcZ, tScZ, cxOf, RVal, RTup, gTupU, gCons, gNil, tProp, tDGetU, sDPutU, rLenO, rDEqU, tBML, tBML0, tConU, tDNewK, rIsiO, l3, hdll]
      refine Or.inl ⟨by omega, ?_⟩
      refine loop_ix Pv (by rw [hPv]; exact ⟨f, _, _, rfl, s3, l3, by simpa using f3⟩) (fun _ _ _ _ => trivial) ?_ ?_
      · intro i z σ H4 v H5 hz hP hr
        rw [hPv] at hP
        obtain ⟨f, x5, x6, rfl, s4, l4, f4⟩ := hP
        obtain ⟨rfl, rfl⟩ := hr
        obtain ⟨rfl, hi⟩ := intsZ_get hz
        have hi : i + 1 < L := by omega
        show tForZ _ _ _ _ _ _
        refine ⟨_, rfl, 1, b, rfl, by omega, ?_⟩
        obtain ⟨Pw, hPw⟩ : ∃ Pw : Nat → L2.St → Hp → Prop, Pw = fun j σ H4 => ∃ (f : Addr) (x6 : Option V), σ = [some (V.int (b : Nat)), some (V.int (n : Nat)), some (V.ref e), x, some (V.ref f), some (V.int ((1 : Int) + (i : Nat))), x6, none, none] ∧ Sub H H4 ∧ H4 e = some (.lst dl) ∧ H4 f = some (.lst (rgN b (tl b ((1 + j) * b ^ i)))) := ⟨_, rfl⟩
        refine loop_ix Pw (by rw [hPw]; exact ⟨f, _, rfl, s4, l4, by simpa using f4⟩) (fun _ _ _ _ => trivial) ?_ ?_
        · intro j z σ H6 v H7 hz hP hr
          rw [hPw] at hP
          obtain ⟨f, x6, rfl, s6, l6, f6⟩ := hP
          obtain ⟨rfl, rfl⟩ := hr
          obtain ⟨rfl, hj⟩ := intsZ_get hz
          have hj : 1 + j < b := by omega
          simp [tRet, tRetN, tDrop, tAsg, gName, tSeq, tNext, tIfS, tAndV, tOrV, tNotV, tAnd, tOr, tNot, tB, tTest, tVar, tC, tOp, tUn, tCons, tNil, tTup, tLst, tCB, tBM, tBM0, tM1, tM0, tCall, tMeth, tMake, tFldU, sFldU, tChain, tIf, tPar, tPar3, tAug, tDisp, tPairs, tDGet2, sDPut, rIsiU, rIsiTU, rLenU, rIxU, rInU, rNilU, rEqU, rNeU, rEq, rNe, rMax2U, rMin2U, rInt1U, rAbsU, scal, rAddU, rMulU, rI0, rI, rU, rListU, rTupU, rSumU, rAllU, rAnyU, rDictU, rSlU, tSl, tPart, tNoPart, rAppend, rExtend, rPop, rPopAt, rJoinU, rRepr, tSumVals, tyN_non, tyN_bl, tyN_int, tyN_str, tyN_ref, tyO_lst, tyO_tup, tyO_dK, tyO_flst, tyO_ftup, tyO_fdK, and_assoc, tyList, isT, tyAsk, lk_none, lk_frz, lk_lst, lk_tup, lk_dK, lk_ins, kV_str, kV_int, kV_kV, L2.start, E0, tForZ, zList, zTup, zStr, zRng1, zRng2, zEnumS, zEnumL, zKeys, zVals, zItems, tAugS, rGetL, rSetL, ipI, tyN_new, upd_same, tLcV, tDcZ, tYes, wipe, tLcZ, tScZ, cxOf, RVal, RTup, gTupU, gCons, gNil, tProp, tDGetU, sDPutU, rLenO, rDEqU, tBML, tBML0, tConU, tDNewK, rIsiO, sp__law_block]
          refine ⟨sz1, fun p hp => ⟨p, b, rfl, rfl, i, by omega, _, (Sub.new hp).get f6, [1 + j], by rw [upd_same]; simp, hb, hb2, by simp; omega, by simp, by omega, fun p1 H8 hp1 hs8 hp8 => ?_⟩⟩
          rw [hPw]
          refine ⟨p1, _, rfl, (s6.trans (Sub.new hp)).trans hs8, ((Sub.new hp).trans hs8).get l6, ?_⟩
          rw [hp8]
          congr 2
          apply rgN_ext
          intro d hd
          have er : rw' b (1 + j) = [1 + j] := by rw [rw_pos hb (by omega), Nat.div_eq_of_lt hj, Nat.mod_eq_of_lt hj, rw_zero]; rfl
          have := tl_block (n := i) hb hd (p := 1 + j) (by omega) er
          rw [this, Nat.add_assoc]
        · intro σ H6 hP
          rw [hPw] at hP
          obtain ⟨f, x6, rfl, s6, l6, f6⟩ := hP
          rw [intsZ_len] at f6
          have e1 : (1 + ((b : Int) - 1).toNat) * b ^ i = b ^ (i + 1) := by
            rw [show 1 + ((b : Int) - 1).toNat = b by omega, Nat.pow_succ, Nat.mul_comm]
          rw [e1] at f6
          show Pv (i + 1) _ _
          rw [hPv]
          exact ⟨f, _, _, rfl, s6, l6, f6⟩
      · intro σ H4 hP
        rw [hPv] at hP
        obtain ⟨f, x5, x6, rfl, s4, l4, f4⟩ := hP
        rw [intsZ_len] at f4
        have e1 : ((L : Int) - 1).toNat = L - 1 := by omega
        rw [e1] at f4
        exact ⟨f, ⟨_, _, rfl⟩, s4, l4, f4⟩
    rintro σ H4 ⟨f, x5, x6, rfl, s4, l4, f4⟩
    show tCutG _ _ _ _ _
    refine ⟨fun σ H5 => ∃ (f : Addr) (x7 x8 : Option V), σ = [some (V.int (b : Nat)), some (V.int (n : Nat)), some (V.ref e), x, some (V.ref f), x5, x6, x7, x8] ∧ Sub H H5 ∧ H5 e = some (.lst dl) ∧ H5 f = some (.lst (rgN b (tl b (if n = 0 then 1 else n)))), ?_, ?_⟩
    · obtain ⟨cur, hcur⟩ : ∃ cur : Nat → Nat, cur = fun i => if i = 0 then b ^ (L - 1) else (n / b ^ (L - i)) * b ^ (L - i) := ⟨_, rfl⟩
      obtain ⟨Pv, hPv⟩ : ∃ Pv : Nat → L2.St → Hp → Prop, Pv = fun i σ H4 => ∃ (f : Addr) (x7 x8 : Option V), σ = [some (V.int (b : Nat)), some (V.int (n : Nat)), some (V.ref e), x, some (V.ref f), x5, x6, x7, x8] ∧ Sub H H4 ∧ H4 e = some (.lst dl) ∧ H4 f = some (.lst (rgN b (tl b (cur i)))) := ⟨_, rfl⟩
      simp [tRet, tRetN, tDrop, tAsg, gName, tSeq, tNext, tIfS, tAndV, tOrV, tNotV, tAnd, tOr, tNot, tB, tTest, tVar, tC, tOp, tUn, tCons, tNil, tTup, tLst, tCB, tBM, tBM0, tM1, tM0, tCall, tMeth, tMake, tFldU, sFldU, tChain, tIf, tPar, tPar3, tAug, tDisp, tPairs, tDGet2, sDPut, rIsiU, rIsiTU, rLenU, rIxU, rInU, rNilU, rEqU, rNeU, rEq, rNe, rMax2U, rMin2U, rInt1U, rAbsU, scal, rAddU, rMulU, rI0, rI, rU, rListU, rTupU, rSumU, rAllU, rAnyU, rDictU, rSlU, tSl, tPart, tNoPart, rAppend, rExtend, rPop, rPopAt, rJoinU, rRepr, tSumVals, tyN_non, tyN_bl, tyN_int, tyN_str, tyN_ref, tyO_lst, tyO_tup, tyO_dK, tyO_flst, tyO_ftup, tyO_fdK, and_assoc, tyList, isT, tyAsk, lk_none, lk_frz, lk_lst, lk_tup, lk_dK, lk_ins, kV_str, kV_int, kV_kV, L2.start, E0, tForZ, zList, zTup, zStr, zRng1, zRng2, zEnumS, zEnumL, zKeys, zVals, zItems, tAugS, rGetL, rSetL, ipI, tyN_new, upd_same, tLcV, tDcZ, tYes, wipe, tLcZ, tScZ, cxOf, RVal, RTup, gTupU, gCons, gNil, tProp, tDGetU, sDPutU, rLenO, rDEqU, tBML, tBML0, tConU, tDNewK, rIsiO, l4, hdll]
      refine Or.inl ⟨by omega, ?_⟩
      refine loop_ix Pv (by rw [hPv]; exact ⟨f, _, _, rfl, s4, l4, by rw [hcur]; simpa using f4⟩) (fun _ _ _ _ => trivial) ?_ ?_
      · intro i z σ H5 v H6 hz hP hr
        rw [hPv] at hP
        obtain ⟨f, x7, x8, rfl, s5, l5, f5⟩ := hP
        obtain ⟨rfl, rfl⟩ := hr
        obtain ⟨rfl, hi⟩ := intsZ_get hz
        have hi : i < L := by omega
        obtain ⟨Di, hDi⟩ : ∃ Di, (rw' b n)[i]? = some Di := ⟨(rw' b n)[i], by simp [← hLe, hi]⟩
        have hdi : atI dl (i : Int) = some (V.int (Di : Nat)) := atI_at (by rw [hdl, List.getElem?_map, hDi]; rfl)
        have hdi0 : (0 : Int) + (i : Nat) = (i : Nat) := by omega
        rw [hdi0]
        generalize hB : tAsg (tCall (sp__law_block K) [] E0 _) _ = TB
        have hn1 : 1 ≤ n := by
          rcases Nat.eq_zero_or_pos n with q | q
          · subst q
            rw [rw_zero] at hLe
            simp at hLe
            omega
          · exact q
        obtain ⟨m, em, g1, g2⟩ := rw_bounds hb n hn1
        have hLm : L = m + 1 := by omega
        obtain ⟨pre, hpre⟩ : ∃ pre, pre = n / b ^ (L - i) := ⟨_, rfl⟩
        obtain ⟨q0, hq0⟩ : ∃ q0, q0 = n / b ^ (L - 1 - i) := ⟨_, rfl⟩
        have hLi : L - i = (L - 1 - i) + 1 := by omega
        have hq1 : 1 ≤ q0 := by
          rw [hq0]
          exact Nat.div_pos (Nat.le_trans (Nat.pow_le_pow_right (by omega) (by omega)) g1) (Nat.pow_pos (by omega))
        have hqd : q0 / b = pre := by rw [hq0, hpre, Nat.div_div_eq_div_mul, hLi, Nat.pow_succ]
        have ht1 := rw_take hb n (L - i) (by omega)
        have ht2 := rw_take hb n (L - 1 - i) (by omega)
        rw [← hLe, ← hpre, show L - (L - i) = i by omega] at ht1
        rw [← hLe, ← hq0, show L - (L - 1 - i) = i + 1 by omega, take_at hDi, rw_pos hb (by omega), hqd, ht1] at ht2
        have hDq : q0 % b = Di := by simpa using ht2
        have hqe : pre * b + Di = q0 := by
          have := Nat.div_add_mod q0 b
          rw [hqd, hDq, Nat.mul_comm] at this
          exact this
        have hDb : Di < b := by rw [← hDq]; exact Nat.mod_lt _ (by omega)
        have hp0 : i = 0 → pre = 0 := fun e => by
          rw [hpre, e, Nat.sub_zero, hLm]
          exact Nat.div_eq_of_lt g2
        have hp1 : 0 < i → 1 ≤ pre := fun e => by
          rw [hpre]
          exact Nat.div_pos (Nat.le_trans (Nat.pow_le_pow_right (by omega) (by omega)) g1) (Nat.pow_pos (by omega))
        have body : ∀ (lo : Nat) (D : Ends), D.nx = Pv (i + 1) → (i = 0 → lo = 1) → (0 < i → lo = 0) → LoopZ (intsZ (lo : Int) (Di : Int)) (fun _ => True) (RVal V.int) (gName 8) TB D [some (V.int (b : Nat)), some (V.int (n : Nat)), some (V.ref e), x, some (V.ref f), x5, x6, some (V.int (i : Nat)), x8] H6 := by
          intro lo D hD h1 h2
          have hlod : lo ≤ Di := by
            rcases Nat.eq_zero_or_pos i with q | q
            · have := hp0 q
              rw [this] at hqe
              have := h1 q
              omega
            · rw [h2 q]
              omega
          obtain ⟨Pw, hPw⟩ : ∃ Pw : Nat → L2.St → Hp → Prop, Pw = fun j σ H4 => ∃ (f : Addr) (x8 : Option V), σ = [some (V.int (b : Nat)), some (V.int (n : Nat)), some (V.ref e), x, some (V.ref f), x5, x6, some (V.int (i : Nat)), x8] ∧ Sub H H4 ∧ H4 e = some (.lst dl) ∧ H4 f = some (.lst (rgN b (tl b ((pre * b + (lo + j)) * b ^ (L - 1 - i))))) := ⟨_, rfl⟩
          have hst : cur i = (pre * b + (lo + 0)) * b ^ (L - 1 - i) := by
            rw [hcur]
            rcases Nat.eq_zero_or_pos i with q | q
            · rw [hp0 q, h1 q, q]
              simp
            · have : i ≠ 0 := by omega
              rw [h2 q]
              simp only [this, if_false]
              rw [← hpre, hLi, Nat.pow_succ]
              simp only [Nat.add_zero]
              rw [Nat.mul_comm (b ^ (L - 1 - i)) b, Nat.mul_assoc]
          refine loop_ix Pw (by rw [hPw]; exact ⟨f, _, rfl, s5, l5, by rw [f5, hst]⟩) (fun _ _ _ _ => trivial) ?_ ?_
          · intro j z σ H7 v H8 hz hP hr
            rw [hPw] at hP
            obtain ⟨f, x8, rfl, s7, l7, f7⟩ := hP
            obtain ⟨rfl, rfl⟩ := hr
            obtain ⟨rfl, hj⟩ := intsZ_get hz
            have hj : lo + j < Di := by omega
            have hpp : 1 ≤ pre * b + (lo + j) := by
              rcases Nat.eq_zero_or_pos i with q | q
              · have := h1 q
                omega
              · have : 1 * 1 ≤ pre * b := Nat.mul_le_mul (hp1 q) (by omega)
                omega
            have er : rw' b (pre * b + (lo + j)) = (rw' b n).take i ++ [lo + j] := by rw [rw_snoc hb (by omega) (by omega), ht1]
            have ec : cutV dl none (some ((i : Nat) : Int)) = dl.take i := cut_to
            rw [← hB]
            simp [tRet, tRetN, tDrop, tAsg, gName, tSeq, tNext, tIfS, tAndV, tOrV, tNotV, tAnd, tOr, tNot, tB, tTest, tVar, tC, tOp, tUn, tCons, tNil, tTup, tLst, tCB, tBM, tBM0, tM1, tM0, tCall, tMeth, tMake, tFldU, sFldU, tChain, tIf, tPar, tPar3, tAug, tDisp, tPairs, tDGet2, sDPut, rIsiU, rIsiTU, rLenU, rIxU, rInU, rNilU, rEqU, rNeU, rEq, rNe, rMax2U, rMin2U, rInt1U, rAbsU, scal, rAddU, rMulU, rI0, rI, rU, rListU, rTupU, rSumU, rAllU, rAnyU, rDictU, rSlU, tSl, tPart, tNoPart, rAppend, rExtend, rPop, rPopAt, rJoinU, rRepr, tSumVals, tyN_non, tyN_bl, tyN_int, tyN_str, tyN_ref, tyO_lst, tyO_tup, tyO_dK, tyO_flst, tyO_ftup, tyO_fdK, and_assoc, tyList, isT, tyAsk, lk_none, lk_frz, lk_lst, lk_tup, lk_dK, lk_ins, kV_str, kV_int, kV_kV, L2.start, E0, tForZ, zList, zTup, zStr, zRng1, zRng2, zEnumS, zEnumL, zKeys, zVals, zItems, tAugS, rGetL, rSetL, ipI, tyN_new, upd_same, tLcV, tDcZ, tYes, wipe, tLcZ, tScZ, cxOf, RVal, RTup, gTupU, gCons, gNil, tProp, tDGetU, sDPutU, rLenO, rDEqU, tBML, tBML0, tConU, tDNewK, rIsiO, sp__law_block, l7, f7, hdll, ec]
            refine fun p hp => ⟨sz1, fun p1 hp1 => ⟨_, (Sub.new hp1).get upd_same, by rw [List.length_take]; omega, fun p2 hp2 => ?_⟩⟩
            have s8 := ((Sub.new (o := .lst (dl.take i)) hp).trans (Sub.new (o := .lst [V.int ((lo : Int) + (j : Int))]) hp1)).trans (Sub.new (o := .lst (dl.take i ++ [V.int ((lo : Int) + (j : Int))])) hp2)
            refine Or.inl ⟨dl, by rw [s8.get l7]; rfl, p2, b, rfl, rfl, L - 1 - i, by rw [hdll]; omega, _, s8.get f7, (rw' b n).take i ++ [lo + j], ?_, hb, hb2, ?_, ?_, by omega, fun p3 H9 hp3 hs9 hp9 => ?_⟩
            · rw [upd_same, hdl, List.map_append, List.map_take]
              rfl
            · intro y hy
              rcases List.mem_append.mp hy with hy | hy
              · exact rw_lt hb y (List.mem_of_mem_take hy)
              · rw [List.mem_singleton.mp hy]
                omega
            · rw [List.length_append, List.length_take, List.length_singleton]
              omega
            · rw [hPw]
              refine ⟨p3, _, rfl, (s7.trans s8).trans hs9, (s8.trans hs9).get l7, ?_⟩
              rw [hp9]
              congr 2
              apply rgN_ext
              intro d' hd'
              have := tl_block (n := L - 1 - i) hb hd' hpp er
              rw [this]
              congr 2
          · intro σ H7 hP
            rw [hPw] at hP
            obtain ⟨f, x8, rfl, s7, l7, f7⟩ := hP
            rw [intsZ_len, show lo + ((Di : Int) - (lo : Int)).toNat = Di by omega, hqe] at f7
            rw [hD, hPv]
            refine ⟨f, _, _, rfl, s7, l7, ?_⟩
            rw [f7, hcur]
            have : i + 1 ≠ 0 := by omega
            simp only [this, if_false]
            rw [show L - (i + 1) = L - 1 - i by omega, ← hq0]
        by_cases hi0 : i = 0
        · subst hi0
          simp [tRet, tRetN, tDrop, tAsg, gName, tSeq, tNext, tIfS, tAndV, tOrV, tNotV, tAnd, tOr, tNot, tB, tTest, tVar, tC, tOp, tUn, tCons, tNil, tTup, tLst, tCB, tBM, tBM0, tM1, tM0, tCall, tMeth, tMake, tFldU, sFldU, tChain, tIf, tPar, tPar3, tAug, tDisp, tPairs, tDGet2, sDPut, rIsiU, rIsiTU, rLenU, rIxU, rInU, rNilU, rEqU, rNeU, rEq, rNe, rMax2U, rMin2U, rInt1U, rAbsU, scal, rAddU, rMulU, rI0, rI, rU, rListU, rTupU, rSumU, rAllU, rAnyU, rDictU, rSlU, tSl, tPart, tNoPart, rAppend, rExtend, rPop, rPopAt, rJoinU, rRepr, tSumVals, tyN_non, tyN_bl, tyN_int, tyN_str, tyN_ref, tyO_lst, tyO_tup, tyO_dK, tyO_flst, tyO_ftup, tyO_fdK, and_assoc, tyList, isT, tyAsk, lk_none, lk_frz, lk_lst, lk_tup, lk_dK, lk_ins, kV_str, kV_int, kV_kV, L2.start, E0, tForZ, zList, zTup, zStr, zRng1, zRng2, zEnumS, zEnumL, zKeys, zVals, zItems, tAugS, rGetL, rSetL, ipI, tyN_new, upd_same, tLcV, tDcZ, tYes, wipe, tLcZ, tScZ, cxOf, RVal, RTup, gTupU, gCons, gNil, tProp, tDGetU, sDPutU, rLenO, rDEqU, tBML, tBML0, tConU, tDNewK, rIsiO, l5]
          exact ⟨_, hdi, _, rfl, by omega, by omega, body 1 _ rfl (fun _ => rfl) (fun q => absurd q (by omega))⟩
        · simp [tRet, tRetN, tDrop, tAsg, gName, tSeq, tNext, tIfS, tAndV, tOrV, tNotV, tAnd, tOr, tNot, tB, tTest, tVar, tC, tOp, tUn, tCons, tNil, tTup, tLst, tCB, tBM, tBM0, tM1, tM0, tCall, tMeth, tMake, tFldU, sFldU, tChain, tIf, tPar, tPar3, tAug, tDisp, tPairs, tDGet2, sDPut, rIsiU, rIsiTU, rLenU, rIxU, rInU, rNilU, rEqU, rNeU, rEq, rNe, rMax2U, rMin2U, rInt1U, rAbsU, scal, rAddU, rMulU, rI0, rI, rU, rListU, rTupU, rSumU, rAllU, rAnyU, rDictU, rSlU, tSl, tPart, tNoPart, rAppend, rExtend, rPop, rPopAt, rJoinU, rRepr, tSumVals, tyN_non, tyN_bl, tyN_int, tyN_str, tyN_ref, tyO_lst, tyO_tup, tyO_dK, tyO_flst, tyO_ftup, tyO_fdK, and_assoc, tyList, isT, tyAsk, lk_none, lk_frz, lk_lst, lk_tup, lk_dK, lk_ins, kV_str, kV_int, kV_kV, L2.start, E0, tForZ, zList, zTup, zStr, zRng1, zRng2, zEnumS, zEnumL, zKeys, zVals, zItems, tAugS, rGetL, rSetL, ipI, tyN_new, upd_same, tLcV, tDcZ, tYes, wipe, tLcZ, tScZ, cxOf, RVal, RTup, gTupU, gCons, gNil, tProp, tDGetU, sDPutU, rLenO, rDEqU, tBML, tBML0, tConU, tDNewK, rIsiO, l5, hi0, hdi]
          exact ⟨by omega, body 0 _ rfl (fun q => absurd q hi0) (fun _ => rfl)⟩
      · intro σ H4 hP
        rw [hPv] at hP
        obtain ⟨f, x7, x8, rfl, s4, l4, f4⟩ := hP
        rw [intsZ_len] at f4
        have e1 : ((L : Int) - 0).toNat = L := by omega
        rw [e1, hcur] at f4
        refine ⟨f, ⟨_, _, rfl⟩, s4, l4, ?_⟩
        rw [f4]
        by_cases hL0 : L = 0
        · have : n = 0 := by
            rcases Nat.eq_zero_or_pos n with q | q
            · exact q
            · have := rw_pos hb q
              have := congrArg List.length this
              rw [← hLe, hL0] at this
              simp at this
          simp [hL0, this]
        · have : n ≠ 0 := by
            rintro rfl
            rw [rw_zero] at hLe
            exact hL0 hLe
          simp [hL0, this]
    rintro σ H5 ⟨f, x7, x8, rfl, s5, l5, f5⟩
    simp [tRet, tRetN, tDrop, tAsg, gName, tSeq, tNext, tIfS, tAndV, tOrV, tNotV, tAnd, tOr, tNot, tB, tTest, tVar, tC, tOp, tUn, tCons, tNil, tTup, tLst, tCB, tBM, tBM0, tM1, tM0, tCall, tMeth, tMake, tFldU, sFldU, tChain, tIf, tPar, tPar3, tAug, tDisp, tPairs, tDGet2, sDPut, rIsiU, rIsiTU, rLenU, rIxU, rInU, rNilU, rEqU, rNeU, rEq, rNe, rMax2U, rMin2U, rInt1U, rAbsU, scal, rAddU, rMulU, rI0, rI, rU, rListU, rTupU, rSumU, rAllU, rAnyU, rDictU, rSlU, tSl, tPart, tNoPart, rAppend, rExtend, rPop, rPopAt, rJoinU, rRepr, tSumVals, tyN_non, tyN_bl, tyN_int, tyN_str, tyN_ref, tyO_lst, tyO_tup, tyO_dK, tyO_flst, tyO_ftup, tyO_fdK, and_assoc, tyList, isT, tyAsk, lk_none, lk_frz, lk_lst, lk_tup, lk_dK, lk_ins, kV_str, kV_int, kV_kV, L2.start, E0, tForZ, zList, zTup, zStr, zRng1, zRng2, zEnumS, zEnumL, zKeys, zVals, zItems, tAugS, rGetL, rSetL, ipI, tyN_new, upd_same, tLcV, tDcZ, tYes, wipe, tLcZ, tScZ, cxOf, RVal, RTup, gTupU, gCons, gNil, tProp, tDGetU, sDPutU, rLenO, rDEqU, tBML, tBML0, tConU, tDNewK, rIsiO, sp__law_block]
    refine ite_all (fun hpos => ?_) fun hz => ?_
    · rw [if_neg (by omega)] at f5
      refine ⟨_, b, rfl, rfl, 0, rfl, _, f5, rw' b n, by rw [l5, hdl], hb, hb2, rw_lt hb, by omega, by omega, fun p H' hp hs' hp' => q p H' (s5.trans hs') ?_⟩
      rw [hp']
      congr 2
      apply rgN_ext
      intro d hd
      show tl b n d + (b ^ 0 * (rw' b n).count d + 0) = tallyD b d 1 n
      obtain ⟨k, rfl⟩ : ∃ k, n = k + 1 := ⟨n - 1, by omega⟩
      unfold tl
      rw [tally_succ, Nat.add_sub_cancel, Nat.add_comm 1 k]
      simp
    · obtain rfl : n = 0 := by omega
      refine q f H5 s5 ?_
      rw [f5]
      rfl
end
end K74

set_option Elab.async false
set_option linter.all false
set_option maxRecDepth 100000
set_option maxHeartbeats 4000000
namespace K74
open PySem PySem.Spec PyProof.Rows L2 G
section
variable {P : Program} {w : World} {K : PySem.W.Frag} {mg : Str → Option Value} {base : Heap}
theorem zipIdx_get {xs : List V} {j : Nat} {z : V × Nat} (h : xs.zipIdx[j]? = some z) : z.2 = j ∧ xs[j]? = some z.1 := by
  rw [List.getElem?_zipIdx] at h
  obtain ⟨v, hv, rfl⟩ := Option.map_eq_some_iff.mp h
  exact ⟨by simp, hv⟩
theorem rgN_get {b j : Nat} {T : Nat → Nat} {v : V} (h : (rgN b T)[j]? = some v) : j < b ∧ v = V.int (T j : Nat) := by
  unfold rgN at h
  rw [List.getElem?_map] at h
  obtain ⟨i, hi, rfl⟩ := Option.map_eq_some_iff.mp h
  obtain ⟨h1, h2⟩ := List.getElem?_eq_some_iff.mp hi
  rw [List.length_range] at h1
  rw [List.getElem_range] at h2
  subst h2
  exact ⟨h1, rfl⟩
/-- a row laid from sh on, the first j of its numbers -/
def laid (W : Nat → Nat) (sh j s : Nat) : Nat := if sh ≤ s ∧ s < sh + j then W (s - sh) else 0
theorem laid_succ (W : Nat → Nat) (sh j s : Nat) : laid W sh (j + 1) s = laid W sh j s + if s = sh + j then W j else 0 := by
  unfold laid
  by_cases h : s = sh + j
  · subst h
    rw [if_pos (by omega), if_neg (by omega), if_pos rfl]
    simp
  · rw [if_neg h]
    by_cases h2 : sh ≤ s ∧ s < sh + j
    · rw [if_pos (by omega), if_pos h2]
      rfl
    · rw [if_neg (by omega), if_neg h2]
theorem laid_zero (W : Nat → Nat) (sh s : Nat) : laid W sh 0 s = 0 := if_neg (by omega)
theorem rgN_ix {b j : Nat} {T : Nat → Nat} (h : j < b) : (rgN b T)[j]? = some (V.int (T j : Nat)) := by
  unfold rgN
  simp [h]
theorem setN {b j : Nat} {T : Nat → Nat} {x y : Nat} : (rgN b T).set j (V.int ((x : Int) + (y : Int))) = rgN b fun d => if d = j then x + y else T d := by
  have e : V.int ((x : Int) + (y : Int)) = V.int ((x + y : Nat) : Int) := by push_cast; rfl
  rw [e, rgN_set]
def sp_add_row (K : PySem.W.Frag) : Sp := fun vs H Q _ => ∃ (D r t : Addr) (sh h m L n : Nat) (F W : Nat → Nat), vs = [.ref D, .ref r, .int sh, .ref t] ∧ D ≠ r ∧ H D = some (.lst (rgN L F)) ∧ H r = some (.lst (rgN n W)) ∧ H t = some (.tup [.int h, .int m]) ∧
  sh + n < L ∧ h ≤ 10 ∧ m ≤ 10 ∧ (∀ j, j < n → W j ≤ 10 ^ 110) ∧ ∀ H', SubX D H H' → H' D = some (.lst (rgN L fun s => F s + (m * laid W sh n s + h * laid W (sh + 1) n s))) → Q .non H'
theorem ok_add_row (T : Txt K mg) : FnOk P w K mg base CX0 1 (He.ga K "add_row") T.fd_add_row ["found", "row", "share", "ways"] (sp_add_row K) := by
  refine FunD.ok T.F_add_row sc_add_row (fun vs H Q E h => ?_) fun cdv A outer s H vs Q E hr h => ⟨_, PSs.nox (pss_cons (ps_asg (pv 3) (pg_tupU (n := 2) rfl (pgs_cons (pg_name (i := 4) sc_add_row.nd rfl (by first | exact Or.inl rfl | exact Or.inr rfl)) (pgs_cons (pg_name (i := 5) sc_add_row.nd rfl (by first | exact Or.inl rfl | exact Or.inr rfl)) pgs_nil))))
      (pss_one (ps_forZ PassesOwn.never rfl (z_enumL (by exact rfl) T.f_enumerate (pa_cons (pv 1) pa_nil)) (pg_tupU (n := 2) rfl (pgs_cons (pg_name (i := 6) sc_add_row.nd rfl (by first | exact Or.inl rfl | exact Or.inr rfl)) (pgs_cons (pg_name (i := 7) sc_add_row.nd rfl (by first | exact Or.inl rfl | exact Or.inr rfl)) pgs_nil))) (pss_cons (ps_augS (pv 0) (pe_op op_addU (pv 2) (pv 6)) pget_list (pe_op op_mulU (pv 5) (pv 7)) ip_add set_list)
      (pss_one (ps_augS (pv 0) (pe_op op_addU (pe_op op_addU (pv 2) (pv 6)) pe_int) pget_list (pe_op op_mulU (pv 4) (pv 7)) ip_add set_list)))))), ?_⟩
  · obtain ⟨D, r, t, sh, h, m, L, n, F, W, rfl, _⟩ := h
    rfl
  · obtain ⟨D, r, t, sh, h, m, L, n, F, W, rfl, hDr, hD, hr1, ht, hL, hh, hm, hW, q⟩ := h
    have hDt : D ≠ t := ne_of hD ht nofun
    simp [tRet, tRetN, tDrop, tAsg, gName, tSeq, tNext, tIfS, tAndV, tOrV, tNotV, tAnd, tOr, tNot, tB, tTest, tVar, tC, tOp, tUn, tCons, tNil, tTup, tLst, tCB, tBM, tBM0, tM1, tM0, tCall, tMeth, tMake, tFldU, sFldU, tChain, tIf, tPar, tPar3, tAug, tDisp, tPairs, tDGet2, sDPut, rIsiU, rIsiTU, rLenU, rIxU, rInU, rNilU, rEqU, rNeU, rEq, rNe, rMax2U, rMin2U, rInt1U, rAbsU, scal, rAddU, rMulU, rI0, rI, rU, rListU, rTupU, rSumU, rAllU, rAnyU, rDictU, rSlU, tSl, tPart, tNoPart, rAppend, rExtend, rPop, rPopAt, rJoinU, rRepr, tSumVals, tyN_non, tyN_bl, tyN_int, tyN_str, tyN_ref, tyO_lst, tyO_tup, tyO_dK, tyO_flst, tyO_ftup, tyO_fdK, and_assoc, tyList, isT, tyAsk, lk_none, lk_frz, lk_lst, lk_tup, lk_dK, lk_ins, kV_str, kV_int, kV_kV, L2.start, E0, tForZ, zList, zTup, zStr, zRng1, zRng2, zEnumS, zEnumL, zKeys, zVals, zItems, tAugS, rGetL, rSetL, ipI, tyN_new, upd_same, tLcV, tDcZ, tYes, wipe, tLcZ, tScZ, cxOf, RVal, RTup, gTupU, gCons, gNil, tProp, tDGetU, sDPutU, rLenO, rDEqU, tBML, tBML0, tConU, tDNewK, rIsiO, ht]
    obtain ⟨Pv, hPv⟩ : ∃ Pv : Nat → L2.St → Hp → Prop, Pv = fun j σ H' => ∃ (x6 x7 : Option V), σ = [some (V.ref D), some (V.ref r), some (V.int sh), some (V.ref t), some (V.int h), some (V.int m), x6, x7] ∧ SubX D H H' ∧ H' D = some (.lst (rgN L fun s => F s + (m * laid W sh j s + h * laid W (sh + 1) j s))) := ⟨_, rfl⟩
    refine ⟨_, by rw [hr1]; rfl, ?_⟩
    have hk : ∀ H', SubX D H H' → H' r = some (.lst (rgN n W)) := fun H' s => by rw [s r (Ne.symm hDr) (by rw [hr1]; nofun), hr1]
    refine loop_ix Pv (by rw [hPv]; exact ⟨_, _, rfl, fun _ _ _ => rfl, by rw [hD]; congr 2; apply rgN_ext; intro d _; rw [laid_zero, laid_zero]; simp⟩) (fun j σ H' hP => by rw [hPv] at hP; obtain ⟨_, _, _, s, _⟩ := hP; rw [hk H' s]; rfl) ?_ ?_
    · intro j z σ H1 v H2 hz hP hr
      rw [hPv] at hP
      obtain ⟨x6, x7, rfl, s1, d1⟩ := hP
      obtain ⟨T, rfl, hT, s2, e2⟩ := rtup hr
      obtain ⟨z1, z2⟩ := zipIdx_get hz
      obtain ⟨hj, z3⟩ := rgN_get z2
      obtain ⟨zv, zj⟩ := z
      obtain rfl : zj = j := z1
      obtain rfl : zv = V.int (W zj : Nat) := z3
      have d2 := s2.get d1
      have hWj := hW zj hj
      have hTD : T ≠ D := fun e => by rw [e, d1] at hT; cases hT
      have e1 : (sh : Int) + (zj : Nat) = ((sh + zj : Nat) : Int) := by omega
      have e3 : (sh : Int) + (zj : Nat) + 1 = ((sh + zj + 1 : Nat) : Int) := by omega
      simp [tRet, tRetN, tDrop, tAsg, gName, tSeq, tNext, tIfS, tAndV, tOrV, tNotV, tAnd, tOr, tNot, tB, tTest, tVar, tC, tOp, tUn, tCons, tNil, tTup, tLst, tCB, tBM, tBM0, tM1, tM0, tCall, tMeth, tMake, tFldU, sFldU, tChain, tIf, tPar, tPar3, tAug, tDisp, tPairs, tDGet2, sDPut, rIsiU, rIsiTU, rLenU, rIxU, rInU, rNilU, rEqU, rNeU, rEq, rNe, rMax2U, rMin2U, rInt1U, rAbsU, scal, rAddU, rMulU, rI0, rI, rU, rListU, rTupU, rSumU, rAllU, rAnyU, rDictU, rSlU, tSl, tPart, tNoPart, rAppend, rExtend, rPop, rPopAt, rJoinU, rRepr, tSumVals, tyN_non, tyN_bl, tyN_int, tyN_str, tyN_ref, tyO_lst, tyO_tup, tyO_dK, tyO_flst, tyO_ftup, tyO_fdK, and_assoc, tyList, isT, tyAsk, lk_none, lk_frz, lk_lst, lk_tup, lk_dK, lk_ins, kV_str, kV_int, kV_kV, L2.start, E0, tForZ, zList, zTup, zStr, zRng1, zRng2, zEnumS, zEnumL, zKeys, zVals, zItems, tAugS, rGetL, rSetL, ipI, tyN_new, upd_same, tLcV, tDcZ, tYes, wipe, tLcZ, tScZ, cxOf, RVal, RTup, gTupU, gCons, gNil, tProp, tDGetU, sDPutU, rLenO, rDEqU, tBML, tBML0, tConU, tDNewK, rIsiO, gSub, e2]
      obtain ⟨G1, hG1⟩ : ∃ G1 : Nat → Nat, G1 = fun s => F s + (m * laid W sh zj s + h * laid W (sh + 1) zj s) := ⟨_, rfl⟩
      rw [← hG1] at d2
      have t1 : ((sh : Int) + (zj : Nat)).toNat = sh + zj := by omega
      have t2 : ((sh : Int) + (zj : Nat) + 1).toNat = sh + zj + 1 := by omega
      have p1 : (m : Int) * ((W zj : Nat) : Int) = ((m * W zj : Nat) : Int) := by push_cast; rfl
      have p2 : (h : Int) * ((W zj : Nat) : Int) = ((h * W zj : Nat) : Int) := by push_cast; rfl
      rw [t1, t2, e3, e1, p1, p2]
      refine ⟨_, by rw [d2]; rfl, by omega, _, rgN_ix (by omega), cmul (few (by omega) (by omega)) (few (by omega) (by omega)), _, rfl, _, d2, _, by rw [rgN_len]; exact ixN_at (by omega), by omega, ?_⟩
      rw [setN]
      refine ⟨_, rgN_ix (by omega), cmul (few (by omega) (by omega)) (few (by omega) (by omega)), _, rfl, _, by rw [rgN_len]; exact ixN_at (by omega), ?_⟩
      rw [setN, hPv]
      refine ⟨_, _, rfl, fun a ha hn => ?_, ?_⟩
      · have h1 := s1 a ha hn
        rw [upd_ne ha, upd_ne ha, s2 a (by rw [h1]; exact hn), h1]
      · rw [upd_same]
        congr 2
        apply rgN_ext
        intro d _
        rw [laid_succ, laid_succ, hG1]
        have n1 : ¬ sh + zj + 1 = sh + zj := by omega
        by_cases c1 : d = sh + zj + 1
        · subst c1
          have n2 : sh + zj + 1 = sh + 1 + zj := by omega
          simp only [n1, n2.symm, if_true, if_false, Nat.mul_add]
          simp
          omega
        · have n3 : ¬ d = sh + 1 + zj := by omega
          by_cases c2 : d = sh + zj
          · subst c2
            simp only [c1, n3, if_true, if_false, Nat.mul_add]
            simp
            omega
          · simp only [c1, c2, n3, if_true, if_false, Nat.mul_add]
            simp
    · intro σ H1 hP
      rw [hPv] at hP
      obtain ⟨x6, x7, rfl, s1, d1⟩ := hP
      rw [List.length_zipIdx, rgN_len] at d1
      exact q H1 s1 d1
end
end K74

set_option Elab.async false
set_option linter.all false
set_option maxRecDepth 100000
set_option maxHeartbeats 4000000
namespace K74
open PySem PySem.Spec PyProof.Rows L2 G
section
variable {P : Program} {w : World} {K : PySem.W.Frag} {mg : Str → Option Value} {base : Heap}
theorem upd_none {H : Hp} {a b : Addr} {o : HO} (h : upd H a o b = none) : b ≠ a ∧ H b = none := by
  have n : b ≠ a := fun e => by rw [e, upd_same] at h; cases h
  rw [upd_ne n] at h
  exact ⟨n, h⟩
/-- the fields of shares -/
def scF (b : Nat) (e F S : Addr) : List (Str × V) := [(("base" : Str), .int b), ("places", .ref e), ("free_rows", .ref F), ("shorter_rows", .ref S)]
theorem lk_base {b : Nat} {e F S : Addr} : (scF b e F S).lookup ("base" : Str) = some (.int b) := by rfl
theorem lk_places {b : Nat} {e F S : Addr} : (scF b e F S).lookup ("places" : Str) = some (.ref e) := by rfl
theorem lk_frows {b : Nat} {e F S : Addr} : (scF b e F S).lookup ("free_rows" : Str) = some (.ref F) := by rfl
theorem lk_srows {b : Nat} {e F S : Addr} : (scF b e F S).lookup ("shorter_rows" : Str) = some (.ref S) := by rfl
def sp_ShareCounts_ddinitdd (K : PySem.W.Frag) : Sp := fun vs H Q _ => ∃ (y dy : Addr) (b n : Nat), vs = [.ref y, .int b, .int n] ∧ H y = some (.ins (He.ga K "ShareCounts") dy []) ∧ 2 ≤ b ∧ b ≤ 10 ∧ n ≤ 10 ^ 31 ∧
  ∀ H' e F S, SubX y H H' → H' y = some (.ins (He.ga K "ShareCounts") dy (scF b e F S)) → H' e = some (.lst ((rw' b n).map fun d : Nat => V.int (d : Nat))) → H' F = some (.dK []) → H' S = some (.dT []) → H F = none → H S = none → H e = none → Q .non H'
theorem ok_ShareCounts_ddinitdd (T : Txt K mg) : FnOk P w K mg base CX0 2 (He.ma K (He.ga K "ShareCounts") "__init__") T.fd_ShareCounts_ddinitdd ["self", "base", "last"] (sp_ShareCounts_ddinitdd K) := by
  refine FunD.ok T.F_ShareCounts_ddinitdd sc_ShareCounts_ddinitdd (fun vs H Q E h => ?_) fun cdv A outer s H vs Q E hr h => ⟨_, PSs.nox (pss_cons (ps_fldU (C := He.ga K "ShareCounts") T.cls_ShareCounts T.na_ShareCounts_base (pv 0) (pv 1) rfl)
      (pss_cons (ps_fldU (C := He.ga K "ShareCounts") T.cls_ShareCounts T.na_ShareCounts_places (pv 0) (pe_call (ok_digits_of T) (hr.mono (by omega)) rfl T.g_digits_of T.F_digits_of.kp (b_digits_of T) .nil pass0 (pa_cons (pv 2) (pa_cons (pv 1) pa_nil))) rfl)
      (pss_cons (ps_fldU (C := He.ga K "ShareCounts") T.cls_ShareCounts T.na_ShareCounts_free_rows (pv 0) pe_dnewK rfl)
      (pss_one (ps_fldU (C := He.ga K "ShareCounts") T.cls_ShareCounts T.na_ShareCounts_shorter_rows (pv 0) pe_dnewT rfl))))), ?_⟩
  · obtain ⟨y, dy, b, n, rfl, _⟩ := h
    rfl
  · obtain ⟨y, dy, b, n, rfl, hy, hb, hb2, hn, q⟩ := h
    simp [tRet, tRetN, tDrop, tAsg, gName, tSeq, tNext, tIfS, tAndV, tOrV, tNotV, tAnd, tOr, tNot, tB, tTest, tVar, tC, tOp, tUn, tCons, tNil, tTup, tLst, tCB, tBM, tBM0, tM1, tM0, tCall, tMeth, tMake, tFldU, sFldU, tChain, tIf, tPar, tPar3, tAug, tDisp, tPairs, tDGet2, sDPut, rIsiU, rIsiTU, rLenU, rIxU, rInU, rNilU, rEqU, rNeU, rEq, rNe, rMax2U, rMin2U, rInt1U, rAbsU, scal, rAddU, rMulU, rI0, rI, rU, rListU, rTupU, rSumU, rAllU, rAnyU, rDictU, rSlU, tSl, tPart, tNoPart, rAppend, rExtend, rPop, rPopAt, rJoinU, rRepr, tSumVals, tyN_non, tyN_bl, tyN_int, tyN_str, tyN_ref, tyO_lst, tyO_tup, tyO_dK, tyO_flst, tyO_ftup, tyO_fdK, and_assoc, tyList, isT, tyAsk, lk_none, lk_frz, lk_lst, lk_tup, lk_dK, lk_ins, kV_str, kV_int, kV_kV, L2.start, E0, tForZ, zList, zTup, zStr, zRng1, zRng2, zEnumS, zEnumL, zKeys, zVals, zItems, tAugS, rGetL, rSetL, ipI, tyN_new, upd_same, tLcV, tDcZ, tYes, wipe, tLcZ, tScZ, cxOf, RVal, RTup, gTupU, gCons, gNil, tProp, tDGetU, sDPutU, rLenO, rDEqU, tBML, tBML0, tConU, tDNewK, rIsiO, hy, sp_digits_of, tDNewT]
    refine ⟨n, rfl, b, rfl, hb, by omega, by omega, fun p H1 hp hs1 hl1 => ?_⟩
    obtain ⟨npy, hp⟩ := upd_none hp
    have hy1 := hs1.get upd_same
    have f1 : putF (Str.ofString "base") (V.int (b : Nat)) [] = [(("base" : Str), V.int (b : Nat))] := by rfl
    rw [f1] at hy1
    refine ⟨_, _, hy1, by simp, fun p1 hp1 => ?_⟩
    obtain ⟨n1y, hp1⟩ := upd_none hp1
    have n1p : p1 ≠ p := fun e => by rw [e, hl1] at hp1; cases hp1
    have f2 : putF (Str.ofString "places") (V.ref p) [(("base" : Str), V.int (b : Nat))] = [(("base" : Str), V.int (b : Nat)), ("places", .ref p)] := by rfl
    rw [f2]
    refine ⟨_, _, by rw [upd_ne n1y.symm, upd_same], by simp, fun p2 hp2 => ?_⟩
    obtain ⟨n2y, hp2⟩ := upd_none hp2
    obtain ⟨n21, hp2⟩ := upd_none hp2
    obtain ⟨_, hp2⟩ := upd_none hp2
    have n2p : p2 ≠ p := fun e => by rw [e, hl1] at hp2; cases hp2
    have f3 : putF (Str.ofString "free_rows") (V.ref p1) [(("base" : Str), V.int (b : Nat)), ("places", .ref p)] = [(("base" : Str), V.int (b : Nat)), ("places", .ref p), ("free_rows", .ref p1)] := by rfl
    rw [f3]
    refine ⟨_, _, by rw [upd_ne n2y.symm, upd_same], by simp, ?_⟩
    have f4 : putF (Str.ofString "shorter_rows") (V.ref p2) [(("base" : Str), V.int (b : Nat)), ("places", .ref p), ("free_rows", .ref p1)] = scF b p p1 p2 := by rfl
    rw [f4]
    have back : ∀ a, H1 a = none → a ≠ y → H a = none := fun a ha hn => by
      cases e : H a with
      | none => rfl
      | some o =>
        have e2 : upd H y (.ins (He.ga K "ShareCounts") dy (putF (Str.ofString "base") (V.int (b : Nat)) [])) a = some o := by rw [upd_ne hn]; exact e
        have := hs1.get e2
        rw [ha] at this
        cases this
    refine q _ p p1 p2 (fun a ha hn => ?_) upd_same ?_ ?_ ?_ (back p1 hp1 n1y) (back p2 hp2 n2y) hp
    · have h1 : H1 a = H a := by rw [hs1 a (by rw [upd_ne ha]; exact hn), upd_ne ha]
      have m1 : a ≠ p1 := fun e => by rw [e, back p1 hp1 n1y] at hn; exact hn rfl
      have m2 : a ≠ p2 := fun e => by rw [e, back p2 hp2 n2y] at hn; exact hn rfl
      rw [upd_ne ha, upd_ne m2, upd_ne ha, upd_ne m1, upd_ne ha, h1]
    · rw [upd_ne npy, upd_ne n2p.symm, upd_ne npy, upd_ne n1p.symm, upd_ne npy, hl1]
    · rw [upd_ne n1y, upd_ne n21.symm, upd_ne n1y, upd_same]
    · rw [upd_ne n2y, upd_same]
theorem atI_last {α : Type} {xs : List α} {v : α} (h : xs[xs.length - 1]? = some v) : atI xs (-1) = some v := by
  have h1 := (List.getElem?_eq_some_iff.mp h).1
  unfold atI ixN
  rw [if_neg (by omega), if_pos (by omega)]
  have e : ((xs.length : Int) + (-1)).toNat = xs.length - 1 := by omega
  first
    | (rw [e]; exact h)
    | (have e' : (-1 + (xs.length : Int)).toNat = xs.length - 1 := by omega
       rw [e']; exact h)
/-- the rows that are made so far, none of them in X -/
def RowsL (X : Addr → Prop) (b i : Nat) (H : Hp) (r : Addr) (rs : List Addr) : Prop := ¬ X r ∧ H r = some (.lst (rs.map V.ref)) ∧ 1 ≤ rs.length ∧ rs.length ≤ 200 ∧ ∀ j a, rs[j]? = some a → ¬ X a ∧ a ≠ r ∧ H a = some (.lst (rgN (j + 1) (wy b i j)))
def RowsAt (X : Addr → Prop) (b i : Nat) (H : Hp) (F : Addr) : Option Addr → Prop
  | none => H F = some (.dK [])
  | some r => H F = some (.dK [(Sum.inl (i : Int), .ref r)]) ∧ ∃ rs, RowsL X b i H r rs
def sp_ShareCounts_free (K : PySem.W.Frag) : Sp := fun vs H Q _ => ∃ (y dy e F S : Addr) (b i n : Nat) (X : Addr → Prop) (R : Option Addr), vs = [.ref y, .int i, .int n] ∧ H y = some (.ins (He.ga K "ShareCounts") dy (scF b e F S)) ∧ RowsAt X b i H F R ∧
  (∀ z, X z → H z ≠ none) ∧ ¬ X F ∧ X y ∧ i ≤ b ∧ 2 ≤ b ∧ b ≤ 10 ∧ n ≤ 110 ∧ ∀ r a H', RowsAt X b i H' F (some r) → (∀ z, X z → H' z = H z) → H' a = some (.lst (rgN (n + 1) (wy b i n))) → ¬ X a → Q (.ref a) H'
theorem ok_ShareCounts_free (T : Txt K mg) : FnOk P w K mg base CX0 1 (He.ma K (He.ga K "ShareCounts") "free") T.fd_ShareCounts_free ["self", "inside", "places"] (sp_ShareCounts_free K) := by
  refine FunD.ok T.F_ShareCounts_free sc_ShareCounts_free (fun vs H Q E h => ?_) fun cdv A outer s H vs Q E hr h => ⟨_, PSs.nox (pss_cutG (ps_set (i := 3) sc_ShareCounts_free.nd rfl (by first | exact Or.inl rfl | exact Or.inr rfl) (pe_dsetd (pe_fldU (C := He.ga K "ShareCounts") T.cls_ShareCounts T.na_ShareCounts_free_rows (pv 0) rfl) (pv 1) (pe_lst (pa_cons (pe_lst (pa_cons pe_int pa_nil)) pa_nil)) ⟨rfl, rfl, rfl, rfl⟩))
      (pss_cons (ps_while PassesOwn.never (pt_cmpR op_le (pe_callB call_lenU rfl T.f_len boot_len (pa_cons (pv 3) pa_nil)) (pv 2) (nomark _)) (pss_cutG (ps_asg (pe_tup (pa_cons (pe_ix (ix_U (hu_of hr)) (pv 3) (pe_un un_neg pe_int) (fun _ _ => rfl)) (pa_cons (pe_op op_sub (pe_fldU (C := He.ga K "ShareCounts") T.cls_ShareCounts T.na_ShareCounts_base (pv 0) rfl) (pv 1)) pa_nil))) (pg_tupU (n := 2) rfl (pgs_cons (pg_name (i := 4) sc_ShareCounts_free.nd rfl (by first | exact Or.inl rfl | exact Or.inr rfl)) (pgs_cons (pg_name (i := 5) sc_ShareCounts_free.nd rfl (by first | exact Or.inl rfl | exact Or.inr rfl)) pgs_nil))))
      (pss_cutG (ps_set (i := 6) sc_ShareCounts_free.nd rfl (by first | exact Or.inl rfl | exact Or.inr rfl) (pe_op op_addU (pe_lcV rfl sc_ShareCounts_free.nd (z_list (pv 4)) (own := [("number", 8)]) (show BlkOk ["self", "inside", "places", "rows", "row", "outside", "more", "at", "number"] (defScope s_ShareCounts_free) _ [("number", 8)] from ⟨rfl, by decide +kernel, by decide +kernel, by decide +kernel, by decide +kernel⟩) (fun _ _ _ _ _ => (pg_name (i := 8) sc_ShareCounts_free.nd rfl (by first | exact Or.inl rfl | exact Or.inr rfl))) (fun _ _ _ _ _ => pts_nil) (fun _ _ _ _ _ => (pe_op op_mulU (pv 8) (pv 5)))) (pe_lst (pa_cons pe_int pa_nil))))
      (pss_cutG (ps_forZ PassesOwn.never rfl (z_enumL (by exact rfl) T.f_enumerate (pa_cons (pv 4) pa_nil)) (pg_tupU (n := 2) rfl (pgs_cons (pg_name (i := 7) sc_ShareCounts_free.nd rfl (by first | exact Or.inl rfl | exact Or.inr rfl)) (pgs_cons (pg_name (i := 8) sc_ShareCounts_free.nd rfl (by first | exact Or.inl rfl | exact Or.inr rfl)) pgs_nil))) (pss_one (ps_augS (pv 6) (pe_op op_addU (pv 7) pe_int) pget_list (pe_op op_mulU (pv 8) (pv 1)) ip_add set_list)))
      (pss_one (ps_expr (pe_bmL PySem.F.slot_list_append PySem.F.type_list_append mt_append (pv 3) (pa_cons (pv 6) pa_nil))))))))
      (pss_one (ps_ret (pe_ix (ix_U (hu_of hr)) (pv 3) (pv 2) (fun _ _ => rfl)))))), ?_⟩
  · obtain ⟨y, dy, e, F, S, b, i, n, X, R, rfl, _⟩ := h
    rfl
  · obtain ⟨y, dy, e, F, S, b, i, n, X, R, rfl, hy, hR, hX, hXF, hXy, hi, hb, hb2, hn, q⟩ := h
    show tCutG _ _ _ _ _
    refine ⟨fun σ H1 => ∃ r, σ = [some (V.ref y), some (V.int i), some (V.int n), some (V.ref r), none, none, none, none, none] ∧ RowsAt X b i H1 F (some r) ∧ (∀ z, X z → H1 z = H z), ?_, ?_⟩
    · simp [tRet, tRetN, tDrop, tAsg, gName, tSeq, tNext, tIfS, tAndV, tOrV, tNotV, tAnd, tOr, tNot, tB, tTest, tVar, tC, tOp, tUn, tCons, tNil, tTup, tLst, tCB, tBM, tBM0, tM1, tM0, tCall, tMeth, tMake, tFldU, sFldU, tChain, tIf, tPar, tPar3, tAug, tDisp, tPairs, tDGet2, sDPut, rIsiU, rIsiTU, rLenU, rIxU, rInU, rNilU, rEqU, rNeU, rEq, rNe, rMax2U, rMin2U, rInt1U, rAbsU, scal, rAddU, rMulU, rI0, rI, rU, rListU, rTupU, rSumU, rAllU, rAnyU, rDictU, rSlU, tSl, tPart, tNoPart, rAppend, rExtend, rPop, rPopAt, rJoinU, rRepr, tSumVals, tyN_non, tyN_bl, tyN_int, tyN_str, tyN_ref, tyO_lst, tyO_tup, tyO_dK, tyO_flst, tyO_ftup, tyO_fdK, and_assoc, tyList, isT, tyAsk, lk_none, lk_frz, lk_lst, lk_tup, lk_dK, lk_ins, kV_str, kV_int, kV_kV, L2.start, E0, tForZ, zList, zTup, zStr, zRng1, zRng2, zEnumS, zEnumL, zKeys, zVals, zItems, tAugS, rGetL, rSetL, ipI, tyN_new, upd_same, tLcV, tDcZ, tYes, wipe, tLcZ, tScZ, cxOf, RVal, RTup, gTupU, gCons, gNil, tProp, tDGetU, sDPutU, rLenO, rDEqU, tBML, tBML0, tConU, tDNewK, rIsiO, hy, lk_frows, tDSetd]
      have fin : ∀ p p1 : Addr, H p = none → H p1 = none → ∀ z, X z → z ≠ p ∧ z ≠ p1 := fun p p1 h1 h2 z hz => ⟨fun e => hX z hz (by rw [e]; exact h1), fun e => hX z hz (by rw [e]; exact h2)⟩
      have cF : ∃ kvs, H F = some (.dK kvs) := by
        cases R with
        | none => exact ⟨_, hR⟩
        | some r => exact ⟨_, hR.1⟩
      refine ⟨Or.inl (by obtain ⟨kvs, h⟩ := cF; exact ⟨kvs, Or.inl h⟩), sz1, fun p hp => ⟨sz1, fun p1 hp1 => ?_⟩⟩
      obtain ⟨n1p, hp1⟩ := upd_none hp1
      have nFp : F ≠ p := fun e => by obtain ⟨kvs, h⟩ := cF; rw [e, hp] at h; cases h
      have nFp1 : F ≠ p1 := fun e => by obtain ⟨kvs, h⟩ := cF; rw [e, hp1] at h; cases h
      have keep : ∀ z, z ≠ p → z ≠ p1 → upd (upd H p (.lst [V.int 1])) p1 (.lst [V.ref p]) z = H z := fun z h1 h2 => by rw [upd_ne h2, upd_ne h1]
      cases R with
      | none =>
        refine ⟨[], by rw [keep F nFp nFp1]; exact hR, by rw [sizeLine_eq]; simp, fun v hv => (by cases hv), fun _ => ⟨⟨upd_same, [p], ⟨fun hx => hX _ hx hp1, ?_, by simp, by simp, fun j a ha => ?_⟩⟩, fun z hz => ?_⟩⟩
        · rw [upd_ne nFp1.symm, upd_same]
          rfl
        · obtain ⟨rfl, rfl⟩ : j = 0 ∧ a = p := by
            cases j with
            | zero => exact ⟨rfl, by simpa using ha.symm⟩
            | succ j => simp at ha
          refine ⟨fun hx => hX _ hx hp, n1p.symm, ?_⟩
          rw [upd_ne nFp.symm, upd_ne n1p.symm, upd_same]
          rfl
        · obtain ⟨h1, h2⟩ := fin p p1 hp hp1 z hz
          rw [upd_ne (fun e => hXF (by rw [← e]; exact hz)), keep z h1 h2]
      | some r =>
        obtain ⟨hF, rs, h1, h2, h3, h4, h5⟩ := hR
        have old : ∀ z o, H z = some o → upd (upd H p (.lst [V.int 1])) p1 (.lst [V.ref p]) z = some o := fun z o h => by
          rw [keep z (fun e => by rw [e, hp] at h; cases h) (fun e => by rw [e, hp1] at h; cases h)]
          exact h
        have hv : valV [((Sum.inl (i : Int) : Key), V.ref r)] (Sum.inl (i : Int)) = some (V.ref r) := by simp [valV]
        refine ⟨_, old F _ hF, by rw [sizeLine_eq]; simp, fun v hv2 => ?_, fun hn => ?_⟩
        · rw [hv] at hv2
          cases hv2
          refine ⟨r, rfl, ⟨old F _ hF, rs, h1, old r _ h2, h3, h4, fun j a ha => ?_⟩, fun z hz => ?_⟩
          · obtain ⟨g1, g2, g3⟩ := h5 j a ha
            exact ⟨g1, g2, old a _ g3⟩
          · obtain ⟨g1, g2⟩ := fin p p1 hp hp1 z hz
            exact keep z g1 g2
        · rw [hv] at hn
          cases hn
    rintro σ H1 ⟨r, rfl, ⟨hF1, rs0, hrs0⟩, hk1⟩
    simp [tRet, tRetN, tDrop, tAsg, gName, tSeq, tNext, tIfS, tAndV, tOrV, tNotV, tAnd, tOr, tNot, tB, tTest, tVar, tC, tOp, tUn, tCons, tNil, tTup, tLst, tCB, tBM, tBM0, tM1, tM0, tCall, tMeth, tMake, tFldU, sFldU, tChain, tIf, tPar, tPar3, tAug, tDisp, tPairs, tDGet2, sDPut, rIsiU, rIsiTU, rLenU, rIxU, rInU, rNilU, rEqU, rNeU, rEq, rNe, rMax2U, rMin2U, rInt1U, rAbsU, scal, rAddU, rMulU, rI0, rI, rU, rListU, rTupU, rSumU, rAllU, rAnyU, rDictU, rSlU, tSl, tPart, tNoPart, rAppend, rExtend, rPop, rPopAt, rJoinU, rRepr, tSumVals, tyN_non, tyN_bl, tyN_int, tyN_str, tyN_ref, tyO_lst, tyO_tup, tyO_dK, tyO_flst, tyO_ftup, tyO_fdK, and_assoc, tyList, isT, tyAsk, lk_none, lk_frz, lk_lst, lk_tup, lk_dK, lk_ins, kV_str, kV_int, kV_kV, L2.start, E0, tForZ, zList, zTup, zStr, zRng1, zRng2, zEnumS, zEnumL, zKeys, zVals, zItems, tAugS, rGetL, rSetL, ipI, tyN_new, upd_same, tLcV, tDcZ, tYes, wipe, tLcZ, tScZ, cxOf, RVal, RTup, gTupU, gCons, gNil, tProp, tDGetU, sDPutU, rLenO, rDEqU, tBML, tBML0, tConU, tDNewK, rIsiO]
    refine ⟨fun m σ H' => ∃ (rs : List Addr) (x4 x5 x6 x7 x8 : Option V), m = 300 - rs.length ∧ σ = [some (V.ref y), some (V.int i), some (V.int n), some (V.ref r), x4, x5, x6, x7, x8] ∧ H' F = some (.dK [(Sum.inl (i : Int), .ref r)]) ∧ RowsL X b i H' r rs ∧ (∀ z, X z → H' z = H z), ⟨_, rs0, _, _, _, _, _, rfl, rfl, hF1, hrs0, hk1⟩, ?_⟩
    rintro m σ H2 ⟨rs, x4, x5, x6, x7, x8, rfl, rfl, hF2, ⟨hXr, hr2, hl1, hl2, hrows⟩, hk2⟩
    have hy2 : H2 y = some (.ins (He.ga K "ShareCounts") dy (scF b e F S)) := by rw [hk2 y hXy]; exact hy
    simp [tRet, tRetN, tDrop, tAsg, gName, tSeq, tNext, tIfS, tAndV, tOrV, tNotV, tAnd, tOr, tNot, tB, tTest, tVar, tC, tOp, tUn, tCons, tNil, tTup, tLst, tCB, tBM, tBM0, tM1, tM0, tCall, tMeth, tMake, tFldU, sFldU, tChain, tIf, tPar, tPar3, tAug, tDisp, tPairs, tDGet2, sDPut, rIsiU, rIsiTU, rLenU, rIxU, rInU, rNilU, rEqU, rNeU, rEq, rNe, rMax2U, rMin2U, rInt1U, rAbsU, scal, rAddU, rMulU, rI0, rI, rU, rListU, rTupU, rSumU, rAllU, rAnyU, rDictU, rSlU, tSl, tPart, tNoPart, rAppend, rExtend, rPop, rPopAt, rJoinU, rRepr, tSumVals, tyN_non, tyN_bl, tyN_int, tyN_str, tyN_ref, tyO_lst, tyO_tup, tyO_dK, tyO_flst, tyO_ftup, tyO_fdK, and_assoc, tyList, isT, tyAsk, lk_none, lk_frz, lk_lst, lk_tup, lk_dK, lk_ins, kV_str, kV_int, kV_kV, L2.start, E0, tForZ, zList, zTup, zStr, zRng1, zRng2, zEnumS, zEnumL, zKeys, zVals, zItems, tAugS, rGetL, rSetL, ipI, tyN_new, upd_same, tLcV, tDcZ, tYes, wipe, tLcZ, tScZ, cxOf, RVal, RTup, gTupU, gCons, gNil, tProp, tDGetU, sDPutU, rLenO, rDEqU, tBML, tBML0, tConU, tDNewK, rIsiO, hr2]
    refine Or.inl ?_
    refine ite_all (fun hle => ?_) fun hgt => ?_
    · obtain ⟨k, hk⟩ : ∃ k, rs.length = k + 1 := ⟨rs.length - 1, by omega⟩
      obtain ⟨a, ha⟩ : ∃ a, rs[k]? = some a := ⟨rs[k], by simp [hk]⟩
      obtain ⟨hXa, har, hra⟩ := hrows k a ha
      refine ⟨fun σ' H'' => ∃ (p : Addr) (x4 x5 x6 x7 x8 : Option V), σ' = [some (V.ref y), some (V.int i), some (V.int n), some (V.ref r), x4, x5, x6, x7, x8] ∧ H'' F = some (.dK [(Sum.inl (i : Int), .ref r)]) ∧ RowsL X b i H'' r (rs ++ [p]) ∧ (∀ z, X z → H'' z = H z), ?_, ?_⟩
      · rintro σ' H'' ⟨p, x4, x5, x6, x7, x8, rfl, g1, g2, g3⟩
        exact ⟨300 - (rs ++ [p]).length, by rw [List.length_append, List.length_singleton]; omega, rs ++ [p], rfl, ⟨_, _, _, _, _, rfl⟩, g1, g2, g3⟩
      show tCutG _ _ _ _ _
      refine ⟨fun σ H3 => σ = [some (V.ref y), some (V.int i), some (V.int n), some (V.ref r), some (V.ref a), some (V.int ((b - i : Nat) : Int)), x6, x7, x8] ∧ Sub H2 H3, ?_, ?_⟩
      · simp only [tAsg, tTup, tCons, tNil]
        refine ⟨_, rfl, 1, rfl, Or.inr (Or.inl ⟨r, rs.map V.ref, -1, V.ref a, rfl, rfl, by rw [hr2]; rfl, atI_last (by obtain ⟨_, hge⟩ := List.getElem?_eq_some_iff.mp ha; simp [hk, hge]), ?_⟩)⟩
        have ebi : (b : Int) - (i : Int) = ((b - i : Nat) : Int) := by omega
        simp [tRet, tRetN, tDrop, tAsg, gName, tSeq, tNext, tIfS, tAndV, tOrV, tNotV, tAnd, tOr, tNot, tB, tTest, tVar, tC, tOp, tUn, tCons, tNil, tTup, tLst, tCB, tBM, tBM0, tM1, tM0, tCall, tMeth, tMake, tFldU, sFldU, tChain, tIf, tPar, tPar3, tAug, tDisp, tPairs, tDGet2, sDPut, rIsiU, rIsiTU, rLenU, rIxU, rInU, rNilU, rEqU, rNeU, rEq, rNe, rMax2U, rMin2U, rInt1U, rAbsU, scal, rAddU, rMulU, rI0, rI, rU, rListU, rTupU, rSumU, rAllU, rAnyU, rDictU, rSlU, tSl, tPart, tNoPart, rAppend, rExtend, rPop, rPopAt, rJoinU, rRepr, tSumVals, tyN_non, tyN_bl, tyN_int, tyN_str, tyN_ref, tyO_lst, tyO_tup, tyO_dK, tyO_flst, tyO_ftup, tyO_fdK, and_assoc, tyList, isT, tyAsk, lk_none, lk_frz, lk_lst, lk_tup, lk_dK, lk_ins, kV_str, kV_int, kV_kV, L2.start, E0, tForZ, zList, zTup, zStr, zRng1, zRng2, zEnumS, zEnumL, zKeys, zVals, zItems, tAugS, rGetL, rSetL, ipI, tyN_new, upd_same, tLcV, tDcZ, tYes, wipe, tLcZ, tScZ, cxOf, RVal, RTup, gTupU, gCons, gNil, tProp, tDGetU, sDPutU, rLenO, rDEqU, tBML, tBML0, tConU, tDNewK, rIsiO, hy2, lk_base, ebi]
        exact ⟨sz2, fun T hT => Sub.new hT⟩
      rintro σ H3 ⟨rfl, s3⟩
      show tCutG _ _ _ _ _
      have hn110 : k ≤ 110 := by omega
      have hwy : ∀ t, wy b i k t ≤ 10 ^ 110 := fun t => Nat.le_trans (wy_le hi k t) (Nat.le_trans (Nat.pow_le_pow_left hb2 k) (Nat.pow_le_pow_right (by decide) hn110))
      have hsl := sizeLine_eq
      have ra3 := s3.get hra
      refine ⟨fun σ H4 => ∃ (p : Addr) (x8 : Option V), σ = [some (V.ref y), some (V.int i), some (V.int n), some (V.ref r), some (V.ref a), some (V.int ((b - i : Nat) : Int)), some (V.ref p), x7, x8] ∧ H2 p = none ∧ Sub H2 H4 ∧ H4 p = some (.lst (rgN (k + 2) fun t => wy b i k t * (b - i))), ?_, ?_⟩
      · simp [tRet, tRetN, tDrop, tAsg, gName, tSeq, tNext, tIfS, tAndV, tOrV, tNotV, tAnd, tOr, tNot, tB, tTest, tVar, tC, tOp, tUn, tCons, tNil, tTup, tLst, tCB, tBM, tBM0, tM1, tM0, tCall, tMeth, tMake, tFldU, sFldU, tChain, tIf, tPar, tPar3, tAug, tDisp, tPairs, tDGet2, sDPut, rIsiU, rIsiTU, rLenU, rIxU, rInU, rNilU, rEqU, rNeU, rEq, rNe, rMax2U, rMin2U, rInt1U, rAbsU, scal, rAddU, rMulU, rI0, rI, rU, rListU, rTupU, rSumU, rAllU, rAnyU, rDictU, rSlU, tSl, tPart, tNoPart, rAppend, rExtend, rPop, rPopAt, rJoinU, rRepr, tSumVals, tyN_non, tyN_bl, tyN_int, tyN_str, tyN_ref, tyO_lst, tyO_tup, tyO_dK, tyO_flst, tyO_ftup, tyO_fdK, and_assoc, tyList, isT, tyAsk, lk_none, lk_frz, lk_lst, lk_tup, lk_dK, lk_ins, kV_str, kV_int, kV_kV, L2.start, E0, tForZ, zList, zTup, zStr, zRng1, zRng2, zEnumS, zEnumL, zKeys, zVals, zItems, tAugS, rGetL, rSetL, ipI, tyN_new, upd_same, tLcV, tDcZ, tYes, wipe, tLcZ, tScZ, cxOf, RVal, RTup, gTupU, gCons, gNil, tProp, tDGetU, sDPutU, rLenO, rDEqU, tBML, tBML0, tConU, tDNewK, rIsiO]
        refine ⟨_, by rw [ra3]; rfl, ?_⟩
        refine lcv (fun _ => true) (fun v => match v with | .int z => V.int (z * ((b - i : Nat) : Int)) | _ => V.non) (by rw [rgN_len]; omega) (fun H' hs' => by rw [hs'.get ra3]; rfl) (fun z hz H4 v H5 hs4 hr => ?_) (fun D H4 hD hs4 hH4 => ?_)
        · obtain ⟨rfl, hv⟩ := hr
          have hv : v = z := hv
          subst hv
          obtain ⟨d, hd, rfl⟩ := List.mem_map.mp hz
          have := hwy d
          simp [tRet, tRetN, tDrop, tAsg, gName, tSeq, tNext, tIfS, tAndV, tOrV, tNotV, tAnd, tOr, tNot, tB, tTest, tVar, tC, tOp, tUn, tCons, tNil, tTup, tLst, tCB, tBM, tBM0, tM1, tM0, tCall, tMeth, tMake, tFldU, sFldU, tChain, tIf, tPar, tPar3, tAug, tDisp, tPairs, tDGet2, sDPut, rIsiU, rIsiTU, rLenU, rIxU, rInU, rNilU, rEqU, rNeU, rEq, rNe, rMax2U, rMin2U, rInt1U, rAbsU, scal, rAddU, rMulU, rI0, rI, rU, rListU, rTupU, rSumU, rAllU, rAnyU, rDictU, rSlU, tSl, tPart, tNoPart, rAppend, rExtend, rPop, rPopAt, rJoinU, rRepr, tSumVals, tyN_non, tyN_bl, tyN_int, tyN_str, tyN_ref, tyO_lst, tyO_tup, tyO_dK, tyO_flst, tyO_ftup, tyO_fdK, and_assoc, tyList, isT, tyAsk, lk_none, lk_frz, lk_lst, lk_tup, lk_dK, lk_ins, kV_str, kV_int, kV_kV, L2.start, E0, tForZ, zList, zTup, zStr, zRng1, zRng2, zEnumS, zEnumL, zKeys, zVals, zItems, tAugS, rGetL, rSetL, ipI, tyN_new, upd_same, tLcV, tDcZ, tYes, wipe, tLcZ, tScZ, cxOf, RVal, RTup, gTupU, gCons, gNil, tProp, tDGetU, sDPutU, rLenO, rDEqU, tBML, tBML0, tConU, tDNewK, rIsiO]
          exact ⟨cmul (few (by omega) (by omega)) (few (by omega) (by omega)), Sub.refl _⟩
        · rw [filt] at hH4
          refine ⟨sz1, fun p hp => ⟨D, rfl, _, by rw [upd_ne (fun e => by rw [e, hp] at hH4; cases hH4), hH4], by simp [rgN]; omega, fun p1 hp1 => ?_⟩⟩
          have hp1' := (upd_none hp1).2
          refine ⟨(s3.trans hs4).none hp1', ((s3.trans hs4).trans (Sub.new hp)).trans (Sub.new hp1), ?_⟩
          unfold rgN
          rw [List.range_succ (n := k + 1), List.map_append, List.map_map]
          congr 1
          simp [wy_top k (k + 1) (by omega)]
      rintro σ H4 ⟨p, x8, rfl, hp2, s4, l4⟩
      have np : ∀ z, H2 z ≠ none → z ≠ p := fun z hz e => hz (by rw [e]; exact hp2)
      show tCutG _ _ _ _ _
      refine ⟨fun σ H5 => ∃ (x7 x8 : Option V), σ = [some (V.ref y), some (V.int i), some (V.int n), some (V.ref r), some (V.ref a), some (V.int ((b - i : Nat) : Int)), some (V.ref p), x7, x8] ∧ SubX p H2 H5 ∧ H5 p = some (.lst (rgN (k + 2) (wy b i (k + 1)))), ?_, ?_⟩
      · obtain ⟨Pv, hPv⟩ : ∃ Pv : Nat → L2.St → Hp → Prop, Pv = fun j σ H' => ∃ (x7 x8 : Option V), σ = [some (V.ref y), some (V.int i), some (V.int n), some (V.ref r), some (V.ref a), some (V.int ((b - i : Nat) : Int)), some (V.ref p), x7, x8] ∧ SubX p H2 H' ∧ H' p = some (.lst (rgN (k + 2) fun t => wy b i k t * (b - i) + i * laid (wy b i k) 1 j t)) := ⟨_, rfl⟩
        have nap := np a (by rw [hra]; nofun)
        have hk4 : ∀ H', SubX p H2 H' → H' a = some (.lst (rgN (k + 1) (wy b i k))) := fun H' s => by rw [s a nap (by rw [hra]; nofun), hra]
        show tForZ _ _ _ _ _ _
        refine ⟨_, rfl, a, _, rfl, by rw [s4.get hra]; rfl, ?_⟩
        refine loop_ix Pv (by rw [hPv]; exact ⟨_, _, rfl, fun a ha hn => s4 a hn, by rw [l4]; congr 2; apply rgN_ext; intro d _; rw [laid_zero]; simp⟩) (fun j σ H' hP => by rw [hPv] at hP; obtain ⟨_, _, _, s, _⟩ := hP; rw [hk4 H' s]; rfl) ?_ ?_
        · intro j z σ H6 v H7 hz hP hr
          rw [hPv] at hP
          obtain ⟨x7, x8, rfl, s6, l6⟩ := hP
          obtain ⟨T, rfl, hT, s7, e7⟩ := rtup hr
          obtain ⟨z1, z2⟩ := zipIdx_get hz
          obtain ⟨hj, z3⟩ := rgN_get z2
          obtain ⟨zv, zj⟩ := z
          obtain rfl : zj = j := z1
          obtain rfl : zv = V.int (wy b i k zj : Nat) := z3
          have l7 := s7.get l6
          have hWj := hwy zj
          have e3 : (zj : Int) + 1 = ((zj + 1 : Nat) : Int) := by omega
          have p1 : ((wy b i k zj : Nat) : Int) * (i : Int) = ((wy b i k zj * i : Nat) : Int) := by push_cast; rfl
          simp [tRet, tRetN, tDrop, tAsg, gName, tSeq, tNext, tIfS, tAndV, tOrV, tNotV, tAnd, tOr, tNot, tB, tTest, tVar, tC, tOp, tUn, tCons, tNil, tTup, tLst, tCB, tBM, tBM0, tM1, tM0, tCall, tMeth, tMake, tFldU, sFldU, tChain, tIf, tPar, tPar3, tAug, tDisp, tPairs, tDGet2, sDPut, rIsiU, rIsiTU, rLenU, rIxU, rInU, rNilU, rEqU, rNeU, rEq, rNe, rMax2U, rMin2U, rInt1U, rAbsU, scal, rAddU, rMulU, rI0, rI, rU, rListU, rTupU, rSumU, rAllU, rAnyU, rDictU, rSlU, tSl, tPart, tNoPart, rAppend, rExtend, rPop, rPopAt, rJoinU, rRepr, tSumVals, tyN_non, tyN_bl, tyN_int, tyN_str, tyN_ref, tyO_lst, tyO_tup, tyO_dK, tyO_flst, tyO_ftup, tyO_fdK, and_assoc, tyList, isT, tyAsk, lk_none, lk_frz, lk_lst, lk_tup, lk_dK, lk_ins, kV_str, kV_int, kV_kV, L2.start, E0, tForZ, zList, zTup, zStr, zRng1, zRng2, zEnumS, zEnumL, zKeys, zVals, zItems, tAugS, rGetL, rSetL, ipI, tyN_new, upd_same, tLcV, tDcZ, tYes, wipe, tLcZ, tScZ, cxOf, RVal, RTup, gTupU, gCons, gNil, tProp, tDGetU, sDPutU, rLenO, rDEqU, tBML, tBML0, tConU, tDNewK, rIsiO, gSub, e7]
          rw [e3, p1]
          refine ⟨_, by rw [l7]; rfl, by omega, _, rgN_ix (by omega), cmul (few (by omega) (by omega)) (few (by omega) (by omega)), _, rfl, _, l7, _, by rw [rgN_len]; exact ixN_at (by omega), ?_⟩
          rw [setN, hPv]
          refine ⟨_, _, rfl, fun c hc hn => ?_, ?_⟩
          · have h1 := s6 c hc hn
            rw [upd_ne hc, s7 c (by rw [h1]; exact hn), h1]
          · rw [upd_same]
            congr 2
            apply rgN_ext
            intro d _
            rw [laid_succ]
            by_cases c1 : d = zj + 1
            · subst c1
              have c2 : zj + 1 = 1 + zj := by omega
              rw [if_pos rfl, if_pos c2, Nat.mul_add, Nat.mul_comm (wy b i k zj) i]
              omega
            · rw [if_neg c1, if_neg (by omega)]
              simp
        · intro σ H6 hP
          rw [hPv] at hP
          obtain ⟨x7, x8, rfl, s6, l6⟩ := hP
          refine ⟨_, _, rfl, s6, ?_⟩
          rw [l6, List.length_zipIdx, rgN_len]
          congr 2
          apply rgN_ext
          intro d hd
          cases d with
          | zero =>
            show _ = wy b i k 0 * (b - i)
            unfold laid
            rw [if_neg (by omega)]
            simp
          | succ d =>
            show _ = wy b i k (d + 1) * (b - i) + wy b i k d * i
            unfold laid
            rw [if_pos (by omega), Nat.mul_comm i]
            simp
      rintro σ H5 ⟨x7, x8, rfl, s5, l5⟩
      have hr5 : H5 r = some (.lst (rs.map V.ref)) := by rw [s5 r (np r (by rw [hr2]; nofun)) (by rw [hr2]; nofun), hr2]
      have nrp : r ≠ p := np r (by rw [hr2]; nofun)
      have nFr : F ≠ r := ne_of hF2 hr2 nofun
      simp [tRet, tRetN, tDrop, tAsg, gName, tSeq, tNext, tIfS, tAndV, tOrV, tNotV, tAnd, tOr, tNot, tB, tTest, tVar, tC, tOp, tUn, tCons, tNil, tTup, tLst, tCB, tBM, tBM0, tM1, tM0, tCall, tMeth, tMake, tFldU, sFldU, tChain, tIf, tPar, tPar3, tAug, tDisp, tPairs, tDGet2, sDPut, rIsiU, rIsiTU, rLenU, rIxU, rInU, rNilU, rEqU, rNeU, rEq, rNe, rMax2U, rMin2U, rInt1U, rAbsU, scal, rAddU, rMulU, rI0, rI, rU, rListU, rTupU, rSumU, rAllU, rAnyU, rDictU, rSlU, tSl, tPart, tNoPart, rAppend, rExtend, rPop, rPopAt, rJoinU, rRepr, tSumVals, tyN_non, tyN_bl, tyN_int, tyN_str, tyN_ref, tyO_lst, tyO_tup, tyO_dK, tyO_flst, tyO_ftup, tyO_fdK, and_assoc, tyList, isT, tyAsk, lk_none, lk_frz, lk_lst, lk_tup, lk_dK, lk_ins, kV_str, kV_int, kV_kV, L2.start, E0, tForZ, zList, zTup, zStr, zRng1, zRng2, zEnumS, zEnumL, zKeys, zVals, zItems, tAugS, rGetL, rSetL, ipI, tyN_new, upd_same, tLcV, tDcZ, tYes, wipe, tLcZ, tScZ, cxOf, RVal, RTup, gTupU, gCons, gNil, tProp, tDGetU, sDPutU, rLenO, rDEqU, tBML, tBML0, tConU, tDNewK, rIsiO, hr5]
      have live : ∀ z, X z → H2 z ≠ none := fun z hz => by rw [hk2 z hz]; exact hX z hz
      refine ⟨by omega, ?_, ⟨p, hXr, ?_, by simp, by simp; omega, fun j c hc => ?_⟩, fun z hz => ?_⟩
      · have hn : H2 F ≠ none := by rw [hF2]; nofun
        rw [upd_ne nFr, s5 F (np F hn) hn, hF2]
      · rw [upd_same, List.map_append]
        rfl
      · by_cases hj : j < rs.length
        · rw [List.getElem?_append_left hj] at hc
          obtain ⟨g1, g2, g3⟩ := hrows j c hc
          have hn : H2 c ≠ none := by rw [g3]; nofun
          exact ⟨g1, g2, by rw [upd_ne g2, s5 c (np c hn) hn, g3]⟩
        · have hj2 : j = rs.length ∧ c = p := by
            rw [List.getElem?_append_right (by omega)] at hc
            obtain ⟨h1, h2⟩ := List.getElem?_eq_some_iff.mp hc
            simp at h1 h2
            exact ⟨by omega, h2.symm⟩
          obtain ⟨rfl, rfl⟩ := hj2
          refine ⟨fun hx => live _ hx hp2, nrp.symm, ?_⟩
          rw [upd_ne nrp.symm, l5, hk]
      · have hn := live z hz
        rw [upd_ne (fun e => hXr (by rw [← e]; exact hz)), s5 z (np z hn) hn, hk2 z hz]
    · obtain ⟨a, ha⟩ : ∃ a, rs[n]? = some a := ⟨rs[n], by simp⟩
      obtain ⟨hXa, har, hra⟩ := hrows n a ha
      exact ⟨V.ref a, atI_at (by simp [ha]), q r a H2 ⟨hF2, rs, hXr, hr2, hl1, hl2, hrows⟩ hk2 hra hXa⟩
end
end K74

set_option Elab.async false
set_option linter.all false
set_option maxRecDepth 100000
set_option maxHeartbeats 4000000
namespace K74
open PySem PySem.Spec PyProof.Rows L2 G
section
variable {P : Program} {w : World} {K : PySem.W.Frag} {mg : Str → Option Value} {base : Heap}
theorem laid_wz {b i n sh s : Nat} : laid (wy b i n) sh (n + 1) s = wz b i n s sh := by
  unfold laid wz
  by_cases h : sh ≤ s
  · by_cases h2 : s < sh + (n + 1)
    · rw [if_pos ⟨h, h2⟩, if_pos h]
    · rw [if_neg (by omega), if_pos h, wy_top n (s - sh) (by omega)]
  · rw [if_neg (by omega), if_neg h]
theorem RowsAt.subx {X : Addr → Prop} {b i : Nat} {H H' : Hp} {F D : Addr} {R : Option Addr} (h : RowsAt X b i H F R) (hD : X D) (hF : F ≠ D) (s : SubX D H H') : RowsAt X b i H' F R := by
  cases R with
  | none => exact (s F hF (by rw [show H F = _ from h]; nofun)).trans h
  | some r =>
    obtain ⟨h1, rs, h2, h3, h4, h5, h6⟩ := h
    have live : ∀ z o, z ≠ D → H z = some o → H' z = some o := fun z o hz e => by rw [s z hz (by rw [e]; nofun)]; exact e
    refine ⟨live F _ hF h1, rs, h2, live r _ (fun e => h2 (by rw [e]; exact hD)) h3, h4, h5, fun j a ha => ?_⟩
    obtain ⟨g1, g2, g3⟩ := h6 j a ha
    exact ⟨g1, g2, live a _ (fun e => g1 (by rw [e]; exact hD)) g3⟩
theorem RowsAt.sub {X : Addr → Prop} {b i : Nat} {H H' : Hp} {F : Addr} {R : Option Addr} (h : RowsAt X b i H F R) (s : Sub H H') : RowsAt X b i H' F R := by
  cases R with
  | none => exact s.get h
  | some r =>
    obtain ⟨h1, rs, h2, h3, h4, h5, h6⟩ := h
    exact ⟨s.get h1, rs, h2, s.get h3, h4, h5, fun j a ha => let ⟨g1, g2, g3⟩ := h6 j a ha; ⟨g1, g2, s.get g3⟩⟩
/-- less is kept away, but for what is not there -/
theorem RowsAt.new {X Y : Addr → Prop} {b i : Nat} {H : Hp} {F : Addr} {R : Option Addr} (h : RowsAt X b i H F R) (hY : ∀ a, Y a → X a ∨ H a = none) : RowsAt Y b i H F R := by
  cases R with
  | none => exact h
  | some r =>
    obtain ⟨h1, rs, h2, h3, h4, h5, h6⟩ := h
    have no : ∀ a o, ¬ X a → H a = some o → ¬ Y a := fun a o hx e hy => by
      rcases hY a hy with q | q
      · exact hx q
      · rw [q] at e
        cases e
    exact ⟨h1, rs, no r _ h2 h3, h3, h4, h5, fun j a ha => let ⟨g1, g2, g3⟩ := h6 j a ha; ⟨no a _ g1 g3, g2, g3⟩⟩
theorem no_meth {b : Nat} {e F S : Addr} (m : Str) (h : m ∉ ([("base" : Str), "places", "free_rows", "shorter_rows"] : List Str)) : ∀ (a : Str) (v : V), (a, v) ∈ scF b e F S → ¬ m = a := by
  intro a v hv he
  subst he
  apply h
  unfold scF at hv
  simp only [List.mem_cons, Prod.mk.injEq, List.not_mem_nil, or_false] at hv ⊢
  rcases hv with ⟨h, _⟩ | ⟨h, _⟩ | ⟨h, _⟩ | ⟨h, _⟩
  · exact Or.inl h
  · exact Or.inr (Or.inl h)
  · exact Or.inr (Or.inr (Or.inl h))
  · exact Or.inr (Or.inr (Or.inr h))
def sp_ShareCounts_shorter (K : PySem.W.Frag) : Sp := fun vs H Q _ => ∃ (y dy e F S : Addr) (b i L : Nat) (mem : Nat → Nat) (ds : List Nat) (X : Addr → Prop), vs = [.ref y, .int i, .int (mem 0 : Nat)] ∧ H y = some (.ins (He.ga K "ShareCounts") dy (scF b e F S)) ∧
  H e = some (.lst (ds.map fun d : Nat => V.int (d : Nat))) ∧ ds.length = L ∧ L ≤ 110 ∧ H F = some (.dK []) ∧ H S = some (.dT []) ∧ (∀ z, X z → H z ≠ none) ∧ ¬ X F ∧ ¬ X S ∧ X y ∧ X e ∧ (∀ d, mem d ≤ 1) ∧ memS mem 0 b = i ∧ i ≤ b ∧ 2 ≤ b ∧ b ≤ 10 ∧
  ∀ R D H', RowsAt (fun a => X a ∨ a = D) b i H' F R → (∀ z, X z → H' z = H z) → ¬ X D → D ≠ F → H' D = some (.lst (rgN (L + 1) fun s => cntS b mem s 1 (b ^ (L - 1) - 1))) → Q (.ref D) H'
theorem ok_ShareCounts_shorter (T : Txt K mg) : FnOk P w K mg base CX0 2 (He.ma K (He.ga K "ShareCounts") "shorter") T.fd_ShareCounts_shorter ["self", "inside", "zero"] (sp_ShareCounts_shorter K) := by
  refine FunD.ok T.F_ShareCounts_shorter sc_ShareCounts_shorter (fun vs H Q E h => ?_) fun cdv A outer s H vs Q E hr h => ⟨_, PSs.nox (pss_cutG (ps_if (pt_cmpR (op_notInT (hu_of hr)) (pe_tup (pa_cons (pv 1) (pa_cons (pv 2) pa_nil))) (pe_fldU (C := He.ga K "ShareCounts") T.cls_ShareCounts T.na_ShareCounts_shorter_rows (pv 0) rfl) rfl) (pss_cutG (ps_set (i := 3) sc_ShareCounts_shorter.nd rfl (by first | exact Or.inl rfl | exact Or.inr rfl) (pe_op op_mulU (pe_lst (pa_cons pe_int pa_nil)) (pe_op op_addU (pe_callB call_lenU rfl T.f_len boot_len (pa_cons (pe_fldU (C := He.ga K "ShareCounts") T.cls_ShareCounts T.na_ShareCounts_places (pv 0) rfl) pa_nil)) pe_int)))
      (pss_cutG (ps_forZ PassesOwn.never rfl (z_rng1 (by exact rfl) T.f_range (pa_cons (pe_op op_sub (pe_callB call_lenU rfl T.f_len boot_len (pa_cons (pe_fldU (C := He.ga K "ShareCounts") T.cls_ShareCounts T.na_ShareCounts_places (pv 0) rfl) pa_nil)) pe_int) pa_nil)) (pg_name (i := 4) sc_ShareCounts_shorter.nd rfl (by first | exact Or.inl rfl | exact Or.inr rfl)) (pss_one (ps_expr (pe_call (ok_add_row T) (hr.mono (by omega)) rfl T.g_add_row T.F_add_row.kp (b_add_row T) .nil pass0 (pa_cons (pv 3) (pa_cons (pe_meth (pv 0) T.cls_ShareCounts T.me_ShareCounts_free (ok_ShareCounts_free T) (hr.mono (by omega)) (b_ShareCounts_free T) .nil pass0 (pa_cons (pv 1) (pa_cons (pv 4) pa_nil))) (pa_cons pe_int (pa_cons (pe_tup (pa_cons (pe_op op_sub (pv 1) (pv 2)) (pa_cons (pe_op op_addU (pe_op op_sub (pe_op op_sub (pe_fldU (C := He.ga K "ShareCounts") T.cls_ShareCounts T.na_ShareCounts_base (pv 0) rfl) pe_int) (pv 1)) (pv 2)) pa_nil))) pa_nil))))))))
      (pss_one (ps_dputT (hu_of hr) (pe_fldU (C := He.ga K "ShareCounts") T.cls_ShareCounts T.na_ShareCounts_shorter_rows (pv 0) rfl) (pe_tup (pa_cons (pv 1) (pa_cons (pv 2) pa_nil))) (pv 3) rfl)))) pss_nil)
      (pss_one (ps_ret (pe_callTy (call_listU rfl) rfl T.f_list boot_list (pa_cons (pe_ix (ix_T (hu_of hr)) (pe_fldU (C := He.ga K "ShareCounts") T.cls_ShareCounts T.na_ShareCounts_shorter_rows (pv 0) rfl) (pe_tup (pa_cons (pv 1) (pa_cons (pv 2) pa_nil))) (fun _ _ => rfl)) pa_nil))))), ?_⟩
  · obtain ⟨y, dy, e, F, S, b, i, L, mem, ds, X, rfl, _⟩ := h
    rfl
  · obtain ⟨y, dy, e, F, S, b, i, L, mem, ds, X, rfl, hy, he, hL, hL2, hF, hS, hX, hXF, hXS, hXy, hXe, hm, hi, hib, hb, hb2, q⟩ := h
    have hsl := sizeLine_eq
    have nFS : F ≠ S := ne_of hF hS nofun
    have nyF : y ≠ F := ne_of hy hF nofun
    have nyS : y ≠ S := ne_of hy hS nofun
    have neF : e ≠ F := ne_of he hF nofun
    have neS : e ≠ S := ne_of he hS nofun
    obtain ⟨h1, h2⟩ := memS_first hb hi
    show tCutG _ _ _ _ _
    refine ⟨fun σ H1 => ∃ (R : Option Addr) (D : Addr) (x4 : Option V), σ = [some (V.ref y), some (V.int i), some (V.int (mem 0 : Nat)), some (V.ref D), x4] ∧ RowsAt (fun a => X a ∨ a = S ∨ a = D) b i H1 F R ∧ (∀ z, X z → H1 z = H z) ∧ ¬ X D ∧ D ≠ F ∧
      H1 S = some (.dT [([Sum.inl (i : Int), Sum.inl (mem 0 : Int)], .ref D)]) ∧ H1 D = some (.lst (rgN (L + 1) fun s => cntS b mem s 1 (b ^ (L - 1) - 1))), ?_, ?_⟩
    · show tTest (tOp (rInT true) _ _) _ _ _
      simp [tRet, tRetN, tDrop, tAsg, gName, tSeq, tNext, tIfS, tAndV, tOrV, tNotV, tAnd, tOr, tNot, tB, tTest, tVar, tC, tOp, tUn, tCons, tNil, tTup, tLst, tCB, tBM, tBM0, tM1, tM0, tCall, tMeth, tMake, tFldU, sFldU, tChain, tIf, tPar, tPar3, tAug, tDisp, tPairs, tDGet2, sDPut, rIsiU, rIsiTU, rLenU, rIxU, rInU, rNilU, rEqU, rNeU, rEq, rNe, rMax2U, rMin2U, rInt1U, rAbsU, scal, rAddU, rMulU, rI0, rI, rU, rListU, rTupU, rSumU, rAllU, rAnyU, rDictU, rSlU, tSl, tPart, tNoPart, rAppend, rExtend, rPop, rPopAt, rJoinU, rRepr, tSumVals, tyN_non, tyN_bl, tyN_int, tyN_str, tyN_ref, tyO_lst, tyO_tup, tyO_dK, tyO_flst, tyO_ftup, tyO_fdK, and_assoc, tyList, isT, tyAsk, lk_none, lk_frz, lk_lst, lk_tup, lk_dK, lk_ins, kV_str, kV_int, kV_kV, L2.start, E0, tForZ, zList, zTup, zStr, zRng1, zRng2, zEnumS, zEnumL, zKeys, zVals, zItems, tAugS, rGetL, rSetL, ipI, tyN_new, upd_same, tLcV, tDcZ, tYes, wipe, tLcZ, tScZ, cxOf, RVal, RTup, gTupU, gCons, gNil, tProp, tDGetU, sDPutU, rLenO, rDEqU, tBML, tBML0, tConU, tDNewK, rIsiO, hy, lk_srows, rInT]
      refine ⟨sz2, fun T hT => ?_⟩
      obtain ⟨H1, e1⟩ : ∃ H1, H1 = upd H T (.tup [V.int (i : Nat), V.int (mem 0 : Nat)]) := ⟨_, rfl⟩
      have s1 : Sub H H1 := by rw [e1]; exact Sub.new hT
      rw [← e1]
      refine ⟨_, _, s1.get hy, _, lk_srows, S, rfl, [], [Sum.inl (i : Int), Sum.inl (mem 0 : Int)], rfl, s1.get hS, rfl, ?_⟩
      show tCutG _ _ _ _ _
      refine ⟨fun σ H2 => ∃ D, σ = [some (V.ref y), some (V.int i), some (V.int (mem 0 : Nat)), some (V.ref D), none] ∧ Sub H H2 ∧ H D = none ∧ H2 D = some (.lst (rgN (L + 1) fun _ => 0)), ?_, ?_⟩
      · simp [tRet, tRetN, tDrop, tAsg, gName, tSeq, tNext, tIfS, tAndV, tOrV, tNotV, tAnd, tOr, tNot, tB, tTest, tVar, tC, tOp, tUn, tCons, tNil, tTup, tLst, tCB, tBM, tBM0, tM1, tM0, tCall, tMeth, tMake, tFldU, sFldU, tChain, tIf, tPar, tPar3, tAug, tDisp, tPairs, tDGet2, sDPut, rIsiU, rIsiTU, rLenU, rIxU, rInU, rNilU, rEqU, rNeU, rEq, rNe, rMax2U, rMin2U, rInt1U, rAbsU, scal, rAddU, rMulU, rI0, rI, rU, rListU, rTupU, rSumU, rAllU, rAnyU, rDictU, rSlU, tSl, tPart, tNoPart, rAppend, rExtend, rPop, rPopAt, rJoinU, rRepr, tSumVals, tyN_non, tyN_bl, tyN_int, tyN_str, tyN_ref, tyO_lst, tyO_tup, tyO_dK, tyO_flst, tyO_ftup, tyO_fdK, and_assoc, tyList, isT, tyAsk, lk_none, lk_frz, lk_lst, lk_tup, lk_dK, lk_ins, kV_str, kV_int, kV_kV, L2.start, E0, tForZ, zList, zTup, zStr, zRng1, zRng2, zEnumS, zEnumL, zKeys, zVals, zItems, tAugS, rGetL, rSetL, ipI, tyN_new, upd_same, tLcV, tDcZ, tYes, wipe, tLcZ, tScZ, cxOf, RVal, RTup, gTupU, gCons, gNil, tProp, tDGetU, sDPutU, rLenO, rDEqU, tBML, tBML0, tConU, tDNewK, rIsiO, s1.get hy, lk_places]
        refine ⟨sz1, fun p hp => ?_⟩
        have s1p := s1.trans (Sub.new (o := .lst [V.int 0]) hp)
        refine ⟨_, _, s1p.get hy, _, lk_places, Or.inr (Or.inl ⟨e, rfl, _, by rw [s1p.get he]; rfl, by simp; omega, by simp [hL]; omega, by simp [hL]; omega, fun p2 hp2 => ⟨s1p.trans (Sub.new hp2), s1p.none hp2, ?_⟩⟩)⟩
        simp [rgN, hL, List.map_const']
      rintro σ H2 ⟨D, rfl, s2, hD, hD2⟩
      have nD : ∀ z, H z ≠ none → z ≠ D := fun z hz e => hz (by rw [e]; exact hD)
      have nFD : F ≠ D := nD F (by rw [hF]; nofun)
      have nSD : S ≠ D := nD S (by rw [hS]; nofun)
      show tCutG _ _ _ _ _
      refine ⟨fun σ H3 => ∃ (R : Option Addr) (x4 : Option V), σ = [some (V.ref y), some (V.int i), some (V.int (mem 0 : Nat)), some (V.ref D), x4] ∧ RowsAt (fun a => X a ∨ a = S ∨ a = D) b i H3 F R ∧ (∀ z, X z ∨ z = S → H3 z = H z) ∧ H3 D = some (.lst (rgN (L + 1) fun s => cntS b mem s 1 (b ^ (L - 1) - 1))), ?_, ?_⟩
      · obtain ⟨Pv, hPv⟩ : ∃ Pv : Nat → L2.St → Hp → Prop, Pv = fun j σ H3 => ∃ (R : Option Addr) (x4 : Option V), σ = [some (V.ref y), some (V.int i), some (V.int (mem 0 : Nat)), some (V.ref D), x4] ∧ RowsAt (fun a => X a ∨ a = S ∨ a = D) b i H3 F R ∧ (∀ z, X z ∨ z = S → H3 z = H z) ∧ H3 D = some (.lst (rgN (L + 1) fun s => cntS b mem s 1 (b ^ j - 1))) := ⟨_, rfl⟩
        simp [tRet, tRetN, tDrop, tAsg, gName, tSeq, tNext, tIfS, tAndV, tOrV, tNotV, tAnd, tOr, tNot, tB, tTest, tVar, tC, tOp, tUn, tCons, tNil, tTup, tLst, tCB, tBM, tBM0, tM1, tM0, tCall, tMeth, tMake, tFldU, sFldU, tChain, tIf, tPar, tPar3, tAug, tDisp, tPairs, tDGet2, sDPut, rIsiU, rIsiTU, rLenU, rIxU, rInU, rNilU, rEqU, rNeU, rEq, rNe, rMax2U, rMin2U, rInt1U, rAbsU, scal, rAddU, rMulU, rI0, rI, rU, rListU, rTupU, rSumU, rAllU, rAnyU, rDictU, rSlU, tSl, tPart, tNoPart, rAppend, rExtend, rPop, rPopAt, rJoinU, rRepr, tSumVals, tyN_non, tyN_bl, tyN_int, tyN_str, tyN_ref, tyO_lst, tyO_tup, tyO_dK, tyO_flst, tyO_ftup, tyO_fdK, and_assoc, tyList, isT, tyAsk, lk_none, lk_frz, lk_lst, lk_tup, lk_dK, lk_ins, kV_str, kV_int, kV_kV, L2.start, E0, tForZ, zList, zTup, zStr, zRng1, zRng2, zEnumS, zEnumL, zKeys, zVals, zItems, tAugS, rGetL, rSetL, ipI, tyN_new, upd_same, tLcV, tDcZ, tYes, wipe, tLcZ, tScZ, cxOf, RVal, RTup, gTupU, gCons, gNil, tProp, tDGetU, sDPutU, rLenO, rDEqU, tBML, tBML0, tConU, tDNewK, rIsiO, s2.get hy, lk_places]
        refine Or.inl ⟨_, by rw [s2.get he]; rfl, by simp; omega, by simp [hL]; omega, ?_⟩
        rw [List.length_map, hL]
        refine loop_ix Pv (by rw [hPv]; exact ⟨none, _, rfl, s2.get hF, fun z hz => s2 z (by rcases hz with hz | rfl; exact hX z hz; rw [hS]; nofun), by simpa [cntS] using hD2⟩) (fun _ _ _ _ => trivial) ?_ ?_
        · intro j z σ H4 v H5 hz hP hr
          rw [hPv] at hP
          obtain ⟨R, x4, rfl, r4, k4, l4⟩ := hP
          obtain ⟨rfl, rfl⟩ := hr
          obtain ⟨rfl, hj⟩ := intsZ_get hz
          have hj : j + 1 < L := by omega
          have e0 : (0 : Int) + (j : Nat) = (j : Nat) := by omega
          rw [e0]
          have hy4 : H5 y = some (.ins (He.ga K "ShareCounts") dy (scF b e F S)) := by rw [k4 y (Or.inl hXy)]; exact hy
          simp [tRet, tRetN, tDrop, tAsg, gName, tSeq, tNext, tIfS, tAndV, tOrV, tNotV, tAnd, tOr, tNot, tB, tTest, tVar, tC, tOp, tUn, tCons, tNil, tTup, tLst, tCB, tBM, tBM0, tM1, tM0, tCall, tMeth, tMake, tFldU, sFldU, tChain, tIf, tPar, tPar3, tAug, tDisp, tPairs, tDGet2, sDPut, rIsiU, rIsiTU, rLenU, rIxU, rInU, rNilU, rEqU, rNeU, rEq, rNe, rMax2U, rMin2U, rInt1U, rAbsU, scal, rAddU, rMulU, rI0, rI, rU, rListU, rTupU, rSumU, rAllU, rAnyU, rDictU, rSlU, tSl, tPart, tNoPart, rAppend, rExtend, rPop, rPopAt, rJoinU, rRepr, tSumVals, tyN_non, tyN_bl, tyN_int, tyN_str, tyN_ref, tyO_lst, tyO_tup, tyO_dK, tyO_flst, tyO_ftup, tyO_fdK, and_assoc, tyList, isT, tyAsk, lk_none, lk_frz, lk_lst, lk_tup, lk_dK, lk_ins, kV_str, kV_int, kV_kV, L2.start, E0, tForZ, zList, zTup, zStr, zRng1, zRng2, zEnumS, zEnumL, zKeys, zVals, zItems, tAugS, rGetL, rSetL, ipI, tyN_new, upd_same, tLcV, tDcZ, tYes, wipe, tLcZ, tScZ, cxOf, RVal, RTup, gTupU, gCons, gNil, tProp, tDGetU, sDPutU, rLenO, rDEqU, tBML, tBML0, tConU, tDNewK, rIsiO, sp_add_row, sp_ShareCounts_free]
          have live : ∀ z, (X z ∨ z = S ∨ z = D) → H5 z ≠ none := fun z hz => by
            rcases hz with hz | rfl | rfl
            · rw [k4 z (Or.inl hz)]
              exact hX z hz
            · rw [k4 z (Or.inr rfl), hS]
              nofun
            · rw [l4]
              nofun
          refine ⟨_, _, hy4, no_meth "free" (by decide +kernel), dy, e, F, S, b, i, rfl, j, rfl, hy4, fun a => X a ∨ a = S ∨ a = D, ⟨R, r4⟩, live, fun hx => (by rcases hx with hx | hx | hx; exact hXF hx; exact nFS hx; exact nFD hx), Or.inl hXy, hib, hb, hb2, by omega, fun r a H6 r6 k6 l6 nXa => ?_⟩
          have hy6 : H6 y = some (.ins (He.ga K "ShareCounts") dy (scF b e F S)) := by rw [k6 y (Or.inl hXy)]; exact hy4
          refine ⟨_, _, hy6, _, lk_base, _, rfl, sz2, fun T hT => ?_⟩
          have hwy : ∀ t, wy b i j t ≤ 10 ^ 110 := fun t => Nat.le_trans (wy_le hib j t) (Nat.le_trans (Nat.pow_le_pow_left hb2 j) (Nat.pow_le_pow_right (by decide) (by omega)))
          have hml := memS_le hm 1 (b - 1)
          rw [h1] at hml
          have e1 : (i : Int) - (mem 0 : Nat) = ((i - mem 0 : Nat) : Int) := by omega
          have e2 : (b : Int) - 1 - (i : Nat) + (mem 0 : Nat) = ((b - 1 - (i - mem 0) : Nat) : Int) := by omega
          rw [e1, e2]
          have s7 := Sub.new (o := .tup [V.int ((i - mem 0 : Nat) : Int), V.int ((b - 1 - (i - mem 0) : Nat) : Int)]) hT
          have hD6 : H6 D = some (.lst (rgN (L + 1) fun s => cntS b mem s 1 (b ^ j - 1))) := by rw [k6 D (Or.inr (Or.inr rfl))]; exact l4
          refine ⟨T, 0, rfl, rfl, fun e => nXa (Or.inr (Or.inr e.symm)), i - mem 0, b - 1 - (i - mem 0), L + 1, j + 1, _, s7.get hD6, wy b i j, s7.get l6, upd_same, by omega, by omega, by omega, fun t _ => hwy t, fun H7 sx7 l7 => ?_⟩
          rw [hPv]
          refine ⟨some r, _, rfl, (r6.sub s7).subx (Or.inr (Or.inr rfl)) nFD sx7, fun z hz => ?_, ?_⟩
          · have hzX : X z ∨ z = S ∨ z = D := by
              rcases hz with hz | hz
              · exact Or.inl hz
              · exact Or.inr (Or.inl hz)
            have hzn : z ≠ D := by
              rcases hz with hz | rfl
              · exact nD z (hX z hz)
              · exact nSD
            have q5 := live z hzX
            have q6 : H6 z ≠ none := by rw [k6 z hzX]; exact q5
            have q7 := s7 z q6
            rw [sx7 z hzn (by rw [q7]; exact q6), q7, k6 z hzX, k4 z hz]
          · rw [l7]
            congr 2
            apply rgN_ext
            intro s _
            rw [laid_wz, laid_wz, first_ways hm hb hi s j]
        · intro σ H4 hP
          rw [hPv] at hP
          obtain ⟨R, x4, rfl, r4, k4, l4⟩ := hP
          rw [intsZ_len, show ((L : Int) - 1 - 0).toNat = L - 1 by omega] at l4
          exact ⟨⟨_, rfl⟩, ⟨R, r4⟩, k4, l4⟩
      rintro σ H3 ⟨R, x4, rfl, r3, k3, l3⟩
      have hy3 : H3 y = some (.ins (He.ga K "ShareCounts") dy (scF b e F S)) := by rw [k3 y (Or.inl hXy)]; exact hy
      have hS3 : H3 S = some (.dT []) := by rw [k3 S (Or.inr rfl)]; exact hS
      show sDPutT _ _ _ _ _ _
      simp [sDPutT, tRet, tRetN, tDrop, tAsg, gName, tSeq, tNext, tIfS, tAndV, tOrV, tNotV, tAnd, tOr, tNot, tB, tTest, tVar, tC, tOp, tUn, tCons, tNil, tTup, tLst, tCB, tBM, tBM0, tM1, tM0, tCall, tMeth, tMake, tFldU, sFldU, tChain, tIf, tPar, tPar3, tAug, tDisp, tPairs, tDGet2, sDPut, rIsiU, rIsiTU, rLenU, rIxU, rInU, rNilU, rEqU, rNeU, rEq, rNe, rMax2U, rMin2U, rInt1U, rAbsU, scal, rAddU, rMulU, rI0, rI, rU, rListU, rTupU, rSumU, rAllU, rAnyU, rDictU, rSlU, tSl, tPart, tNoPart, rAppend, rExtend, rPop, rPopAt, rJoinU, rRepr, tSumVals, tyN_non, tyN_bl, tyN_int, tyN_str, tyN_ref, tyO_lst, tyO_tup, tyO_dK, tyO_flst, tyO_ftup, tyO_fdK, and_assoc, tyList, isT, tyAsk, lk_none, lk_frz, lk_lst, lk_tup, lk_dK, lk_ins, kV_str, kV_int, kV_kV, L2.start, E0, tForZ, zList, zTup, zStr, zRng1, zRng2, zEnumS, zEnumL, zKeys, zVals, zItems, tAugS, rGetL, rSetL, ipI, tyN_new, upd_same, tLcV, tDcZ, tYes, wipe, tLcZ, tScZ, cxOf, RVal, RTup, gTupU, gCons, gNil, tProp, tDGetU, sDPutU, rLenO, rDEqU, tBML, tBML0, tConU, tDNewK, rIsiO, hy3, lk_srows]
      refine ⟨sz2, fun T hT => ?_⟩
      have nTS : S ≠ T := fun e => by rw [← e, hS3] at hT; cases hT
      have nTD : D ≠ T := fun e => by rw [← e, l3] at hT; cases hT
      refine ⟨[], by rw [upd_ne nTS]; exact hS3, [Sum.inl (i : Int), Sum.inl (mem 0 : Int)], rfl, by rw [sizeLine_eq]; simp, ⟨R, (r3.sub (Sub.new hT)).subx (D := S) (Or.inr (Or.inl rfl)) nFS fun a ha _ => by rw [upd_ne ha]⟩, fun z hz => ?_, fun hx => hX _ hx hD, fun e => nFD e.symm, rfl, ?_⟩
      · have hn : H3 z ≠ none := by rw [k3 z (Or.inl hz)]; exact hX z hz
        rw [upd_ne (fun e => hXS (by rw [← e]; exact hz)), upd_ne (fun e => hn (by rw [e]; exact hT)), k3 z (Or.inl hz)]
      · rw [upd_ne nSD.symm, upd_ne nTD, l3]
    rintro σ H1 ⟨R, D, x4, rfl, r1, k1, nXD, nDF, hS1, hD1⟩
    have hy1 : H1 y = some (.ins (He.ga K "ShareCounts") dy (scF b e F S)) := by rw [k1 y hXy]; exact hy
    simp [tRet, tRetN, tDrop, tAsg, gName, tSeq, tNext, tIfS, tAndV, tOrV, tNotV, tAnd, tOr, tNot, tB, tTest, tVar, tC, tOp, tUn, tCons, tNil, tTup, tLst, tCB, tBM, tBM0, tM1, tM0, tCall, tMeth, tMake, tFldU, sFldU, tChain, tIf, tPar, tPar3, tAug, tDisp, tPairs, tDGet2, sDPut, rIsiU, rIsiTU, rLenU, rIxU, rInU, rNilU, rEqU, rNeU, rEq, rNe, rMax2U, rMin2U, rInt1U, rAbsU, scal, rAddU, rMulU, rI0, rI, rU, rListU, rTupU, rSumU, rAllU, rAnyU, rDictU, rSlU, tSl, tPart, tNoPart, rAppend, rExtend, rPop, rPopAt, rJoinU, rRepr, tSumVals, tyN_non, tyN_bl, tyN_int, tyN_str, tyN_ref, tyO_lst, tyO_tup, tyO_dK, tyO_flst, tyO_ftup, tyO_fdK, and_assoc, tyList, isT, tyAsk, lk_none, lk_frz, lk_lst, lk_tup, lk_dK, lk_ins, kV_str, kV_int, kV_kV, L2.start, E0, tForZ, zList, zTup, zStr, zRng1, zRng2, zEnumS, zEnumL, zKeys, zVals, zItems, tAugS, rGetL, rSetL, ipI, tyN_new, upd_same, tLcV, tDcZ, tYes, wipe, tLcZ, tScZ, cxOf, RVal, RTup, gTupU, gCons, gNil, tProp, tDGetU, sDPutU, rLenO, rDEqU, tBML, tBML0, tConU, tDNewK, rIsiO, lk_srows]
    refine ⟨_, _, hy1, _, lk_srows, sz2, fun T hT => ?_⟩
    have s2 : Sub H1 (upd H1 T (.tup [V.int (i : Nat), V.int (mem 0 : Nat)])) := Sub.new hT
    refine ⟨T, S, _, [Sum.inl (i : Int), Sum.inl (mem 0 : Int)], V.ref D, rfl, rfl, upd_same, s2.get hS1, by simp [valV], Or.inr (Or.inl ⟨D, rfl, _, by rw [s2.get hD1]; rfl, fun p hp => ?_⟩)⟩
    have s3 := s2.trans (Sub.new (o := .lst (rgN (L + 1) fun s => cntS b mem s 1 (b ^ (L - 1) - 1))) hp)
    have hpn : H1 p = none := (upd_none hp).2
    have npX : ¬ X p := fun hx => hX p hx (by rw [← k1 p hx]; exact hpn)
    have hF1 : H1 F ≠ none := by
      cases R with
      | none => rw [show H1 F = _ from r1]; nofun
      | some r => rw [r1.1]; nofun
    refine q R p _ ((r1.new fun a ha => ?_).sub s3) (fun z hz => ?_) npX (fun e => ?_) upd_same
    · rcases ha with ha | rfl
      · exact Or.inl (Or.inl ha)
      · exact Or.inr hpn
    · have : H1 z ≠ none := by rw [k1 z hz]; exact hX z hz
      rw [s3 z this, k1 z hz]
    · exact hF1 (by rw [← e]; exact hpn)
end
end K74

set_option Elab.async false
set_option linter.all false
set_option maxRecDepth 100000
set_option maxHeartbeats 4000000
namespace K74
open PySem PySem.Spec PyProof.Rows L2 G
section
variable {P : Program} {w : World} {K : PySem.W.Frag} {mg : Str → Option Value} {base : Heap}
theorem rg_ints {b : Nat} {mem : Nat → Nat} : rgN b mem = ((List.range' 0 b).map fun d => ((mem d : Nat) : Int)).map V.int := by
  unfold rgN
  rw [List.map_map, List.range_eq_range']
  rfl
theorem cut_rg {b lo hi : Nat} {mem : Nat → Nat} (h1 : lo ≤ hi) (h2 : hi ≤ b) : cutV (rgN b mem) (some (lo : Int)) (some (hi : Int)) = ((List.range' lo (hi - lo)).map fun d => ((mem d : Nat) : Int)).map V.int := by
  unfold cutV
  rw [HT.sIx_nat, HT.sIx_nat, rgN_len, show min lo b = lo by omega, show min hi b = hi by omega]
  apply List.ext_getElem
  · simp [rgN]
    omega
  · intro j g1 g2
    simp [rgN]
def sp_ShareCounts_by_share (K : PySem.W.Frag) : Sp := fun vs H Q _ => ∃ (y dy e F S M : Addr) (b n : Nat) (mem : Nat → Nat) (X : Addr → Prop), vs = [.ref y, .ref M] ∧ H y = some (.ins (He.ga K "ShareCounts") dy (scF b e F S)) ∧
  H e = some (.lst ((rw' b n).map fun d : Nat => V.int (d : Nat))) ∧ H M = some (.lst (rgN b mem)) ∧ (rw' b n).length ≤ 110 ∧ H F = some (.dK []) ∧ H S = some (.dT []) ∧ (∀ z, X z → H z ≠ none) ∧ ¬ X F ∧ ¬ X S ∧ X y ∧ X e ∧ X M ∧ (∀ d, mem d ≤ 1) ∧ 2 ≤ b ∧ b ≤ 10 ∧
  ∀ D H', (∀ z, X z → H' z = H z) → ¬ X D → H' D = some (.lst (rgN ((rw' b n).length + 1) fun s => cntS b mem s 1 n)) → Q (.ref D) H'
theorem ok_ShareCounts_by_share (T : Txt K mg) : FnOk P w K mg base CX0 3 (He.ma K (He.ga K "ShareCounts") "by_share") T.fd_ShareCounts_by_share ["self", "members"] (sp_ShareCounts_by_share K) := by
  refine FunD.ok T.F_ShareCounts_by_share sc_ShareCounts_by_share (fun vs H Q E h => ?_) fun cdv A outer s H vs Q E hr h => ⟨_, PSs.nox (pss_cutG (ps_par (i := 2) (j := 3) rfl sc_ShareCounts_by_share.nd rfl rfl (by decide) rfl rfl (pa_cons (pe_callB (call_sumU rfl) rfl T.f_sum boot_sum (pa_cons (pv 1) pa_nil)) (pa_cons pe_int pa_nil)) rfl)
      (pss_cutG (ps_set (i := 4) sc_ShareCounts_by_share.nd rfl (by first | exact Or.inl rfl | exact Or.inr rfl) (pe_meth (pv 0) T.cls_ShareCounts T.me_ShareCounts_shorter (ok_ShareCounts_shorter T) (hr.mono (by omega)) (b_ShareCounts_shorter T) .nil pass0 (pa_cons (pv 2) (pa_cons (pe_ix (ix_U (hu_of hr)) (pv 1) pe_int (fun _ _ => rfl)) pa_nil))))
      (pss_cutG (ps_forZ PassesOwn.never rfl (z_enumL (by exact rfl) T.f_enumerate (pa_cons (pe_fldU (C := He.ga K "ShareCounts") T.cls_ShareCounts T.na_ShareCounts_places (pv 0) rfl) pa_nil)) (pg_tupU (n := 2) rfl (pgs_cons (pg_name (i := 5) sc_ShareCounts_by_share.nd rfl (by first | exact Or.inl rfl | exact Or.inr rfl)) (pgs_cons (pg_name (i := 6) sc_ShareCounts_by_share.nd rfl (by first | exact Or.inl rfl | exact Or.inr rfl)) pgs_nil))) (pss_cutG (ps_set (i := 7) sc_ShareCounts_by_share.nd rfl (by first | exact Or.inl rfl | exact Or.inr rfl) (pe_ifExp (pt_cmpR (op_eqU (hu0 hr)) (pv 5) pe_int (nomark _)) pe_int pe_int))
      (pss_cutG (ps_set (i := 8) sc_ShareCounts_by_share.nd rfl (by first | exact Or.inl rfl | exact Or.inr rfl) (pe_callB (call_sumU rfl) rfl T.f_sum boot_sum (pa_cons (pe_slice sl_U (pv 1) (po_some (pv 7)) (po_some (pv 6))) pa_nil)))
      (pss_cutG (ps_expr (pe_call (ok_add_row T) (hr.mono (by omega)) rfl T.g_add_row T.F_add_row.kp (b_add_row T) .nil pass0 (pa_cons (pv 4) (pa_cons (pe_meth (pv 0) T.cls_ShareCounts T.me_ShareCounts_free (ok_ShareCounts_free T) (hr.mono (by omega)) (b_ShareCounts_free T) .nil pass0 (pa_cons (pv 2) (pa_cons (pe_op op_sub (pe_op op_sub (pe_callB call_lenU rfl T.f_len boot_len (pa_cons (pe_fldU (C := He.ga K "ShareCounts") T.cls_ShareCounts T.na_ShareCounts_places (pv 0) rfl) pa_nil)) pe_int) (pv 5)) pa_nil))) (pa_cons (pv 3) (pa_cons (pe_tup (pa_cons (pv 8) (pa_cons (pe_op op_sub (pe_callB (call_max2U rfl) rfl T.f_max boot_max (pa_cons pe_int (pa_cons (pe_op op_sub (pv 6) (pv 7)) pa_nil))) (pv 8)) pa_nil))) pa_nil))))))
      (pss_one (ps_aug (i := 3) sc_ShareCounts_by_share.nd rfl (by first | exact Or.inl rfl | exact Or.inr rfl) (pe_ix (ix_U (hu_of hr)) (pv 1) (pv 6) (fun _ _ => rfl)) ip_add))))))
      (pss_cutG (ps_if (pt_cmpR (op_neU (hu0 hr)) (pe_fldU (C := He.ga K "ShareCounts") T.cls_ShareCounts T.na_ShareCounts_places (pv 0) rfl) (pe_lst pa_nil) (nomark _)) (pss_one (ps_augS (pv 4) (pv 3) pget_list pe_int ip_add set_list)) pss_nil)
      (pss_one (ps_ret (pv 4))))))), ?_⟩
  · obtain ⟨y, dy, e, F, S, M, b, n, mem, X, rfl, _⟩ := h
    rfl
  · obtain ⟨y, dy, e, F, S, M, b, n, mem, X, rfl, hy, he, hM, hL2, hF, hS, hX, hXF, hXS, hXy, hXe, hXM, hm, hb, hb2, q⟩ := h
    have hsl := sizeLine_eq
    obtain ⟨i, hi⟩ : ∃ i, memS mem 0 b = i := ⟨_, rfl⟩
    have hib : i ≤ b := by rw [← hi]; exact memS_le hm 0 b
    obtain ⟨L, hLe⟩ : ∃ L, (rw' b n).length = L := ⟨_, rfl⟩
    rw [hLe] at q hL2
    have hs0 : (((List.range' 0 b).map fun d => ((mem d : Nat) : Int))).sum = (i : Nat) := by rw [memS_list, hi]
    show tCutG _ _ _ _ _
    refine ⟨fun σ H1 => σ = [some (V.ref y), some (V.ref M), some (V.int i), some (V.int 0), none, none, none, none, none] ∧ H1 = H, ?_, ?_⟩
    · simp [tRet, tRetN, tDrop, tAsg, gName, tSeq, tNext, tIfS, tAndV, tOrV, tNotV, tAnd, tOr, tNot, tB, tTest, tVar, tC, tOp, tUn, tCons, tNil, tTup, tLst, tCB, tBM, tBM0, tM1, tM0, tCall, tMeth, tMake, tFldU, sFldU, tChain, tIf, tPar, tPar3, tAug, tDisp, tPairs, tDGet2, sDPut, rIsiU, rIsiTU, rLenU, rIxU, rInU, rNilU, rEqU, rNeU, rEq, rNe, rMax2U, rMin2U, rInt1U, rAbsU, scal, rAddU, rMulU, rI0, rI, rU, rListU, rTupU, rSumU, rAllU, rAnyU, rDictU, rSlU, tSl, tPart, tNoPart, rAppend, rExtend, rPop, rPopAt, rJoinU, rRepr, tSumVals, tyN_non, tyN_bl, tyN_int, tyN_str, tyN_ref, tyO_lst, tyO_tup, tyO_dK, tyO_flst, tyO_ftup, tyO_fdK, and_assoc, tyList, isT, tyAsk, lk_none, lk_frz, lk_lst, lk_tup, lk_dK, lk_ins, kV_str, kV_int, kV_kV, L2.start, E0, tForZ, zList, zTup, zStr, zRng1, zRng2, zEnumS, zEnumL, zKeys, zVals, zItems, tAugS, rGetL, rSetL, ipI, tyN_new, upd_same, tLcV, tDcZ, tYes, wipe, tLcZ, tScZ, cxOf, RVal, RTup, gTupU, gCons, gNil, tProp, tDGetU, sDPutU, rLenO, rDEqU, tBML, tBML0, tConU, tDNewK, rIsiO, hM]
      refine ⟨_, rg_ints, ?_⟩
      rw [hs0]
    rintro σ H1 ⟨rfl, rfl⟩
    show tCutG _ _ _ _ _
    refine ⟨fun σ H2 => ∃ (R : Option Addr) (D : Addr), σ = [some (V.ref y), some (V.ref M), some (V.int i), some (V.int 0), some (V.ref D), none, none, none, none] ∧ RowsAt (fun a => X a ∨ a = D) b i H2 F R ∧ (∀ z, X z → H2 z = H1 z) ∧ ¬ X D ∧ D ≠ F ∧ H2 D = some (.lst (rgN (L + 1) fun s => cntS b mem s 1 (curB b n L 0 - 1))), ?_, ?_⟩
    · simp only [tAsg, tMeth, tCons, tNil]
      refine ⟨_, rfl, y, dy, _, rfl, hy, by rfl, _, rfl, ?_⟩
      show tOp rIxU (tVar 1) (tC (V.int 0)) _ _ _
      refine ⟨_, rfl, Or.inr (Or.inl ⟨M, rgN b mem, 0, V.int (mem 0 : Nat), rfl, rfl, by rw [hM]; rfl, rgN_at (j := 0) (by omega), ?_⟩)⟩
      refine ⟨y, dy, e, F, S, b, i, L, mem, rw' b n, X, rfl, hy, he, hLe, hL2, hF, hS, hX, hXF, hXS, hXy, hXe, hm, hi, hib, hb, hb2, fun R D H' r' k' nX nF l' => ?_⟩
      exact ⟨R, D, rfl, r', k', nX, nF, by rw [l']; rfl⟩
    rintro σ H2 ⟨R, D, rfl, r2, k2, nXD, nDF, l2⟩
    show tCutG _ _ _ _ _
    refine ⟨fun σ H3 => ∃ (R : Option Addr) (x5 x6 x7 x8 : Option V), σ = [some (V.ref y), some (V.ref M), some (V.int i), some (V.int (shr b mem n : Nat)), some (V.ref D), x5, x6, x7, x8] ∧ (∀ z, X z → H3 z = H1 z) ∧ H3 D = some (.lst (rgN (L + 1) fun s => cntS b mem s 1 (curB b n L L - 1))), ?_, ?_⟩
    · obtain ⟨Pv, hPv⟩ : ∃ Pv : Nat → L2.St → Hp → Prop, Pv = fun j σ H3 => ∃ (R : Option Addr) (x5 x6 x7 x8 : Option V), σ = [some (V.ref y), some (V.ref M), some (V.int i), some (V.int (shr b mem (n / b ^ (L - j)) : Nat)), some (V.ref D), x5, x6, x7, x8] ∧ RowsAt (fun a => X a ∨ a = D) b i H3 F R ∧ (∀ z, X z → H3 z = H1 z) ∧ H3 D = some (.lst (rgN (L + 1) fun s => cntS b mem s 1 (curB b n L j - 1))) := ⟨_, rfl⟩
      have hy2 : H2 y = some (.ins (He.ga K "ShareCounts") dy (scF b e F S)) := by rw [k2 y hXy]; exact hy
      have he2 : ∀ H' : Hp, (∀ z, X z → H' z = H1 z) → H' e = some (.lst ((rw' b n).map fun d : Nat => V.int (d : Nat))) := fun H' k => by rw [k e hXe]; exact he
      show tForZ _ _ _ _ _ _
      refine ⟨_, rfl, y, dy, _, V.ref e, rfl, hy2, by rfl, e, _, rfl, by rw [he2 H2 k2]; rfl, ?_⟩
      have h0 : n / b ^ (L - 0) = 0 := by
        rcases Nat.eq_zero_or_pos n with q | q
        · rw [q, Nat.zero_div]
        · obtain ⟨m, em, g1, g2⟩ := rw_bounds hb n q
          rw [Nat.sub_zero, ← hLe, em]
          exact Nat.div_eq_of_lt g2
      refine loop_ix Pv (by rw [hPv]; exact ⟨R, _, _, _, _, by rw [h0]; rfl, r2, k2, l2⟩) (fun j σ H' hP => by rw [hPv] at hP; obtain ⟨_, _, _, _, _, _, _, k, _⟩ := hP; rw [he2 H' k]; rfl) ?_ ?_
      · intro j z σ H4 v H5 hz hP hr
        rw [hPv] at hP
        obtain ⟨R, x5, x6, x7, x8, rfl, r4, k4, l4⟩ := hP
        obtain ⟨T, rfl, hT, s5, e5⟩ := rtup hr
        obtain ⟨z1, z2⟩ := zipIdx_get hz
        obtain ⟨zv, zj⟩ := z
        obtain rfl : zj = j := z1
        rw [List.getElem?_map] at z2
        obtain ⟨Dj, hDj, z3⟩ := Option.map_eq_some_iff.mp z2
        obtain rfl : zv = V.int (Dj : Nat) := z3.symm
        have hj : zj < L := by rw [← hLe]; exact (List.getElem?_eq_some_iff.mp hDj).1
        obtain ⟨lo, hlo⟩ : ∃ lo, lo = if zj = 0 then 1 else 0 := ⟨_, rfl⟩
        obtain ⟨_, hDb, _⟩ := digit_facts hb hLe hj hDj
        have hst := step_ways hm hb hi hLe hj hDj hlo
        obtain ⟨g1, g2, g3, _⟩ := hst 0
        have hst := fun s => (hst s).2.2.2
        have live : ∀ z, (X z ∨ z = D) → H4 z ≠ none := fun z hz => by
          rcases hz with hz | rfl
          · rw [k4 z hz]
            exact hX z hz
          · rw [l4]
            nofun
        have k5 : ∀ z, X z → H5 z = H1 z := fun z hz => by rw [s5 z (live z (Or.inl hz)), k4 z hz]
        have l5 := s5.get l4
        have r5 := r4.sub s5
        have hy5 : H5 y = some (.ins (He.ga K "ShareCounts") dy (scF b e F S)) := by rw [k5 y hXy]; exact hy
        have hM5 : H5 M = some (.lst (rgN b mem)) := by rw [k5 M hXM]; exact hM
        simp [tRet, tRetN, tDrop, tAsg, gName, tSeq, tNext, tIfS, tAndV, tOrV, tNotV, tAnd, tOr, tNot, tB, tTest, tVar, tC, tOp, tUn, tCons, tNil, tTup, tLst, tCB, tBM, tBM0, tM1, tM0, tCall, tMeth, tMake, tFldU, sFldU, tChain, tIf, tPar, tPar3, tAug, tDisp, tPairs, tDGet2, sDPut, rIsiU, rIsiTU, rLenU, rIxU, rInU, rNilU, rEqU, rNeU, rEq, rNe, rMax2U, rMin2U, rInt1U, rAbsU, scal, rAddU, rMulU, rI0, rI, rU, rListU, rTupU, rSumU, rAllU, rAnyU, rDictU, rSlU, tSl, tPart, tNoPart, rAppend, rExtend, rPop, rPopAt, rJoinU, rRepr, tSumVals, tyN_non, tyN_bl, tyN_int, tyN_str, tyN_ref, tyO_lst, tyO_tup, tyO_dK, tyO_flst, tyO_ftup, tyO_fdK, and_assoc, tyList, isT, tyAsk, lk_none, lk_frz, lk_lst, lk_tup, lk_dK, lk_ins, kV_str, kV_int, kV_kV, L2.start, E0, tForZ, zList, zTup, zStr, zRng1, zRng2, zEnumS, zEnumL, zKeys, zVals, zItems, tAugS, rGetL, rSetL, ipI, tyN_new, upd_same, tLcV, tDcZ, tYes, wipe, tLcZ, tScZ, cxOf, RVal, RTup, gTupU, gCons, gNil, tProp, tDGetU, sDPutU, rLenO, rDEqU, tBML, tBML0, tConU, tDNewK, rIsiO, e5]
        obtain ⟨sh, hsh⟩ : ∃ sh, sh = shr b mem (n / b ^ (L - zj)) := ⟨_, rfl⟩
        obtain ⟨ht, hht⟩ : ∃ ht, ht = memS mem lo (Dj - lo) := ⟨_, rfl⟩
        rw [← hsh] at g3 ⊢
        rw [← hht] at g2
        simp only [← hsh, ← hht] at hst
        show tCutG _ _ _ _ _
        refine ⟨fun σ H6 => σ = [some (V.ref y), some (V.ref M), some (V.int i), some (V.int (sh : Nat)), some (V.ref D), some (V.int (zj : Nat)), some (V.int (Dj : Nat)), some (V.int (lo : Nat)), x8] ∧ H6 = H5, ?_, ?_⟩
        · by_cases hz0 : zj = 0
          · simp [tRet, tRetN, tDrop, tAsg, gName, tSeq, tNext, tIfS, tAndV, tOrV, tNotV, tAnd, tOr, tNot, tB, tTest, tVar, tC, tOp, tUn, tCons, tNil, tTup, tLst, tCB, tBM, tBM0, tM1, tM0, tCall, tMeth, tMake, tFldU, sFldU, tChain, tIf, tPar, tPar3, tAug, tDisp, tPairs, tDGet2, sDPut, rIsiU, rIsiTU, rLenU, rIxU, rInU, rNilU, rEqU, rNeU, rEq, rNe, rMax2U, rMin2U, rInt1U, rAbsU, scal, rAddU, rMulU, rI0, rI, rU, rListU, rTupU, rSumU, rAllU, rAnyU, rDictU, rSlU, tSl, tPart, tNoPart, rAppend, rExtend, rPop, rPopAt, rJoinU, rRepr, tSumVals, tyN_non, tyN_bl, tyN_int, tyN_str, tyN_ref, tyO_lst, tyO_tup, tyO_dK, tyO_flst, tyO_ftup, tyO_fdK, and_assoc, tyList, isT, tyAsk, lk_none, lk_frz, lk_lst, lk_tup, lk_dK, lk_ins, kV_str, kV_int, kV_kV, L2.start, E0, tForZ, zList, zTup, zStr, zRng1, zRng2, zEnumS, zEnumL, zKeys, zVals, zItems, tAugS, rGetL, rSetL, ipI, tyN_new, upd_same, tLcV, tDcZ, tYes, wipe, tLcZ, tScZ, cxOf, RVal, RTup, gTupU, gCons, gNil, tProp, tDGetU, sDPutU, rLenO, rDEqU, tBML, tBML0, tConU, tDNewK, rIsiO, hz0, hlo]
          · simp [tRet, tRetN, tDrop, tAsg, gName, tSeq, tNext, tIfS, tAndV, tOrV, tNotV, tAnd, tOr, tNot, tB, tTest, tVar, tC, tOp, tUn, tCons, tNil, tTup, tLst, tCB, tBM, tBM0, tM1, tM0, tCall, tMeth, tMake, tFldU, sFldU, tChain, tIf, tPar, tPar3, tAug, tDisp, tPairs, tDGet2, sDPut, rIsiU, rIsiTU, rLenU, rIxU, rInU, rNilU, rEqU, rNeU, rEq, rNe, rMax2U, rMin2U, rInt1U, rAbsU, scal, rAddU, rMulU, rI0, rI, rU, rListU, rTupU, rSumU, rAllU, rAnyU, rDictU, rSlU, tSl, tPart, tNoPart, rAppend, rExtend, rPop, rPopAt, rJoinU, rRepr, tSumVals, tyN_non, tyN_bl, tyN_int, tyN_str, tyN_ref, tyO_lst, tyO_tup, tyO_dK, tyO_flst, tyO_ftup, tyO_fdK, and_assoc, tyList, isT, tyAsk, lk_none, lk_frz, lk_lst, lk_tup, lk_dK, lk_ins, kV_str, kV_int, kV_kV, L2.start, E0, tForZ, zList, zTup, zStr, zRng1, zRng2, zEnumS, zEnumL, zKeys, zVals, zItems, tAugS, rGetL, rSetL, ipI, tyN_new, upd_same, tLcV, tDcZ, tYes, wipe, tLcZ, tScZ, cxOf, RVal, RTup, gTupU, gCons, gNil, tProp, tDGetU, sDPutU, rLenO, rDEqU, tBML, tBML0, tConU, tDNewK, rIsiO, hz0, hlo]
        rintro σ H6 ⟨rfl, rfl⟩
        show tCutG _ _ _ _ _
        refine ⟨fun σ H7 => σ = [some (V.ref y), some (V.ref M), some (V.int i), some (V.int (sh : Nat)), some (V.ref D), some (V.int (zj : Nat)), some (V.int (Dj : Nat)), some (V.int (lo : Nat)), some (V.int (ht : Nat))] ∧ Sub H6 H7, ?_, ?_⟩
        · simp [tRet, tRetN, tDrop, tAsg, gName, tSeq, tNext, tIfS, tAndV, tOrV, tNotV, tAnd, tOr, tNot, tB, tTest, tVar, tC, tOp, tUn, tCons, tNil, tTup, tLst, tCB, tBM, tBM0, tM1, tM0, tCall, tMeth, tMake, tFldU, sFldU, tChain, tIf, tPar, tPar3, tAug, tDisp, tPairs, tDGet2, sDPut, rIsiU, rIsiTU, rLenU, rIxU, rInU, rNilU, rEqU, rNeU, rEq, rNe, rMax2U, rMin2U, rInt1U, rAbsU, scal, rAddU, rMulU, rI0, rI, rU, rListU, rTupU, rSumU, rAllU, rAnyU, rDictU, rSlU, tSl, tPart, tNoPart, rAppend, rExtend, rPop, rPopAt, rJoinU, rRepr, tSumVals, tyN_non, tyN_bl, tyN_int, tyN_str, tyN_ref, tyO_lst, tyO_tup, tyO_dK, tyO_flst, tyO_ftup, tyO_fdK, and_assoc, tyList, isT, tyAsk, lk_none, lk_frz, lk_lst, lk_tup, lk_dK, lk_ins, kV_str, kV_int, kV_kV, L2.start, E0, tForZ, zList, zTup, zStr, zRng1, zRng2, zEnumS, zEnumL, zKeys, zVals, zItems, tAugS, rGetL, rSetL, ipI, tyN_new, upd_same, tLcV, tDcZ, tYes, wipe, tLcZ, tScZ, cxOf, RVal, RTup, gTupU, gCons, gNil, tProp, tDGetU, sDPutU, rLenO, rDEqU, tBML, tBML0, tConU, tDNewK, rIsiO, hM5]
          refine fun p hp => ⟨_, cut_rg g1 (by omega), ?_, Sub.new hp⟩
          rw [memS_list, hht]
        rintro σ H7 ⟨rfl, s7⟩
        have hy7 := s7.get hy5
        have r7 := r5.sub s7
        have l7 := s7.get l5
        have live7 : ∀ z, (X z ∨ z = D) → H7 z ≠ none := fun z hz => by rw [s7 z (by rw [s5 z (live z hz)]; exact live z hz), s5 z (live z hz)]; exact live z hz
        have k7 : ∀ z, X z → H7 z = H1 z := fun z hz => by rw [s7 z (by rw [k5 z hz]; exact hX z hz), k5 z hz]
        have he7 := he2 H7 k7
        show tCutG _ _ _ _ _
        refine ⟨fun σ H8 => ∃ R, σ = [some (V.ref y), some (V.ref M), some (V.int i), some (V.int (sh : Nat)), some (V.ref D), some (V.int (zj : Nat)), some (V.int (Dj : Nat)), some (V.int (lo : Nat)), some (V.int (ht : Nat))] ∧ RowsAt (fun a => X a ∨ a = D) b i H8 F R ∧ (∀ z, X z → H8 z = H1 z) ∧ H8 D = some (.lst (rgN (L + 1) fun s => cntS b mem s 1 (curB b n L (zj + 1) - 1))), ?_, ?_⟩
        · simp only [tDrop, tCall, tMeth, tCons, tNil, tTup]
          refine ⟨_, rfl, _, rfl, y, dy, _, rfl, hy7, by rfl, _, rfl, ?_⟩
          simp [tRet, tRetN, tDrop, tAsg, gName, tSeq, tNext, tIfS, tAndV, tOrV, tNotV, tAnd, tOr, tNot, tB, tTest, tVar, tC, tOp, tUn, tCons, tNil, tTup, tLst, tCB, tBM, tBM0, tM1, tM0, tCall, tMeth, tMake, tFldU, sFldU, tChain, tIf, tPar, tPar3, tAug, tDisp, tPairs, tDGet2, sDPut, rIsiU, rIsiTU, rLenU, rIxU, rInU, rNilU, rEqU, rNeU, rEq, rNe, rMax2U, rMin2U, rInt1U, rAbsU, scal, rAddU, rMulU, rI0, rI, rU, rListU, rTupU, rSumU, rAllU, rAnyU, rDictU, rSlU, tSl, tPart, tNoPart, rAppend, rExtend, rPop, rPopAt, rJoinU, rRepr, tSumVals, tyN_non, tyN_bl, tyN_int, tyN_str, tyN_ref, tyO_lst, tyO_tup, tyO_dK, tyO_flst, tyO_ftup, tyO_fdK, and_assoc, tyList, isT, tyAsk, lk_none, lk_frz, lk_lst, lk_tup, lk_dK, lk_ins, kV_str, kV_int, kV_kV, L2.start, E0, tForZ, zList, zTup, zStr, zRng1, zRng2, zEnumS, zEnumL, zKeys, zVals, zItems, tAugS, rGetL, rSetL, ipI, tyN_new, upd_same, tLcV, tDcZ, tYes, wipe, tLcZ, tScZ, cxOf, RVal, RTup, gTupU, gCons, gNil, tProp, tDGetU, sDPutU, rLenO, rDEqU, tBML, tBML0, tConU, tDNewK, rIsiO, hy7, lk_places, he7, hLe]
          have hwy : ∀ t, wy b i (L - 1 - zj) t ≤ 10 ^ 110 := fun t => Nat.le_trans (wy_le hib _ t) (Nat.le_trans (Nat.pow_le_pow_left hb2 _) (Nat.pow_le_pow_right (by decide) (by omega)))
          have hshl : sh ≤ zj := by
            have h1 := shr_len (b := b) hm (n / b ^ (L - zj))
            have h2 := congrArg List.length (rw_take hb n (L - zj) (by omega))
            rw [List.length_take, hLe] at h2
            omega
          refine Or.inl ⟨y, dy, e, F, S, b, i, L - 1 - zj, (fun a => X a ∨ a = D), R, ?_, hy7, r7, live7, fun hx => (by rcases hx with hx | hx; exact hXF hx; exact nDF hx.symm), Or.inl hXy, hib, hb, hb2, by omega, fun r a H8 r8 k8 l8 nXa => ⟨sz2, fun T hT => ?_⟩⟩
          · rw [show ((L : Int) - 1 - (zj : Nat)) = ((L - 1 - zj : Nat) : Int) by omega]
          have e2 : max 0 ((Dj : Int) - (lo : Nat)) - (ht : Nat) = ((Dj - lo - ht : Nat) : Int) := by omega
          rw [e2]
          have s9 := Sub.new (o := .tup [V.int (ht : Nat), V.int ((Dj - lo - ht : Nat) : Int)]) hT
          have hD8 : H8 D = some (.lst (rgN (L + 1) fun s => cntS b mem s 1 (curB b n L zj - 1))) := by rw [k8 D (Or.inr rfl)]; exact l7
          refine ⟨D, a, T, sh, ht, Dj - lo - ht, L + 1, L - 1 - zj + 1, _, wy b i (L - 1 - zj), rfl, fun e => nXa (Or.inr e.symm), s9.get hD8, s9.get l8, upd_same, by omega, by omega, by omega, fun t _ => hwy t, fun H9 sx l9 => ⟨⟨some r, (r8.sub s9).subx (Or.inr rfl) nDF.symm sx⟩, fun z hz => ?_, ?_⟩⟩
          · have hzn : z ≠ D := fun e => nXD (by rw [← e]; exact hz)
            have q6 : H8 z ≠ none := by rw [k8 z (Or.inl hz)]; exact live7 z (Or.inl hz)
            have q7 := s9 z q6
            rw [sx z hzn (by rw [q7]; exact q6), q7, k8 z (Or.inl hz), k7 z hz]
          · rw [l9]
            congr 2
            apply rgN_ext
            intro s _
            rw [laid_wz, laid_wz, hst s]
        rintro σ H8 ⟨R8, rfl, r8, k8, l8⟩
        have hM8 : H8 M = some (.lst (rgN b mem)) := by rw [k8 M hXM]; exact hM
        simp [tRet, tRetN, tDrop, tAsg, gName, tSeq, tNext, tIfS, tAndV, tOrV, tNotV, tAnd, tOr, tNot, tB, tTest, tVar, tC, tOp, tUn, tCons, tNil, tTup, tLst, tCB, tBM, tBM0, tM1, tM0, tCall, tMeth, tMake, tFldU, sFldU, tChain, tIf, tPar, tPar3, tAug, tDisp, tPairs, tDGet2, sDPut, rIsiU, rIsiTU, rLenU, rIxU, rInU, rNilU, rEqU, rNeU, rEq, rNe, rMax2U, rMin2U, rInt1U, rAbsU, scal, rAddU, rMulU, rI0, rI, rU, rListU, rTupU, rSumU, rAllU, rAnyU, rDictU, rSlU, tSl, tPart, tNoPart, rAppend, rExtend, rPop, rPopAt, rJoinU, rRepr, tSumVals, tyN_non, tyN_bl, tyN_int, tyN_str, tyN_ref, tyO_lst, tyO_tup, tyO_dK, tyO_flst, tyO_ftup, tyO_fdK, and_assoc, tyList, isT, tyAsk, lk_none, lk_frz, lk_lst, lk_tup, lk_dK, lk_ins, kV_str, kV_int, kV_kV, L2.start, E0, tForZ, zList, zTup, zStr, zRng1, zRng2, zEnumS, zEnumL, zKeys, zVals, zItems, tAugS, rGetL, rSetL, ipI, tyN_new, upd_same, tLcV, tDcZ, tYes, wipe, tLcZ, tScZ, cxOf, RVal, RTup, gTupU, gCons, gNil, tProp, tDGetU, sDPutU, rLenO, rDEqU, tBML, tBML0, tConU, tDNewK, rIsiO, hM8]
        refine ⟨_, rgN_at (by omega), _, rfl, ?_⟩
        have es : V.int ((sh : Int) + ((mem Dj : Nat) : Int)) = V.int ((shr b mem (n / b ^ (L - (zj + 1))) : Nat) : Int) := by
          rw [g3]
          push_cast
          rfl
        rw [hPv, es]
        exact ⟨R8, _, _, _, _, rfl, r8, k8, l8⟩
      · intro σ H4 hP
        rw [hPv] at hP
        obtain ⟨R, x5, x6, x7, x8, rfl, r4, k4, l4⟩ := hP
        rw [List.length_zipIdx, List.length_map, hLe] at l4
        refine ⟨R, x5, x6, x7, x8, ?_, k4, l4⟩
        rw [List.length_zipIdx, List.length_map, hLe, Nat.sub_self, Nat.pow_zero, Nat.div_one]
    rintro σ H3 ⟨R3, x5, x6, x7, x8, rfl, k3, l3⟩
    show tCutG _ _ _ _ _
    refine ⟨fun σ H4 => ∃ (x5 x6 x7 x8 : Option V), σ = [some (V.ref y), some (V.ref M), some (V.int i), some (V.int (shr b mem n : Nat)), some (V.ref D), x5, x6, x7, x8] ∧ (∀ z, X z → H4 z = H1 z) ∧ H4 D = some (.lst (rgN (L + 1) fun s => cntS b mem s 1 n)), ?_, ?_⟩
    · have hy3 : H3 y = some (.ins (He.ga K "ShareCounts") dy (scF b e F S)) := by rw [k3 y hXy]; exact hy
      have he3 : H3 e = some (.lst ((rw' b n).map fun d : Nat => V.int (d : Nat))) := by rw [k3 e hXe]; exact he
      simp [tRet, tRetN, tDrop, tAsg, gName, tSeq, tNext, tIfS, tAndV, tOrV, tNotV, tAnd, tOr, tNot, tB, tTest, tVar, tC, tOp, tUn, tCons, tNil, tTup, tLst, tCB, tBM, tBM0, tM1, tM0, tCall, tMeth, tMake, tFldU, sFldU, tChain, tIf, tPar, tPar3, tAug, tDisp, tPairs, tDGet2, sDPut, rIsiU, rIsiTU, rLenU, rIxU, rInU, rNilU, rEqU, rNeU, rEq, rNe, rMax2U, rMin2U, rInt1U, rAbsU, scal, rAddU, rMulU, rI0, rI, rU, rListU, rTupU, rSumU, rAllU, rAnyU, rDictU, rSlU, tSl, tPart, tNoPart, rAppend, rExtend, rPop, rPopAt, rJoinU, rRepr, tSumVals, tyN_non, tyN_bl, tyN_int, tyN_str, tyN_ref, tyO_lst, tyO_tup, tyO_dK, tyO_flst, tyO_ftup, tyO_fdK, and_assoc, tyList, isT, tyAsk, lk_none, lk_frz, lk_lst, lk_tup, lk_dK, lk_ins, kV_str, kV_int, kV_kV, L2.start, E0, tForZ, zList, zTup, zStr, zRng1, zRng2, zEnumS, zEnumL, zKeys, zVals, zItems, tAugS, rGetL, rSetL, ipI, tyN_new, upd_same, tLcV, tDcZ, tYes, wipe, tLcZ, tScZ, cxOf, RVal, RTup, gTupU, gCons, gNil, tProp, tDGetU, sDPutU, rLenO, rDEqU, tBML, tBML0, tConU, tDNewK, rIsiO, hy3, lk_places]
      intro p hp
      have s4 := Sub.new (o := .lst []) hp
      have k4 : ∀ z, X z → upd H3 p (.lst []) z = H1 z := fun z hz => by rw [s4 z (by rw [k3 z hz]; exact hX z hz), k3 z hz]
      refine ⟨_, by rw [s4.get he3]; rfl, ?_⟩
      by_cases hL0 : L = 0
      · have hn0 : n = 0 := by
          rcases Nat.eq_zero_or_pos n with q | q
          · exact q
          · have := congrArg List.length (rw_pos hb q)
            rw [hLe, hL0] at this
            simp at this
        subst hn0
        refine Or.inl ⟨rfl, k4, ?_⟩
        rw [s4.get l3, hL0]
        have e0 : curB b 0 0 0 - 1 = 0 := by simp [curB]
        first
          | rw [e0]
          | (congr 2; apply rgN_ext; intro s _; rw [e0])
      · have hn0 : n ≠ 0 := by
          rintro rfl
          rw [rw_zero] at hLe
          exact hL0 hLe.symm
        have hsl2 := shr_len (b := b) hm n
        rw [hLe] at hsl2
        refine Or.inr ⟨fun e0 => ?_, _, by rw [s4.get l3]; rfl, _, rgN_ix (by omega), _, rfl, _, s4.get l3, _, by rw [rgN_len]; exact ixN_at (by omega), fun z hz => ?_, ?_⟩
        · have := congrArg List.length e0
          rw [List.length_map, hLe] at this
          exact hL0 this
        · rw [upd_ne (fun e => nXD (by rw [← e]; exact hz)), k4 z hz]
        · have e1 : ∀ x : Nat, V.int ((x : Int) + 1) = V.int ((x : Int) + ((1 : Nat) : Int)) := fun _ => rfl
          have ec : curB b n L L = n := by
            unfold curB
            rw [if_neg hL0, Nat.sub_self, Nat.pow_zero, Nat.div_one, Nat.mul_one]
          rw [e1, setN, ec]
          apply rgN_ext
          intro d _
          obtain ⟨k, rfl⟩ : ∃ k, n = k + 1 := ⟨n - 1, by omega⟩
          rw [Nat.add_sub_cancel]
          show _ = cntS b mem d 1 k + if shr b mem (1 + k) = d then 1 else 0
          rw [Nat.add_comm 1 k]
          by_cases c : d = shr b mem (k + 1)
          · subst c
            rw [if_pos rfl, if_pos rfl]
          · rw [if_neg c, if_neg (fun e => c e.symm)]
            rfl
    rintro σ H4 ⟨x5, x6, x7, x8, rfl, k4, l4⟩
    exact ⟨_, rfl, q D H4 k4 nXD l4⟩
end
end K74

set_option Elab.async false
set_option linter.all false
set_option maxRecDepth 100000
set_option maxHeartbeats 4000000
namespace K74
open PySem PySem.Spec PyProof.Rows L2 G
section
variable {P : Program} {w : World} {K : PySem.W.Frag} {mg : Str → Option Value} {base : Heap}
def sp_share_count (K : PySem.W.Frag) : Sp := fun vs H Q _ => ∃ (M : Addr) (b n s : Nat) (mem : Nat → Nat), vs = [.int n, .ref M, .int s] ∧ H M = some (.lst (rgN b mem)) ∧ (∀ d, mem d ≤ 1) ∧ 2 ≤ b ∧ b ≤ 10 ∧ n ≤ 10 ^ 31 ∧ ∀ H', Sub H H' → Q (.int (cntS b mem s 1 n : Nat)) H'
theorem ok_share_count (T : Txt K mg) : FnOk P w K mg base CX0 4 (He.ga K "share_count") T.fd_share_count ["last", "members", "share"] (sp_share_count K) := by
  refine FunD.ok T.F_share_count sc_share_count (fun vs H Q E h => ?_) fun cdv A outer s H vs Q E hr h => ⟨_, PSs.nox (pss_cutG (ps_set (i := 3) sc_share_count.nd rfl (by first | exact Or.inl rfl | exact Or.inr rfl) (pe_meth (pe_make T.mk_ShareCounts (ok_ShareCounts_ddinitdd T) (hr.mono (by omega)) rfl T.g_ShareCounts (b_ShareCounts_ddinitdd T) .nil pass0 (pa_cons (pe_callB call_lenU rfl T.f_len boot_len (pa_cons (pv 1) pa_nil)) (pa_cons (pv 0) pa_nil))) T.cls_ShareCounts T.me_ShareCounts_by_share (ok_ShareCounts_by_share T) (hr.mono (by omega)) (b_ShareCounts_by_share T) .nil pass0 (pa_cons (pv 1) pa_nil)))
      (pss_one (ps_ret (pe_ifExp (pt_cmpR op_lt (pv 2) (pe_callB call_lenU rfl T.f_len boot_len (pa_cons (pv 3) pa_nil)) (nomark _)) (pe_ix (ix_U (hu_of hr)) (pv 3) (pv 2) (fun _ _ => rfl)) pe_int)))), ?_⟩
  · obtain ⟨M, b, n, s, mem, rfl, _⟩ := h
    rfl
  · obtain ⟨M, b, n, s, mem, rfl, hM, hm, hb, hb2, hn, q⟩ := h
    have hsl := sizeLine_eq
    obtain ⟨L, hLe⟩ : ∃ L, (rw' b n).length = L := ⟨_, rfl⟩
    have hL : L ≤ 110 := by
      rw [← hLe]
      have h6 := rowS_len (sg := List.replicate b 0) (by rw [List.length_replicate]; exact hb) 110 n (by
        have : (10 : Nat) ^ 31 < 2 ^ 110 := by decide
        omega)
      unfold rowS at h6
      rw [List.length_map, List.length_replicate] at h6
      exact h6
    show tCutG _ _ _ _ _
    refine ⟨fun σ H1 => ∃ D, σ = [some (V.int n), some (V.ref M), some (V.int s), some (V.ref D)] ∧ Sub H H1 ∧ H1 D = some (.lst (rgN (L + 1) fun s => cntS b mem s 1 n)), ?_, ?_⟩
    · simp [tRet, tRetN, tDrop, tAsg, gName, tSeq, tNext, tIfS, tAndV, tOrV, tNotV, tAnd, tOr, tNot, tB, tTest, tVar, tC, tOp, tUn, tCons, tNil, tTup, tLst, tCB, tBM, tBM0, tM1, tM0, tCall, tMeth, tMake, tFldU, sFldU, tChain, tIf, tPar, tPar3, tAug, tDisp, tPairs, tDGet2, sDPut, rIsiU, rIsiTU, rLenU, rIxU, rInU, rNilU, rEqU, rNeU, rEq, rNe, rMax2U, rMin2U, rInt1U, rAbsU, scal, rAddU, rMulU, rI0, rI, rU, rListU, rTupU, rSumU, rAllU, rAnyU, rDictU, rSlU, tSl, tPart, tNoPart, rAppend, rExtend, rPop, rPopAt, rJoinU, rRepr, tSumVals, tyN_non, tyN_bl, tyN_int, tyN_str, tyN_ref, tyO_lst, tyO_tup, tyO_dK, tyO_flst, tyO_ftup, tyO_fdK, and_assoc, tyList, isT, tyAsk, lk_none, lk_frz, lk_lst, lk_tup, lk_dK, lk_ins, kV_str, kV_int, kV_kV, L2.start, E0, tForZ, zList, zTup, zStr, zRng1, zRng2, zEnumS, zEnumL, zKeys, zVals, zItems, tAugS, rGetL, rSetL, ipI, tyN_new, upd_same, tLcV, tDcZ, tYes, wipe, tLcZ, tScZ, cxOf, RVal, RTup, gTupU, gCons, gNil, tProp, tDGetU, sDPutU, rLenO, rDEqU, tBML, tBML0, tConU, tDNewK, rIsiO, hM, rgN_len]
      refine Or.inl fun y dy hy hdy hne => ?_
      have s0 : Sub H (upd (upd H dy (.own y)) y (.ins (He.ga K "ShareCounts") dy [])) := sub_upd (Sub.new hdy) hy
      have g0 : upd (upd H dy (.own y)) y (.ins (He.ga K "ShareCounts") dy []) y = some (.ins (He.ga K "ShareCounts") dy []) := upd_same
      show sp_ShareCounts_ddinitdd K _ (upd (upd H dy (.own y)) y (.ins (He.ga K "ShareCounts") dy [])) _ _
      generalize upd (upd H dy (.own y)) y (.ins (He.ga K "ShareCounts") dy []) = H0 at *
      refine ⟨y, dy, b, n, rfl, g0, hb, hb2, hn, fun H2 e F S sx h1 h2 h3 h4 nF nS ne => ⟨rfl, _, _, h1, no_meth "by_share" (by decide +kernel), ?_⟩⟩
      have s02 : Sub H H2 := fun a ha => by
        have e1 := s0 a ha
        rw [sx a (fun e => ha (by rw [e]; exact hy)) (by rw [e1]; exact ha), e1]
      refine ⟨y, dy, e, F, S, M, b, n, mem, (fun z => H z ≠ none ∨ z = y ∨ z = e), rfl, h1, h2, s02.get hM, by rw [hLe]; exact hL, h3, h4, fun z hz => ?_, fun hx => ?_, fun hx => ?_, Or.inr (Or.inl rfl), Or.inr (Or.inr rfl), Or.inl (by rw [hM]; nofun), hm, hb, hb2, fun D H3 k3 nX l3 => ⟨D, rfl, fun a ha => by rw [k3 a (Or.inl ha), s02 a ha], by rw [hLe] at l3; exact l3⟩⟩
      · rcases hz with hz | rfl | rfl
        · rw [s02 z hz]
          exact hz
        · rw [h1]
          nofun
        · rw [h2]
          nofun
      · rcases hx with hx | rfl | rfl
        · exact hx (s0.none nF)
        · rw [h1] at h3
          cases h3
        · rw [h2] at h3
          cases h3
      · rcases hx with hx | rfl | rfl
        · exact hx (s0.none nS)
        · rw [h1] at h4
          cases h4
        · rw [h2] at h4
          cases h4
    rintro σ H1 ⟨D, rfl, s1, l1⟩
    simp [tRet, tRetN, tDrop, tAsg, gName, tSeq, tNext, tIfS, tAndV, tOrV, tNotV, tAnd, tOr, tNot, tB, tTest, tVar, tC, tOp, tUn, tCons, tNil, tTup, tLst, tCB, tBM, tBM0, tM1, tM0, tCall, tMeth, tMake, tFldU, sFldU, tChain, tIf, tPar, tPar3, tAug, tDisp, tPairs, tDGet2, sDPut, rIsiU, rIsiTU, rLenU, rIxU, rInU, rNilU, rEqU, rNeU, rEq, rNe, rMax2U, rMin2U, rInt1U, rAbsU, scal, rAddU, rMulU, rI0, rI, rU, rListU, rTupU, rSumU, rAllU, rAnyU, rDictU, rSlU, tSl, tPart, tNoPart, rAppend, rExtend, rPop, rPopAt, rJoinU, rRepr, tSumVals, tyN_non, tyN_bl, tyN_int, tyN_str, tyN_ref, tyO_lst, tyO_tup, tyO_dK, tyO_flst, tyO_ftup, tyO_fdK, and_assoc, tyList, isT, tyAsk, lk_none, lk_frz, lk_lst, lk_tup, lk_dK, lk_ins, kV_str, kV_int, kV_kV, L2.start, E0, tForZ, zList, zTup, zStr, zRng1, zRng2, zEnumS, zEnumL, zKeys, zVals, zItems, tAugS, rGetL, rSetL, ipI, tyN_new, upd_same, tLcV, tDcZ, tYes, wipe, tLcZ, tScZ, cxOf, RVal, RTup, gTupU, gCons, gNil, tProp, tDGetU, sDPutU, rLenO, rDEqU, tBML, tBML0, tConU, tDNewK, rIsiO, l1, rgN_len]
    refine Or.inl (ite_all (fun h => ⟨_, rgN_at (by omega), q H1 s1⟩) fun h => ?_)
    have h2 := cntS_big hm hb (s := s) (n := n) (by rw [hLe]; omega)
    have h3 := q H1 s1
    rw [h2] at h3
    exact h3
/-- is the sign of a digit in a set -/
def mf (sg ms : List Nat) (d : Nat) : Nat := (mbs sg ms).getD d 0
theorem mf_le (sg ms : List Nat) (d : Nat) : mf sg ms d ≤ 1 := by
  unfold mf mbs
  rw [List.getD_eq_getElem?_getD, List.getElem?_map]
  cases sg[d]? with
  | none => simp
  | some c =>
    simp
    split <;> omega
theorem mbs_rg (sg ms : List Nat) : ((mbs sg ms).map fun d : Nat => V.int (d : Nat)) = rgN sg.length (mf sg ms) := by
  unfold rgN mf
  apply List.ext_getElem
  · simp [mbs]
  · intro j h1 h2
    have hj : j < (mbs sg ms).length := by simpa using h1
    simp [List.getD_eq_getElem?_getD, hj]
def sp_count_with (K : PySem.W.Frag) : Sp := fun vs H Q _ => ∃ x sg ms, ∃ n s : Nat, vs = [.ref x, .int n, .str (txt ms), .int s] ∧ FontL K H x sg ∧ SgOk sg ∧ (∀ c ∈ ms, c ∈ sg) ∧ ms.Nodup ∧ ms.length ≤ 10 ∧ n ≤ 10 ^ 30 ∧ s ≤ 1000 ∧
  ∀ H', Sub H H' → Q (.int (cntS sg.length (mf sg ms) s 1 n : Nat)) H'
theorem ok_count_with (T : Txt K mg) : FnOk P w K mg base CX0 5 (He.ga K "count_with") T.fd_count_with ["font", "last", "signs", "share"] (sp_count_with K) := by
  refine FunD.ok T.F_count_with sc_count_with (fun vs H Q E h => ?_) fun cdv A outer s H vs Q E hr h => ⟨_, PSs.nox (pss_one (ps_ret (pe_call (ok_share_count T) (hr.mono (by omega)) rfl T.g_share_count T.F_share_count.kp (b_share_count T) .nil pass0 (pa_cons (pv 1) (pa_cons (pe_call (ok_members_for T) (hr.mono (by omega)) rfl T.g_members_for T.F_members_for.kp (b_members_for T) .nil pass0 (pa_cons (pv 0) (pa_cons (pv 1) (pa_cons (pv 2) (pa_cons (pv 3) pa_nil))))) (pa_cons (pv 3) pa_nil)))))), ?_⟩
  · obtain ⟨x, sg, ms, n, s, rfl, _⟩ := h
    rfl
  · obtain ⟨x, sg, ms, n, s, rfl, hF, ok, hms, nd, hml, hn, hs, q⟩ := h
    simp [tRet, tRetN, tDrop, tAsg, gName, tSeq, tNext, tIfS, tAndV, tOrV, tNotV, tAnd, tOr, tNot, tB, tTest, tVar, tC, tOp, tUn, tCons, tNil, tTup, tLst, tCB, tBM, tBM0, tM1, tM0, tCall, tMeth, tMake, tFldU, sFldU, tChain, tIf, tPar, tPar3, tAug, tDisp, tPairs, tDGet2, sDPut, rIsiU, rIsiTU, rLenU, rIxU, rInU, rNilU, rEqU, rNeU, rEq, rNe, rMax2U, rMin2U, rInt1U, rAbsU, scal, rAddU, rMulU, rI0, rI, rU, rListU, rTupU, rSumU, rAllU, rAnyU, rDictU, rSlU, tSl, tPart, tNoPart, rAppend, rExtend, rPop, rPopAt, rJoinU, rRepr, tSumVals, tyN_non, tyN_bl, tyN_int, tyN_str, tyN_ref, tyO_lst, tyO_tup, tyO_dK, tyO_flst, tyO_ftup, tyO_fdK, and_assoc, tyList, isT, tyAsk, lk_none, lk_frz, lk_lst, lk_tup, lk_dK, lk_ins, kV_str, kV_int, kV_kV, L2.start, E0, tForZ, zList, zTup, zStr, zRng1, zRng2, zEnumS, zEnumL, zKeys, zVals, zItems, tAugS, rGetL, rSetL, ipI, tyN_new, upd_same, tLcV, tDcZ, tYes, wipe, tLcZ, tScZ, cxOf, RVal, RTup, gTupU, gCons, gNil, tProp, tDGetU, sDPutU, rLenO, rDEqU, tBML, tBML0, tConU, tDNewK, rIsiO, sp_members_for, sp_share_count]
    refine ⟨sg, ms, n, rfl, rfl, s, rfl, hF, ok, hms, nd, hml, by omega, hs, fun p H1 hp s1 hl => ?_⟩
    rw [mbs_rg] at hl
    exact ⟨p, sg.length, n, rfl, rfl, s, rfl, mf sg ms, hl, mf_le sg ms, ok.lo, ok.hi, by omega, fun H2 s2 => q H2 (s1.trans s2)⟩
end
end K74

set_option Elab.async false
set_option linter.all false
set_option maxRecDepth 100000
set_option maxHeartbeats 4000000
namespace K74
open PySem PySem.Spec PyProof.Rows L2 G
section
variable {P : Program} {w : World} {K : PySem.W.Frag} {mg : Str → Option Value} {base : Heap}
theorem paired_turn {α β γ : Type} {R : α → β → Prop} {S : β → γ → Prop} {g : α → γ} : ∀ {l : List α} {m : List β}, Paired R l m → (∀ a b, R a b → S b (g a)) → Paired S m (l.map g)
  | _, _, .nil, _ => .nil
  | _, _, .cons h t, k => .cons (k _ _ h) (paired_turn t k)
theorem tIxT {i : Nat} {k : Int} {σ : L2.St} {H : Hp} {a : Addr} {xs : List V} {v : V} {Q : VK} (hσ : σ[i]? = some (some (.ref a))) (ha : H a = some (.tup xs)) (hx : atI xs k = some v) (q : Q v H) : tOp rIxU (tVar i) (tC (V.int k)) σ H Q :=
  ⟨_, hσ, Or.inr (Or.inr (Or.inl ⟨a, xs, k, v, rfl, rfl, by rw [ha]; rfl, hx, q⟩))⟩
theorem txt_cons (a : Nat) (l : List Nat) : (⟨#[a]⟩ : Str) ++ txt l = txt (a :: l) := by
  show (Str.mk _) = Str.mk _
  simp [txt]
def sp__law_row (K : PySem.W.Frag) : Sp := fun vs H Q _ => ∃ t sg hp, ∃ n : Nat, vs = [.ref t, .int n] ∧ H t = some (.tup [.str (txt sg), .ref hp]) ∧ SgOk sg ∧ n ≤ 10 ^ 31 ∧ Q (.str (txt (rowS sg n))) H
theorem ok__law_row (T : Txt K mg) : FnOk P w K mg base CX0 1 (He.ga K "_law_row") T.fd__law_row ["_law_font_here", "_law_number"] (sp__law_row K) := by
  refine FunD.ok T.F__law_row sc__law_row (fun vs H Q E h => ?_) fun cdv A outer s H vs Q E hr h => ⟨_, PSs.nox (pss_cons (ps_par (i := 2) (j := 3) rfl sc__law_row.nd rfl rfl (by decide) rfl rfl (pa_cons pe_str (pa_cons (pv 1) pa_nil)) rfl)
      (pss_cons (ps_while PassesOwn.never (pt_cmpR op_gt (pv 3) pe_int (nomark _)) (pss_cutG (ps_set (i := 2) sc__law_row.nd rfl (by first | exact Or.inl rfl | exact Or.inr rfl) (pe_op op_addU (pe_ix (ix_U (hu_of hr)) (pe_ix (ix_U (hu_of hr)) (pv 0) pe_int (fun _ _ => rfl)) (pe_op op_mod (pe_callTy call_int1U rfl T.f_int boot_int (pa_cons (pv 3) pa_nil)) (pe_callB call_lenU rfl T.f_len boot_len (pa_cons (pe_ix (ix_U (hu_of hr)) (pv 0) pe_int (fun _ _ => rfl)) pa_nil))) (fun _ _ => rfl)) (pv 2)))
      (pss_one (ps_set (i := 3) sc__law_row.nd rfl (by first | exact Or.inl rfl | exact Or.inr rfl) (pe_op op_fdivW (pv 3) (pe_callB call_lenU rfl T.f_len boot_len (pa_cons (pe_ix (ix_U (hu_of hr)) (pv 0) pe_int (fun _ _ => rfl)) pa_nil)))))))
      (pss_one (ps_ret (pv 2))))), ?_⟩
  · obtain ⟨t, sg, hp, n, rfl, _⟩ := h
    rfl
  · obtain ⟨t, sg, hp, n, rfl, ht, ok, hn, q⟩ := h
    have hlo := ok.lo
    have hhi := ok.hi
    have hsl := sizeLine_eq
    have e0 : Str.ofString "" = txt [] := by decide +kernel
    have htl := txt_len sg
    simp [tRet, tRetN, tDrop, tAsg, gName, tSeq, tNext, tIfS, tAndV, tOrV, tNotV, tAnd, tOr, tNot, tB, tTest, tVar, tC, tOp, tUn, tCons, tNil, tTup, tLst, tCB, tBM, tBM0, tM1, tM0, tCall, tMeth, tMake, tFldU, sFldU, tChain, tIf, tPar, tPar3, tAug, tDisp, tPairs, tDGet2, sDPut, rIsiU, rIsiTU, rLenU, rIxU, rInU, rNilU, rEqU, rNeU, rEq, rNe, rMax2U, rMin2U, rInt1U, rAbsU, scal, rAddU, rMulU, rI0, rI, rU, rListU, rTupU, rSumU, rAllU, rAnyU, rDictU, rSlU, tSl, tPart, tNoPart, rAppend, rExtend, rPop, rPopAt, rJoinU, rRepr, tSumVals, tyN_non, tyN_bl, tyN_int, tyN_str, tyN_ref, tyO_lst, tyO_tup, tyO_dK, tyO_flst, tyO_ftup, tyO_fdK, and_assoc, tyList, isT, tyAsk, lk_none, lk_frz, lk_lst, lk_tup, lk_dK, lk_ins, kV_str, kV_int, kV_kV, L2.start, E0, tForZ, zList, zTup, zStr, zRng1, zRng2, zEnumS, zEnumL, zKeys, zVals, zItems, tAugS, rGetL, rSetL, ipI, tyN_new, upd_same, tLcV, tDcZ, tYes, wipe, tLcZ, tScZ, cxOf, RVal, RTup, gTupU, gCons, gNil, tProp, tDGetU, sDPutU, rLenO, rDEqU, tBML, tBML0, tConU, tDNewK, rIsiO]
    generalize hB : tCutG _ _ = WB
    refine ⟨fun m σ H' => ∃ (l : Nat) (acc : List Nat), m = l ∧ H' = H ∧ σ = [some (V.ref t), some (V.int n), some (V.str (txt acc)), some (V.int l)] ∧ rowS sg n = rowS sg l ++ acc ∧ l * 2 ^ acc.length ≤ n, ⟨_, n, [], rfl, rfl, by rw [e0], by simp, by simp⟩, ?_⟩
    rintro l σ H' ⟨_, acc, rfl, rfl, rfl, h1, h2⟩
    have hbl : acc.length ≤ 110 ∨ l = 0 := by
      by_cases z : l = 0
      · exact Or.inr z
      · refine Or.inl ?_
        have h3 : 2 ^ acc.length ≤ 10 ^ 31 := by
          have : 1 * 2 ^ acc.length ≤ l * 2 ^ acc.length := Nat.mul_le_mul_right _ (by omega)
          omega
        by_cases h4 : acc.length ≤ 110
        · exact h4
        · have h5 : 2 ^ 111 ≤ 2 ^ acc.length := Nat.pow_le_pow_right (by decide) (by omega)
          have h6 : (10 : Nat) ^ 31 < 2 ^ 111 := by decide
          omega
    simp [tRet, tRetN, tDrop, tAsg, gName, tSeq, tNext, tIfS, tAndV, tOrV, tNotV, tAnd, tOr, tNot, tB, tTest, tVar, tC, tOp, tUn, tCons, tNil, tTup, tLst, tCB, tBM, tBM0, tM1, tM0, tCall, tMeth, tMake, tFldU, sFldU, tChain, tIf, tPar, tPar3, tAug, tDisp, tPairs, tDGet2, sDPut, rIsiU, rIsiTU, rLenU, rIxU, rInU, rNilU, rEqU, rNeU, rEq, rNe, rMax2U, rMin2U, rInt1U, rAbsU, scal, rAddU, rMulU, rI0, rI, rU, rListU, rTupU, rSumU, rAllU, rAnyU, rDictU, rSlU, tSl, tPart, tNoPart, rAppend, rExtend, rPop, rPopAt, rJoinU, rRepr, tSumVals, tyN_non, tyN_bl, tyN_int, tyN_str, tyN_ref, tyO_lst, tyO_tup, tyO_dK, tyO_flst, tyO_ftup, tyO_fdK, and_assoc, tyList, isT, tyAsk, lk_none, lk_frz, lk_lst, lk_tup, lk_dK, lk_ins, kV_str, kV_int, kV_kV, L2.start, E0, tForZ, zList, zTup, zStr, zRng1, zRng2, zEnumS, zEnumL, zKeys, zVals, zItems, tAugS, rGetL, rSetL, ipI, tyN_new, upd_same, tLcV, tDcZ, tYes, wipe, tLcZ, tScZ, cxOf, RVal, RTup, gTupU, gCons, gNil, tProp, tDGetU, sDPutU, rLenO, rDEqU, tBML, tBML0, tConU, tDNewK, rIsiO]
    rw [← hB]
    clear hB WB
    refine ite_all (fun hpos => ?_) fun hz => ?_
    · have hm : (l : Int) % (sg.length : Int) = ((l % sg.length : Nat) : Int) := by norm_cast
      have hlt : l % sg.length < sg.length := Nat.mod_lt _ (by omega)
      have hix : atI sg ((l : Int) % (sg.length : Int)) = some (sg.getD (l % sg.length) 0) := by
        rw [hm]
        exact atI_at (by simp [List.getD_eq_getElem?_getD, hlt])
      have hacc := txt_len acc
      have hdv : (l : Int) / (sg.length : Int) = ((l / sg.length : Nat) : Int) := by norm_cast
      refine ⟨fun σ' H'' => H'' = H' ∧ σ' = [some (V.ref t), some (V.int n), some (V.str (txt (sg.getD (l % sg.length) 0 :: acc))), some (V.int ((l / sg.length : Nat) : Int))], ?_, ?_⟩
      · rintro σ' H'' ⟨rfl, rfl⟩
        have hd2 : l / sg.length ≤ l / 2 := Nat.div_le_div_left hlo (by omega)
        refine ⟨l / sg.length, by omega, rfl, _, rfl, ?_, ?_⟩
        · rw [h1, rowS_pos hlo (by omega), List.append_assoc]
          rfl
        · rw [List.length_cons, Nat.pow_succ]
          have h3 : l / sg.length * 2 ≤ l := by omega
          have h4 : (l / sg.length * 2) * 2 ^ acc.length ≤ l * 2 ^ acc.length := Nat.mul_le_mul_right _ h3
          have h5 : l / sg.length * (2 ^ acc.length * 2) = (l / sg.length * 2) * 2 ^ acc.length := by ac_rfl
          omega
      · refine ⟨fun σ2 H2 => H2 = H' ∧ σ2 = [some (V.ref t), some (V.int n), some (V.str (txt (sg.getD (l % sg.length) 0 :: acc))), some (V.int l)], ?_, ?_⟩
        · show tOp rIxU (tVar 0) (tC (V.int 0)) _ _ _
          refine tIxT rfl ht (v := .str (txt sg)) rfl ?_
          show tCB rInt1U _ _ _ _
          simp [tCB, tCons, tNil, tVar, rInt1U]
          show tOp rIxU (tVar 0) (tC (V.int 0)) _ _ _
          refine tIxT rfl ht (v := .str (txt sg)) rfl ?_
          refine Or.inl ⟨txt sg, rfl, by omega, ?_⟩
          rw [htl]
          refine ⟨_, _, rfl, rfl, by omega, Or.inl ⟨txt sg, _, sg.getD (l % sg.length) 0, rfl, rfl, by omega, by rw [txt_list]; exact hix, Or.inr (Or.inl ⟨_, _, rfl, rfl, ?_, ?_⟩)⟩⟩
          · have : (⟨#[sg.getD (l % sg.length) 0]⟩ : Str).length = 1 := rfl
            omega
          · rw [txt_cons]
            exact ⟨rfl, by simp⟩
        · rintro σ2 H2 ⟨rfl, rfl⟩
          refine ⟨_, rfl, ?_⟩
          show tOp rIxU (tVar 0) (tC (V.int 0)) _ _ _
          refine tIxT rfl ht (v := .str (txt sg)) rfl ?_
          refine Or.inl ⟨txt sg, rfl, by omega, ?_⟩
          rw [htl]
          refine ⟨_, _, rfl, rfl, cdivw (by omega) (few40 (by omega) (by omega)), ?_⟩
          refine ⟨rfl, ?_⟩
          rw [← hdv]
          rfl
    · obtain rfl : l = 0 := by omega
      rw [rowS_zero, List.nil_append] at h1
      rw [← h1]
      exact q
end
end K74

set_option Elab.async false
set_option linter.all false
set_option maxRecDepth 100000
set_option maxHeartbeats 4000000
namespace K74
open PySem PySem.Spec PyProof.Rows L2 G
section
variable {P : Program} {w : World} {K : PySem.W.Frag} {mg : Str → Option Value} {base : Heap}
def zf (sg : List Nat) (g : Nat → Int) : List (Nat × Int) := sg.zipIdx.map fun z : Nat × Nat => (z.1, g z.2)
theorem zf_nd {sg : List Nat} (nd : sg.Nodup) (g : Nat → Int) : ((zf sg g).map (·.1)).Nodup := by
  unfold zf
  rw [List.map_map]
  show (sg.zipIdx.map fun z : Nat × Nat => z.1).Nodup
  rw [map_zipIdx_fst]
  exact nd
theorem zf_len (sg : List Nat) (g : Nat → Int) : (zf sg g).length = sg.length := by simp [zf]
theorem zf_mem {sg : List Nat} {g : Nat → Int} {z : Nat × Int} (h : z ∈ zf sg g) : z.1 ∈ sg ∧ ∃ i, z.2 = g i ∧ i < sg.length ∧ sg[i]? = some z.1 := by
  obtain ⟨⟨c, i⟩, hm, rfl⟩ := List.mem_map.mp h
  obtain ⟨_, h2, h3⟩ := List.mem_zipIdx hm
  have hi : i < sg.length := by omega
  refine ⟨by show c ∈ sg; rw [h3]; exact List.getElem_mem _, i, rfl, hi, ?_⟩
  rw [h3]
  simp [hi]
def sp__law_street (K : PySem.W.Frag) : Sp := fun vs H Q _ => ∃ t sg hp, ∃ f k : Nat, vs = [.ref t, .int f, .int ((f + k : Nat) - 1 : Int)] ∧ H t = some (.tup [.str (txt sg), .ref hp]) ∧ SgOk sg ∧ 1 ≤ f ∧ f + k ≤ 10 ^ 30 + 1 ∧
  ∀ p H', H p = none → Sub H H' → H' p = some (.dK (cnts (zf sg fun i => ((tallyD sg.length i f k : Nat) : Int)))) → Q (.ref p) H'
theorem ok__law_street (T : Txt K mg) : FnOk P w K mg base CX0 3 (He.ga K "_law_street") T.fd__law_street ["_law_font_here", "_law_first", "_law_last"] (sp__law_street K) := by
  refine FunD.ok T.F__law_street sc__law_street (fun vs H Q E h => ?_) fun cdv A outer s H vs Q E hr h => ⟨_, PSs.nox (pss_cutG (ps_set (i := 3) sc__law_street.nd rfl (by first | exact Or.inl rfl | exact Or.inr rfl) (pe_callB call_lenU rfl T.f_len boot_len (pa_cons (pe_ix (ix_U (hu_of hr)) (pv 0) pe_int (fun _ _ => rfl)) pa_nil)))
      (pss_cutG (ps_asg (pe_tup (pa_cons (pe_call (ok__law_totals T) (hr.mono (by omega)) rfl T.g__law_totals T.F__law_totals.kp (b__law_totals T) .nil pass0 (pa_cons (pv 3) (pa_cons (pe_op op_sub (pv 1) pe_int) pa_nil))) (pa_cons (pe_call (ok__law_totals T) (hr.mono (by omega)) rfl T.g__law_totals T.F__law_totals.kp (b__law_totals T) .nil pass0 (pa_cons (pv 3) (pa_cons (pv 2) pa_nil))) pa_nil))) (pg_tupU (n := 2) rfl (pgs_cons (pg_name (i := 4) sc__law_street.nd rfl (by first | exact Or.inl rfl | exact Or.inr rfl)) (pgs_cons (pg_name (i := 5) sc__law_street.nd rfl (by first | exact Or.inl rfl | exact Or.inr rfl)) pgs_nil))))
      (pss_one (ps_ret (pe_callTy (call_dictU rfl) rfl T.f_dict boot_dict (pa_cons (pe_lcZ rfl sc__law_street.nd (z_rng1 (by exact rfl) T.f_range (pa_cons (pv 3) pa_nil)) (own := [("_law_k", 6)]) (show BlkOk ["_law_font_here", "_law_first", "_law_last", "_law_base", "_law_low", "_law_high", "_law_k"] (defScope s__law_street) _ [("_law_k", 6)] from ⟨rfl, by decide +kernel, by decide +kernel, by decide +kernel, by decide +kernel⟩) (fun _ _ _ _ _ => (pg_name (i := 6) sc__law_street.nd rfl (by first | exact Or.inl rfl | exact Or.inr rfl))) (fun _ _ _ _ _ => pts_nil) (fun _ _ _ _ _ => (pe_tup (pa_cons (pe_ix (ix_U (hu_of hr)) (pe_ix (ix_U (hu_of hr)) (pv 0) pe_int (fun _ _ => rfl)) (pv 6) (fun _ _ => rfl)) (pa_cons (pe_op op_sub (pe_ix (ix_U (hu_of hr)) (pv 5) (pv 6) (fun _ _ => rfl)) (pe_ix (ix_U (hu_of hr)) (pv 4) (pv 6) (fun _ _ => rfl))) pa_nil))))) pa_nil)))))), ?_⟩
  · obtain ⟨t, sg, hp, f, k, rfl, _⟩ := h
    rfl
  · obtain ⟨t, sg, hp, f, k, rfl, ht, ok, hf, hfk, q⟩ := h
    have hlo := ok.lo
    have hhi := ok.hi
    have hsl := sizeLine_eq
    have htl := txt_len sg
    show tCutG _ _ _ _ _
    refine ⟨fun σ H1 => H1 = H ∧ σ = [some (V.ref t), some (V.int f), some (V.int ((f + k : Nat) - 1 : Int)), some (V.int (sg.length : Nat)), none, none, none], ?_, ?_⟩
    · show tOp rIxU (tVar 0) (tC (V.int 0)) _ _ _
      refine tIxT rfl ht (v := .str (txt sg)) rfl ?_
      refine Or.inl ⟨txt sg, rfl, by omega, ?_⟩
      rw [htl]
      exact ⟨rfl, rfl⟩
    rintro σ H1 ⟨rfl, rfl⟩
    show tCutG _ _ _ _ _
    refine ⟨fun σ H2 => ∃ u v : Addr, σ = [some (V.ref t), some (V.int f), some (V.int ((f + k : Nat) - 1 : Int)), some (V.int (sg.length : Nat)), some (V.ref u), some (V.ref v), none] ∧ Sub H1 H2 ∧ H2 u = some (.lst (rgN sg.length fun d => tallyD sg.length d 1 (f - 1))) ∧ H2 v = some (.lst (rgN sg.length fun d => tallyD sg.length d 1 (f + k - 1))), ?_, ?_⟩
    · simp [tRet, tRetN, tDrop, tAsg, gName, tSeq, tNext, tIfS, tAndV, tOrV, tNotV, tAnd, tOr, tNot, tB, tTest, tVar, tC, tOp, tUn, tCons, tNil, tTup, tLst, tCB, tBM, tBM0, tM1, tM0, tCall, tMeth, tMake, tFldU, sFldU, tChain, tIf, tPar, tPar3, tAug, tDisp, tPairs, tDGet2, sDPut, rIsiU, rIsiTU, rLenU, rIxU, rInU, rNilU, rEqU, rNeU, rEq, rNe, rMax2U, rMin2U, rInt1U, rAbsU, scal, rAddU, rMulU, rI0, rI, rU, rListU, rTupU, rSumU, rAllU, rAnyU, rDictU, rSlU, tSl, tPart, tNoPart, rAppend, rExtend, rPop, rPopAt, rJoinU, rRepr, tSumVals, tyN_non, tyN_bl, tyN_int, tyN_str, tyN_ref, tyO_lst, tyO_tup, tyO_dK, tyO_flst, tyO_ftup, tyO_fdK, and_assoc, tyList, isT, tyAsk, lk_none, lk_frz, lk_lst, lk_tup, lk_dK, lk_ins, kV_str, kV_int, kV_kV, L2.start, E0, tForZ, zList, zTup, zStr, zRng1, zRng2, zEnumS, zEnumL, zKeys, zVals, zItems, tAugS, rGetL, rSetL, ipI, tyN_new, upd_same, tLcV, tDcZ, tYes, wipe, tLcZ, tScZ, cxOf, RVal, RTup, gTupU, gCons, gNil, tProp, tDGetU, sDPutU, rLenO, rDEqU, tBML, tBML0, tConU, tDNewK, rIsiO, sp__law_totals]
      refine ⟨sg.length, rfl, f - 1, by omega, hlo, hhi, by omega, fun u H2 hs2 hu2 => ⟨sg.length, rfl, f + k - 1, by omega, hlo, hhi, by omega, fun v H3 hs3 hv3 => ⟨sz2, fun p hp => ?_⟩⟩⟩
      have s3 := Sub.new (o := .tup [V.ref u, V.ref v]) hp
      exact ⟨(hs2.trans hs3).trans s3, (hs3.trans s3).get hu2, s3.get hv3⟩
    rintro σ H2 ⟨u, v, rfl, hs2, hu2, hv2⟩
    have ht2 := hs2.get ht
    simp only [tRet, tCB, tCons, tNil]
    refine ⟨_, rfl, sg.length, rfl, by omega, by omega, ?_⟩
    intro D hD
    refine ⟨fun _ => true, fun z y H' => ∃ T c, y = V.ref T ∧ T ≠ D ∧ sg[z.toNat]? = some c ∧ H' T = some (.tup [sgn c, V.int ((tallyD sg.length z.toNat f k : Nat) : Int)]), ⟨by rw [intsZ_len]; omega, fun _ _ => trivial, ?_, ?_⟩, ?_⟩
    · rintro z y H3 H4 hs ⟨T, c, rfl, hT, hc, h3⟩
      exact ⟨T, c, rfl, hT, hc, by rw [hs T hT (by rw [h3]; nofun), h3]⟩
    · intro z hz H3 v' H4 hs3 hD3 hr
      obtain ⟨rfl, rfl⟩ := hr
      obtain ⟨i, hi, rfl⟩ := List.mem_map.mp hz
      rw [List.mem_range] at hi
      have hi : i < sg.length := by omega
      have e0 : (0 : Int) + (i : Nat) = (i : Nat) := by omega
      rw [e0]
      have hat : atI sg (i : Int) = some sg[i] := atI_at (by simp [hi])
      have hts := tally_add sg.length i 1 (f - 1) k
      rw [show f - 1 + k = f + k - 1 by omega, show 1 + (f - 1) = f by omega] at hts
      have ev : ((tallyD sg.length i 1 (f + k - 1) : Nat) : Int) - ((tallyD sg.length i 1 (f - 1) : Nat) : Int) = ((tallyD sg.length i f k : Nat) : Int) := by omega
      refine ⟨rfl, rfl, ?_⟩
      rw [if_pos rfl]
      show tOp rIxU (tVar 0) (tC (V.int 0)) [some (V.ref t), some (V.int f), some (V.int ((f + k : Nat) - 1 : Int)), some (V.int (sg.length : Nat)), some (V.ref u), some (V.ref v), some (V.int (i : Nat))] H4 _
      refine tIxT rfl (hs3.get ht2) (v := .str (txt sg)) rfl ?_
      refine ⟨_, rfl, Or.inl ⟨txt sg, i, sg[i], rfl, rfl, by omega, by rw [txt_list]; exact hat, ?_⟩⟩
      refine ⟨_, rfl, _, rfl, Or.inr (Or.inl ⟨v, _, i, _, rfl, rfl, by rw [hs3.get hv2]; rfl, rgN_at hi, ?_⟩)⟩
      refine ⟨_, rfl, _, rfl, Or.inr (Or.inl ⟨u, _, i, _, rfl, rfl, by rw [hs3.get hu2]; rfl, rgN_at hi, ?_⟩)⟩
      refine ⟨_, _, rfl, rfl, ?_⟩
      refine ⟨by simp; omega, fun T hT => ⟨Sub.new hT, T, sg[i], rfl, fun e => hD3 (by rw [← e]; exact hT), by simp [hi], ?_⟩⟩
      rw [upd_same]
      simp only [ev]
      rfl
    · intro ys H3 hs3 hD3 hP
      rw [filt] at hP
      refine ⟨D, ys, rfl, by rw [hD3]; rfl, cnts (zf sg fun i => ((tallyD sg.length i f k : Nat) : Int)), ?_, fun p hp3 => ?_⟩
      · have ez : cnts (zf sg fun i => ((tallyD sg.length i f k : Nat) : Int)) = (intsZ 0 (sg.length : Nat)).map fun z => (sk (sg.getD z.toNat 0), V.int ((tallyD sg.length z.toNat f k : Nat) : Int)) := by
          unfold cnts zf intsZ
          apply List.ext_getElem
          · simp
          · intro i h1 h2
            have hi : i < sg.length := by simpa using h1
            simp [List.getD_eq_getElem?_getD, hi]
        rw [ez]
        exact paired_turn hP fun z y ⟨T, c, e, _, hc, h3⟩ => ⟨T, e, by rw [h3, List.getD_eq_getElem?_getD, hc]; rfl⟩
      · rw [mergeK_nd]
        · exact q p _ ((hs2.trans hs3).none hp3) ((hs2.trans hs3).trans (Sub.new hp3)) upd_same
        · unfold cnts
          rw [List.map_map]
          exact nodup_map_sk (f := fun z : Nat × Int => z.1) (zf_nd ok.nd _)
end
end K74

set_option Elab.async false
set_option linter.all false
set_option maxRecDepth 100000
set_option maxHeartbeats 4000000
namespace K74
open PySem PySem.Spec PyProof.Rows L2 G
section
variable {P : Program} {w : World} {K : PySem.W.Frag} {mg : Str → Option Value} {base : Heap}
theorem mf_at {sg ms : List Nat} {i : Nat} (h : i < sg.length) : mf sg ms i = if sg.getD i 0 ∈ ms then 1 else 0 := by
  unfold mf mbs
  simp [List.getD_eq_getElem?_getD, h]
theorem share_row {sg ms : List Nat} : ∀ l : List Nat, (∀ x ∈ l, x < sg.length) → ((l.map fun i => sg.getD i 0).filter fun c => decide (c ∈ ms)).length = (l.map (mf sg ms)).sum
  | [], _ => rfl
  | a :: l, h => by
    have ih := share_row (sg := sg) (ms := ms) l fun x hx => h x (List.mem_cons_of_mem _ hx)
    rw [List.map_cons, List.map_cons, List.sum_cons, List.filter_cons, mf_at (h a List.mem_cons_self)]
    by_cases c : sg.getD a 0 ∈ ms
    · rw [if_pos (by simpa using c), if_pos c, List.length_cons, ih]
      omega
    · rw [if_neg (by simpa using c), if_neg c, ih]
      simp
def sp__law_share (K : PySem.W.Frag) : Sp := fun vs H Q _ => ∃ t sg hp ms, ∃ n : Nat, vs = [.ref t, .int n, .str (txt ms)] ∧ H t = some (.tup [.str (txt sg), .ref hp]) ∧ SgOk sg ∧ n ≤ 10 ^ 31 ∧ ∀ H', Sub H H' → Q (.int (shr sg.length (mf sg ms) n : Nat)) H'
theorem ok__law_share (T : Txt K mg) : FnOk P w K mg base CX0 2 (He.ga K "_law_share") T.fd__law_share ["_law_font_here", "_law_number", "_law_some_here"] (sp__law_share K) := by
  refine FunD.ok T.F__law_share sc__law_share (fun vs H Q E h => ?_) fun cdv A outer s H vs Q E hr h => ⟨_, PSs.nox (pss_one (ps_ret (pe_callB call_lenU rfl T.f_len boot_len (pa_cons (pe_lcV rfl sc__law_share.nd (z_str (pe_call (ok__law_row T) (hr.mono (by omega)) rfl T.g__law_row T.F__law_row.kp (b__law_row T) .nil pass0 (pa_cons (pv 0) (pa_cons (pv 1) pa_nil)))) (own := [("_law_sign", 3)]) (show BlkOk ["_law_font_here", "_law_number", "_law_some_here", "_law_sign"] (defScope s__law_share) _ [("_law_sign", 3)] from ⟨rfl, by decide +kernel, by decide +kernel, by decide +kernel, by decide +kernel⟩) (fun _ _ _ _ _ => (pg_name (i := 3) sc__law_share.nd rfl (by first | exact Or.inl rfl | exact Or.inr rfl))) (fun _ _ _ _ _ => (pts_one (pt_cmpR (op_inU (hu_of hr)) (pv 3) (pv 2) rfl))) (fun _ _ _ _ _ => (pv 3))) pa_nil)))), ?_⟩
  · obtain ⟨t, sg, hp, ms, n, rfl, _⟩ := h
    rfl
  · obtain ⟨t, sg, hp, ms, n, rfl, ht, ok, hn, q⟩ := h
    have hlo := ok.lo
    have hsl := sizeLine_eq
    have hrl : (rowS sg n).length ≤ 110 := rowS_len hlo 110 n (by
      have : (10 : Nat) ^ 31 < 2 ^ 110 := by decide
      omega)
    simp [tRet, tRetN, tDrop, tAsg, gName, tSeq, tNext, tIfS, tAndV, tOrV, tNotV, tAnd, tOr, tNot, tB, tTest, tVar, tC, tOp, tUn, tCons, tNil, tTup, tLst, tCB, tBM, tBM0, tM1, tM0, tCall, tMeth, tMake, tFldU, sFldU, tChain, tIf, tPar, tPar3, tAug, tDisp, tPairs, tDGet2, sDPut, rIsiU, rIsiTU, rLenU, rIxU, rInU, rNilU, rEqU, rNeU, rEq, rNe, rMax2U, rMin2U, rInt1U, rAbsU, scal, rAddU, rMulU, rI0, rI, rU, rListU, rTupU, rSumU, rAllU, rAnyU, rDictU, rSlU, tSl, tPart, tNoPart, rAppend, rExtend, rPop, rPopAt, rJoinU, rRepr, tSumVals, tyN_non, tyN_bl, tyN_int, tyN_str, tyN_ref, tyO_lst, tyO_tup, tyO_dK, tyO_flst, tyO_ftup, tyO_fdK, and_assoc, tyList, isT, tyAsk, lk_none, lk_frz, lk_lst, lk_tup, lk_dK, lk_ins, kV_str, kV_int, kV_kV, L2.start, E0, tForZ, zList, zTup, zStr, zRng1, zRng2, zEnumS, zEnumL, zKeys, zVals, zItems, tAugS, rGetL, rSetL, ipI, tyN_new, upd_same, tLcV, tDcZ, tYes, wipe, tLcZ, tScZ, cxOf, RVal, RTup, gTupU, gCons, gNil, tProp, tDGetU, sDPutU, rLenO, rDEqU, tBML, tBML0, tConU, tDNewK, rIsiO, sp__law_row]
    refine ⟨sg, hp, n, rfl, ht, ok, hn, ?_⟩
    refine lcv (fun c => decide (c ∈ ms)) sgn (by rw [txt_list]; omega) (fun _ _ => trivial) (fun z hz H3 v H4 hs3 hr => ?_) (fun D H3 hD hs3 hH3 => ?_)
    · obtain ⟨rfl, rfl⟩ := hr
      simp [tRet, tRetN, tDrop, tAsg, gName, tSeq, tNext, tIfS, tAndV, tOrV, tNotV, tAnd, tOr, tNot, tB, tTest, tVar, tC, tOp, tUn, tCons, tNil, tTup, tLst, tCB, tBM, tBM0, tM1, tM0, tCall, tMeth, tMake, tFldU, sFldU, tChain, tIf, tPar, tPar3, tAug, tDisp, tPairs, tDGet2, sDPut, rIsiU, rIsiTU, rLenU, rIxU, rInU, rNilU, rEqU, rNeU, rEq, rNe, rMax2U, rMin2U, rInt1U, rAbsU, scal, rAddU, rMulU, rI0, rI, rU, rListU, rTupU, rSumU, rAllU, rAnyU, rDictU, rSlU, tSl, tPart, tNoPart, rAppend, rExtend, rPop, rPopAt, rJoinU, rRepr, tSumVals, tyN_non, tyN_bl, tyN_int, tyN_str, tyN_ref, tyO_lst, tyO_tup, tyO_dK, tyO_flst, tyO_ftup, tyO_fdK, and_assoc, tyList, isT, tyAsk, lk_none, lk_frz, lk_lst, lk_tup, lk_dK, lk_ins, kV_str, kV_int, kV_kV, L2.start, E0, tForZ, zList, zTup, zStr, zRng1, zRng2, zEnumS, zEnumL, zKeys, zVals, zItems, tAugS, rGetL, rSetL, ipI, tyN_new, upd_same, tLcV, tDcZ, tYes, wipe, tLcZ, tScZ, cxOf, RVal, RTup, gTupU, gCons, gNil, tProp, tDGetU, sDPutU, rLenO, rDEqU, tBML, tBML0, tConU, tDNewK, rIsiO, sgn, inS_sign, txt_list]
      exact Sub.refl _
    · rw [txt_list] at hH3
      have h1 := share_row (sg := sg) (ms := ms) (rw' sg.length n) (rw_lt hlo)
      have h2 : ((rowS sg n).filter fun c => decide (c ∈ ms)).length = shr sg.length (mf sg ms) n := h1
      refine Or.inr (Or.inl ⟨D, rfl, _, by rw [hH3]; rfl, ?_⟩)
      rw [List.length_map, h2]
      exact q H3 hs3
def sp__law_counts (K : PySem.W.Frag) : Sp := fun vs H Q _ => ∃ x sg ms, ∃ n m : Nat, vs = [.ref x, .int n, .str (txt ms), .int m] ∧ FontL K H x sg ∧ SgOk sg ∧ (∀ c ∈ ms, c ∈ sg) ∧ ms.Nodup ∧ ms.length ≤ 10 ∧ n ≤ 10 ^ 30 ∧ m ≤ 1000 ∧
  ∀ p H', H p = none → Sub H H' → H' p = some (.lst (rgN m fun s => cntS sg.length (mf sg ms) s 1 n)) → Q (.ref p) H'
theorem ok__law_counts (T : Txt K mg) : FnOk P w K mg base CX0 6 (He.ga K "_law_counts") T.fd__law_counts ["_law_house", "_law_last", "_law_some_here", "_law_most"] (sp__law_counts K) := by
  refine FunD.ok T.F__law_counts sc__law_counts (fun vs H Q E h => ?_) fun cdv A outer s H vs Q E hr h => ⟨_, PSs.nox (pss_one (ps_ret (pe_lcV rfl sc__law_counts.nd (z_rng1 (by exact rfl) T.f_range (pa_cons (pv 3) pa_nil)) (own := [("_law_share_here", 4)]) (show BlkOk ["_law_house", "_law_last", "_law_some_here", "_law_most", "_law_share_here"] (defScope s__law_counts) _ [("_law_share_here", 4)] from ⟨rfl, by decide +kernel, by decide +kernel, by decide +kernel, by decide +kernel⟩) (fun _ _ _ _ _ => (pg_name (i := 4) sc__law_counts.nd rfl (by first | exact Or.inl rfl | exact Or.inr rfl))) (fun _ _ _ _ _ => pts_nil) (fun _ _ _ _ _ => (pe_call (ok_count_with T) (hr.mono (by omega)) rfl T.g_count_with T.F_count_with.kp (b_count_with T) .nil pass0 (pa_cons (pv 0) (pa_cons (pv 1) (pa_cons (pv 2) (pa_cons (pv 4) pa_nil))))))))), ?_⟩
  · obtain ⟨x, sg, ms, n, m, rfl, _⟩ := h
    rfl
  · obtain ⟨x, sg, ms, n, m, rfl, hF, ok, hms, nd, hml, hn, hm, q⟩ := h
    simp [tRet, tRetN, tDrop, tAsg, gName, tSeq, tNext, tIfS, tAndV, tOrV, tNotV, tAnd, tOr, tNot, tB, tTest, tVar, tC, tOp, tUn, tCons, tNil, tTup, tLst, tCB, tBM, tBM0, tM1, tM0, tCall, tMeth, tMake, tFldU, sFldU, tChain, tIf, tPar, tPar3, tAug, tDisp, tPairs, tDGet2, sDPut, rIsiU, rIsiTU, rLenU, rIxU, rInU, rNilU, rEqU, rNeU, rEq, rNe, rMax2U, rMin2U, rInt1U, rAbsU, scal, rAddU, rMulU, rI0, rI, rU, rListU, rTupU, rSumU, rAllU, rAnyU, rDictU, rSlU, tSl, tPart, tNoPart, rAppend, rExtend, rPop, rPopAt, rJoinU, rRepr, tSumVals, tyN_non, tyN_bl, tyN_int, tyN_str, tyN_ref, tyO_lst, tyO_tup, tyO_dK, tyO_flst, tyO_ftup, tyO_fdK, and_assoc, tyList, isT, tyAsk, lk_none, lk_frz, lk_lst, lk_tup, lk_dK, lk_ins, kV_str, kV_int, kV_kV, L2.start, E0, tForZ, zList, zTup, zStr, zRng1, zRng2, zEnumS, zEnumL, zKeys, zVals, zItems, tAugS, rGetL, rSetL, ipI, tyN_new, upd_same, tLcV, tDcZ, tYes, wipe, tLcZ, tScZ, cxOf, RVal, RTup, gTupU, gCons, gNil, tProp, tDGetU, sDPutU, rLenO, rDEqU, tBML, tBML0, tConU, tDNewK, rIsiO]
    refine ⟨by omega, ?_⟩
    refine lcv (fun _ => true) (fun z : Int => V.int (cntS sg.length (mf sg ms) z.toNat 1 n : Nat)) (by rw [intsZ_len]; omega) (fun _ _ => trivial) (fun z hz H3 v H4 hs3 hr => ?_) (fun D H3 hD hs3 hH3 => ?_)
    · obtain ⟨rfl, rfl⟩ := hr
      obtain ⟨j, hj, rfl⟩ := List.mem_map.mp hz
      rw [List.mem_range] at hj
      have hj : j < m := by omega
      have e0 : (0 : Int) + (j : Nat) = (j : Nat) := by omega
      rw [e0]
      simp [tRet, tRetN, tDrop, tAsg, gName, tSeq, tNext, tIfS, tAndV, tOrV, tNotV, tAnd, tOr, tNot, tB, tTest, tVar, tC, tOp, tUn, tCons, tNil, tTup, tLst, tCB, tBM, tBM0, tM1, tM0, tCall, tMeth, tMake, tFldU, sFldU, tChain, tIf, tPar, tPar3, tAug, tDisp, tPairs, tDGet2, sDPut, rIsiU, rIsiTU, rLenU, rIxU, rInU, rNilU, rEqU, rNeU, rEq, rNe, rMax2U, rMin2U, rInt1U, rAbsU, scal, rAddU, rMulU, rI0, rI, rU, rListU, rTupU, rSumU, rAllU, rAnyU, rDictU, rSlU, tSl, tPart, tNoPart, rAppend, rExtend, rPop, rPopAt, rJoinU, rRepr, tSumVals, tyN_non, tyN_bl, tyN_int, tyN_str, tyN_ref, tyO_lst, tyO_tup, tyO_dK, tyO_flst, tyO_ftup, tyO_fdK, and_assoc, tyList, isT, tyAsk, lk_none, lk_frz, lk_lst, lk_tup, lk_dK, lk_ins, kV_str, kV_int, kV_kV, L2.start, E0, tForZ, zList, zTup, zStr, zRng1, zRng2, zEnumS, zEnumL, zKeys, zVals, zItems, tAugS, rGetL, rSetL, ipI, tyN_new, upd_same, tLcV, tDcZ, tYes, wipe, tLcZ, tScZ, cxOf, RVal, RTup, gTupU, gCons, gNil, tProp, tDGetU, sDPutU, rLenO, rDEqU, tBML, tBML0, tConU, tDNewK, rIsiO, sp_count_with]
      exact ⟨sg, ms, n, rfl, rfl, j, rfl, hF.sub hs3, ok, hms, nd, hml, by omega, by omega, fun H' hs' => ⟨hs', rfl⟩⟩
    · rw [filt] at hH3
      refine q D H3 hD hs3 ?_
      rw [hH3]
      congr 2
      unfold rgN intsZ
      rw [List.map_map, show ((m : Int) - 0).toNat = m by omega]
      apply List.map_congr_left
      intro a _
      show V.int ((cntS sg.length (mf sg ms) ((0 : Int) + (a : Nat)).toNat 1 n : Nat) : Int) = _
      rw [show ((0 : Int) + (a : Nat)).toNat = a by omega]
theorem sum_filter (p : Nat → Prop) [DecidablePred p] (f : Nat → Nat) : ∀ l : List Nat, (l.map fun c => (if p c then 1 else 0) * f c).sum = ((l.filter fun c => decide (p c)).map f).sum
  | [] => rfl
  | a :: l => by
    rw [List.map_cons, List.sum_cons, sum_filter p f l, List.filter_cons]
    by_cases c : p a
    · rw [if_pos c, if_pos (by simpa using c), List.map_cons, List.sum_cons, Nat.one_mul]
    · rw [if_neg c, if_neg (by simpa using c)]
      simp
theorem sum_mf {sg ms : List Nat} (nd : sg.Nodup) (g : Nat → Nat) : ((List.range sg.length).map fun i => mf sg ms i * g i).sum = ((sg.filter fun c => decide (c ∈ ms)).map fun c => g (sg.idxOf c)).sum := by
  rw [← sum_filter (fun c => c ∈ ms) (fun c => g (sg.idxOf c)) sg]
  congr 1
  apply List.ext_getElem
  · simp
  · intro j h1 h2
    have hj : j < sg.length := by simpa using h1
    have e1 := mf_at (ms := ms) hj
    have e2 : sg.getD j 0 = sg[j] := by simp [List.getD_eq_getElem?_getD, hj]
    rw [e2] at e1
    simp only [List.getElem_map, List.getElem_range, e1, nd.idxOf_getElem]
theorem casts (f : Nat → Nat) : ∀ l : List Nat, (l.map fun c => ((f c : Nat) : Int)).sum = ((l.map f).sum : Nat)
  | [] => rfl
  | a :: l => by
    rw [List.map_cons, List.sum_cons, casts f l, List.map_cons, List.sum_cons]
    omega
def sp_Wants_want (K : PySem.W.Frag) : Sp := fun vs H Q _ => ∃ y x sg ms, ∃ g : Nat → Nat, vs = [.ref y, .str (txt ms)] ∧ WantsAt K H y x (cnts (zf sg fun i => (g i : Nat))) ∧ FontL K H x sg ∧ SgOk sg ∧ (∀ c ∈ ms, c ∈ sg) ∧ ms.Nodup ∧ ms.length ≤ 10 ∧
  ∀ H', Sub H H' → Q (.int (((List.range sg.length).map fun i => mf sg ms i * g i).sum : Nat)) H'
theorem ok_Wants_want (T : Txt K mg) : FnOk P w K mg base CX0 3 (He.ma K (He.ga K "Wants") "want") T.fd_Wants_want ["self", "signs"] (sp_Wants_want K) := by
  refine FunD.ok T.F_Wants_want sc_Wants_want (fun vs H Q E h => ?_) fun cdv A outer s H vs Q E hr h => ⟨_, PSs.nox (pss_one (ps_ret (pe_callB (call_sumU rfl) rfl T.f_sum boot_sum (pa_cons (pe_lcV rfl sc_Wants_want.nd (z_str (pe_call (ok_need_signs T) (hr.mono (by omega)) rfl T.g_need_signs T.F_need_signs.kp (b_need_signs T) .nil pass0 (pa_cons (pe_fldU (C := He.ga K "Wants") T.cls_Wants T.na_Wants_own_font (pv 0) rfl) (pa_cons (pv 1) pa_nil)))) (own := [("sign", 2)]) (show BlkOk ["self", "signs", "sign"] (defScope s_Wants_want) _ [("sign", 2)] from ⟨rfl, by decide +kernel, by decide +kernel, by decide +kernel, by decide +kernel⟩) (fun _ _ _ _ _ => (pg_name (i := 2) sc_Wants_want.nd rfl (by first | exact Or.inl rfl | exact Or.inr rfl))) (fun _ _ _ _ _ => pts_nil) (fun _ _ _ _ _ => (pe_ix (ix_U (hu_of hr)) (pe_fldU (C := He.ga K "Wants") T.cls_Wants T.na_Wants_numbers (pv 0) rfl) (pv 2) (fun _ _ => rfl)))) pa_nil)))), ?_⟩
  · obtain ⟨y, x, sg, ms, g, rfl, _⟩ := h
    rfl
  · obtain ⟨y, x, sg, ms, g, rfl, hy, hF, ok, hms, nd, hml, q⟩ := h
    obtain ⟨dy, m, h1, h2⟩ := id hy
    simp [tRet, tRetN, tDrop, tAsg, gName, tSeq, tNext, tIfS, tAndV, tOrV, tNotV, tAnd, tOr, tNot, tB, tTest, tVar, tC, tOp, tUn, tCons, tNil, tTup, tLst, tCB, tBM, tBM0, tM1, tM0, tCall, tMeth, tMake, tFldU, sFldU, tChain, tIf, tPar, tPar3, tAug, tDisp, tPairs, tDGet2, sDPut, rIsiU, rIsiTU, rLenU, rIxU, rInU, rNilU, rEqU, rNeU, rEq, rNe, rMax2U, rMin2U, rInt1U, rAbsU, scal, rAddU, rMulU, rI0, rI, rU, rListU, rTupU, rSumU, rAllU, rAnyU, rDictU, rSlU, tSl, tPart, tNoPart, rAppend, rExtend, rPop, rPopAt, rJoinU, rRepr, tSumVals, tyN_non, tyN_bl, tyN_int, tyN_str, tyN_ref, tyO_lst, tyO_tup, tyO_dK, tyO_flst, tyO_ftup, tyO_fdK, and_assoc, tyList, isT, tyAsk, lk_none, lk_frz, lk_lst, lk_tup, lk_dK, lk_ins, kV_str, kV_int, kV_kV, L2.start, E0, tForZ, zList, zTup, zStr, zRng1, zRng2, zEnumS, zEnumL, zKeys, zVals, zItems, tAugS, rGetL, rSetL, ipI, tyN_new, upd_same, tLcV, tDcZ, tYes, wipe, tLcZ, tScZ, cxOf, RVal, RTup, gTupU, gCons, gNil, tProp, tDGetU, sDPutU, rLenO, rDEqU, tBML, tBML0, tConU, tDNewK, rIsiO, h1, lk_font, sp_need_signs]
    refine ⟨sg, ms, rfl, hF, ok, hms, nd, hml, fun H1 s1 => ?_⟩
    have hsl := sizeLine_eq
    have hhi := ok.hi
    have hfl := List.length_filter_le (fun c => decide (c ∈ ms)) sg
    refine lcv (fun _ => true) (fun c => V.int (g (sg.idxOf c) : Nat)) (by rw [txt_list]; omega) (fun _ _ => trivial) (fun z hz H3 v H4 hs3 hr => ?_) (fun D H3 hD hs3 hH3 => ?_)
    · obtain ⟨rfl, rfl⟩ := hr
      rw [txt_list] at hz
      have hzs := (List.mem_filter.mp hz).1
      have hv := valV_cnts (zf_nd ok.nd fun i => ((g i : Nat) : Int)) (c := z) (n := ((g (sg.idxOf z) : Nat) : Int)) (by
        unfold zf
        refine List.mem_map.mpr ⟨(z, sg.idxOf z), ?_, rfl⟩
        rw [List.mk_mem_zipIdx_iff_getElem?]
        have hl := List.idxOf_lt_length_iff.mpr hzs
        simp [hl])
      have s2 := s1.trans hs3
      simp [tRet, tRetN, tDrop, tAsg, gName, tSeq, tNext, tIfS, tAndV, tOrV, tNotV, tAnd, tOr, tNot, tB, tTest, tVar, tC, tOp, tUn, tCons, tNil, tTup, tLst, tCB, tBM, tBM0, tM1, tM0, tCall, tMeth, tMake, tFldU, sFldU, tChain, tIf, tPar, tPar3, tAug, tDisp, tPairs, tDGet2, sDPut, rIsiU, rIsiTU, rLenU, rIxU, rInU, rNilU, rEqU, rNeU, rEq, rNe, rMax2U, rMin2U, rInt1U, rAbsU, scal, rAddU, rMulU, rI0, rI, rU, rListU, rTupU, rSumU, rAllU, rAnyU, rDictU, rSlU, tSl, tPart, tNoPart, rAppend, rExtend, rPop, rPopAt, rJoinU, rRepr, tSumVals, tyN_non, tyN_bl, tyN_int, tyN_str, tyN_ref, tyO_lst, tyO_tup, tyO_dK, tyO_flst, tyO_ftup, tyO_fdK, and_assoc, tyList, isT, tyAsk, lk_none, lk_frz, lk_lst, lk_tup, lk_dK, lk_ins, kV_str, kV_int, kV_kV, L2.start, E0, tForZ, zList, zTup, zStr, zRng1, zRng2, zEnumS, zEnumL, zKeys, zVals, zItems, tAugS, rGetL, rSetL, ipI, tyN_new, upd_same, tLcV, tDcZ, tYes, wipe, tLcZ, tScZ, cxOf, RVal, RTup, gTupU, gCons, gNil, tProp, tDGetU, sDPutU, rLenO, rDEqU, tBML, tBML0, tConU, tDNewK, rIsiO, s2.get h1, lk_numbers, s2.get h2, sgn]
      exact ⟨hv, Sub.refl _⟩
    · rw [filt, txt_list] at hH3
      refine ⟨D, rfl, _, by rw [hH3]; rfl, (sg.filter fun c => decide (c ∈ ms)).map fun c => ((g (sg.idxOf c) : Nat) : Int), by rw [List.map_map]; rfl, ?_⟩
      rw [casts, ← sum_mf ok.nd g]
      exact q H3 (s1.trans hs3)
end
end K74

set_option Elab.async false
set_option linter.all false
set_option maxRecDepth 100000
set_option maxHeartbeats 4000000
namespace K74
open PySem PySem.Spec PyProof.Rows L2 G
section
variable {P : Program} {w : World} {K : PySem.W.Frag} {mg : Str → Option Value} {base : Heap}
def sp__law_some (K : PySem.W.Frag) : Sp := fun vs H Q _ => ∃ d c t sg hp, ∃ u : Nat, vs = [.ref d, .ref t] ∧ PenAt H d c u ∧ u + 100 ≤ 900000 ∧ H t = some (.tup [.str (txt sg), .ref hp]) ∧ SgOk sg ∧
  ∀ ks H', ks.Sublist sg → SubX d H H' → PenAt H' d c (u + 40) → Q (.str (txt ks)) H'
theorem ok__law_some (T : Txt K mg) : FnOk P w K mg base CX0 6 (He.ga K "_law_some") T.fd__law_some ["_law_pen_here", "_law_font_here"] (sp__law_some K) := by
  refine FunD.ok T.F__law_some sc__law_some (fun vs H Q E h => ?_) fun cdv A outer s H vs Q E hr h => ⟨_, PSs.nox (pss_one (ps_ret (pe_m1 PySem.F.slot_str_join PySem.F.type_str_join mt_joinU pe_str (pe_lcI rfl sc__law_some.nd (z_str (pe_ix (ix_U (hu_of hr)) (pv 1) pe_int (fun _ _ => rfl))) (own := [("_law_sign", 2)]) (show BlkOk ["_law_pen_here", "_law_font_here", "_law_sign"] (defScope s__law_some) _ [("_law_sign", 2)] from ⟨rfl, by decide +kernel, by decide +kernel, by decide +kernel, by decide +kernel⟩) (fun _ _ _ _ _ => (pg_name (i := 2) sc__law_some.nd rfl (by first | exact Or.inl rfl | exact Or.inr rfl))) (fun _ _ _ _ _ => (pts_one (pt_cmpR (op_eqU (hu0 hr)) (pe_call (ok__law_draw T) (hr.mono (by omega)) rfl T.g__law_draw T.F__law_draw.kp (b__law_draw T) .nil pass0 (pa_cons (pv 0) (pa_cons pe_int pa_nil))) pe_int (nomark _)))) (fun _ _ _ _ _ => (pv 2)))))), ?_⟩
  · obtain ⟨d, c, t, sg, hp, u, rfl, _⟩ := h
    rfl
  · obtain ⟨d, c, t, sg, hp, u, rfl, hpd, hu, ht, ok, q⟩ := h
    have hsl := sizeLine_eq
    have hhi := ok.hi
    have hlo := ok.lo
    have e0 : (Str.ofString "").length = 0 := by decide +kernel
    simp only [tRet, tM1]
    refine ⟨⟨_, rfl⟩, ?_⟩
    show tLcI _ _ _ _ _ _ _ _
    refine tIxT rfl ht (v := .str (txt sg)) rfl ⟨txt sg, rfl, ?_⟩
    intro D hD
    have Dd : D ≠ d := fun e => hpd.nn.1 (by rw [← e]; exact hD)
    obtain ⟨Pw, hPw⟩ : ∃ Pw : Nat → List V → Hp → Prop, Pw = fun j ys H' => ∃ ks : List Nat, ys = ks.map sgn ∧ ks.Sublist (sg.take j) ∧ SubX d H H' ∧ PenAt H' d c (u + 4 * j) := ⟨_, rfl⟩
    have hn0 : Sub H (upd H D (.lst [])) := Sub.new hD
    refine ⟨Pw, by rw [txt_list]; omega, by rw [hPw]; exact ⟨[], rfl, by simp, SubX.of hn0, hpd.sub hn0⟩, fun _ _ _ _ => trivial, ?_, ?_⟩
    · intro j z ys H1 v H2 hz hD' hP hr
      rw [hPw] at hP
      obtain ⟨ks, rfl, hks, s4, p4⟩ := hP
      obtain ⟨rfl, rfl⟩ := hr
      rw [txt_list] at hz
      have hj := (List.getElem?_eq_some_iff.mp hz).1
      refine ⟨rfl, ?_⟩
      show tTest (tOp rEqU (tCall _ _ _ _) _) _ _ _
      refine ⟨_, rfl, d, c, _, 2, rfl, p4, by omega, by omega, by omega, fun i H5 hi hs5 hp5 => ?_⟩
      have hD5 := SubX.get hs5 Dd hD'
      have s5 := SubX.trans s4 hs5
      by_cases hi0 : i = 0
      · simp [tRet, tRetN, tDrop, tAsg, gName, tSeq, tNext, tIfS, tAndV, tOrV, tNotV, tAnd, tOr, tNot, tB, tTest, tVar, tC, tOp, tUn, tCons, tNil, tTup, tLst, tCB, tBM, tBM0, tM1, tM0, tCall, tMeth, tMake, tFldU, sFldU, tChain, tIf, tPar, tPar3, tAug, tDisp, tPairs, tDGet2, sDPut, rIsiU, rIsiTU, rLenU, rIxU, rInU, rNilU, rEqU, rNeU, rEq, rNe, rMax2U, rMin2U, rInt1U, rAbsU, scal, rAddU, rMulU, rI0, rI, rU, rListU, rTupU, rSumU, rAllU, rAnyU, rDictU, rSlU, tSl, tPart, tNoPart, rAppend, rExtend, rPop, rPopAt, rJoinU, rRepr, tSumVals, tyN_non, tyN_bl, tyN_int, tyN_str, tyN_ref, tyO_lst, tyO_tup, tyO_dK, tyO_flst, tyO_ftup, tyO_fdK, and_assoc, tyList, isT, tyAsk, lk_none, lk_frz, lk_lst, lk_tup, lk_dK, lk_ins, kV_str, kV_int, kV_kV, L2.start, E0, tForZ, zList, zTup, zStr, zRng1, zRng2, zEnumS, zEnumL, zKeys, zVals, zItems, tAugS, rGetL, rSetL, ipI, tyN_new, upd_same, tLcV, tDcZ, tYes, wipe, tLcZ, tScZ, cxOf, RVal, RTup, gTupU, gCons, gNil, tProp, tDGetU, sDPutU, rLenO, rDEqU, tBML, tBML0, tConU, tDNewK, rIsiO, hi0]
        refine ⟨hD5, ?_⟩
        rw [hPw]
        refine ⟨ks ++ [z], by rw [List.map_append]; rfl, ?_, ?_, hpd.off hD (hp5.mono (by omega))⟩
        · rw [take_at hz]
          exact hks.append (List.Sublist.refl _)
        · intro a ha hn
          rw [upd_ne (fun e => hn (by rw [e]; exact hD)), s5 a ha hn]
      · simp [tRet, tRetN, tDrop, tAsg, gName, tSeq, tNext, tIfS, tAndV, tOrV, tNotV, tAnd, tOr, tNot, tB, tTest, tVar, tC, tOp, tUn, tCons, tNil, tTup, tLst, tCB, tBM, tBM0, tM1, tM0, tCall, tMeth, tMake, tFldU, sFldU, tChain, tIf, tPar, tPar3, tAug, tDisp, tPairs, tDGet2, sDPut, rIsiU, rIsiTU, rLenU, rIxU, rInU, rNilU, rEqU, rNeU, rEq, rNe, rMax2U, rMin2U, rInt1U, rAbsU, scal, rAddU, rMulU, rI0, rI, rU, rListU, rTupU, rSumU, rAllU, rAnyU, rDictU, rSlU, tSl, tPart, tNoPart, rAppend, rExtend, rPop, rPopAt, rJoinU, rRepr, tSumVals, tyN_non, tyN_bl, tyN_int, tyN_str, tyN_ref, tyO_lst, tyO_tup, tyO_dK, tyO_flst, tyO_ftup, tyO_fdK, and_assoc, tyList, isT, tyAsk, lk_none, lk_frz, lk_lst, lk_tup, lk_dK, lk_ins, kV_str, kV_int, kV_kV, L2.start, E0, tForZ, zList, zTup, zStr, zRng1, zRng2, zEnumS, zEnumL, zKeys, zVals, zItems, tAugS, rGetL, rSetL, ipI, tyN_new, upd_same, tLcV, tDcZ, tYes, wipe, tLcZ, tScZ, cxOf, RVal, RTup, gTupU, gCons, gNil, tProp, tDGetU, sDPutU, rLenO, rDEqU, tBML, tBML0, tConU, tDNewK, rIsiO, hi0]
        refine ⟨hD5, ?_⟩
        rw [hPw]
        refine ⟨ks, rfl, ?_, s5, hp5.mono (by omega)⟩
        rw [take_at hz]
        exact hks.trans (List.sublist_append_left _ _)
    · intro ys H' hD' hP
      rw [hPw] at hP
      obtain ⟨ks, rfl, hks, s4, p4⟩ := hP
      rw [txt_list] at hks p4
      rw [List.take_length] at hks
      have hkl := hks.length_le
      simp [tRet, tRetN, tDrop, tAsg, gName, tSeq, tNext, tIfS, tAndV, tOrV, tNotV, tAnd, tOr, tNot, tB, tTest, tVar, tC, tOp, tUn, tCons, tNil, tTup, tLst, tCB, tBM, tBM0, tM1, tM0, tCall, tMeth, tMake, tFldU, sFldU, tChain, tIf, tPar, tPar3, tAug, tDisp, tPairs, tDGet2, sDPut, rIsiU, rIsiTU, rLenU, rIxU, rInU, rNilU, rEqU, rNeU, rEq, rNe, rMax2U, rMin2U, rInt1U, rAbsU, scal, rAddU, rMulU, rI0, rI, rU, rListU, rTupU, rSumU, rAllU, rAnyU, rDictU, rSlU, tSl, tPart, tNoPart, rAppend, rExtend, rPop, rPopAt, rJoinU, rRepr, tSumVals, tyN_non, tyN_bl, tyN_int, tyN_str, tyN_ref, tyO_lst, tyO_tup, tyO_dK, tyO_flst, tyO_ftup, tyO_fdK, and_assoc, tyList, isT, tyAsk, lk_none, lk_frz, lk_lst, lk_tup, lk_dK, lk_ins, kV_str, kV_int, kV_kV, L2.start, E0, tForZ, zList, zTup, zStr, zRng1, zRng2, zEnumS, zEnumL, zKeys, zVals, zItems, tAugS, rGetL, rSetL, ipI, tyN_new, upd_same, tLcV, tDcZ, tYes, wipe, tLcZ, tScZ, cxOf, RVal, RTup, gTupU, gCons, gNil, tProp, tDGetU, sDPutU, rLenO, rDEqU, tBML, tBML0, tConU, tDNewK, rIsiO, hD']
      refine ⟨ks.map fun c => (⟨[c].toArray⟩ : Str), by rw [List.map_map]; rfl, ?_, ?_⟩
      · rw [e0, List.map_map]
        have e3 : (ks.map ((fun x : Str => x.length) ∘ fun c : Nat => (⟨[c].toArray⟩ : Str))) = ks.map fun _ => 1 := rfl
        rw [e3, sum_ones]
        omega
      · have := join_empty (ks.map fun c => [c])
        rw [List.map_map] at this
        have e4 : (ks.map ((fun l : List Nat => (⟨l.toArray⟩ : Str)) ∘ fun c : Nat => [c])) = ks.map fun c => (⟨[c].toArray⟩ : Str) := rfl
        rw [e4] at this
        rw [this, flatten_one]
        exact q ks H' hks s4 (p4.mono (by omega))
end
end K74

set_option Elab.async false
set_option linter.all false
set_option maxRecDepth 100000
set_option maxHeartbeats 4000000
namespace K74
open PySem PySem.Spec PyProof.Rows L2 G
section
variable {P : Program} {w : World} {K : PySem.W.Frag} {mg : Str → Option Value} {base : Heap}
theorem sub_filter {sg ms : List Nat} (nd : sg.Nodup) (h : ms.Sublist sg) : sg.filter (fun c => decide (c ∈ ms)) = ms := by
  induction h with
  | slnil => simp
  | @cons l₁ l₂ a h ih =>
    have nd' := List.nodup_cons.mp nd
    rw [List.filter_cons, if_neg (by simpa using fun e => nd'.1 (h.subset e))]
    exact ih nd'.2
  | @cons_cons l₁ l₂ a h ih =>
    have nd' := List.nodup_cons.mp nd
    rw [List.filter_cons, if_pos (by simp)]
    congr 1
    have e : l₂.filter (fun c => decide (c ∈ a :: l₁)) = l₂.filter (fun c => decide (c ∈ l₁)) := by
      apply List.filter_congr
      intro x hx
      have : x ≠ a := fun e => nd'.1 (by rw [← e]; exact hx)
      simp [this]
    rw [e]
    exact ih nd'.2
theorem FontS.put {K : PySem.W.Frag} {H : Hp} {d x f : Addr} {sg : List Nat} {xs ys : List V} (hf : H f = some (.lst xs)) (h : FontS K H d x sg) : FontS K (upd H f (.lst ys)) d x sg := fun H2 s2 => by
  have s3 : SubX d H (upd H2 f (.lst xs)) := fun a ha hn => by
    by_cases e : a = f
    · rw [e, upd_same, hf]
    · rw [upd_ne e, s2 a ha (by rw [upd_ne e]; exact hn), upd_ne e]
  obtain ⟨dx, r, k, hs, h1, h2, h3, h4⟩ := h _ s3
  have nf : ∀ a, lk (upd H2 f (.lst xs) a) ≠ some (.lst xs) → upd H2 f (.lst xs) a = H2 a := fun a ha => upd_ne fun e => ha (by rw [e, upd_same]; rfl)
  rw [nf x (by rw [h1]; nofun)] at h1
  rw [nf r (by rw [h2]; nofun)] at h2
  rw [nf k (by rw [h3]; nofun)] at h3
  exact ⟨dx, r, k, hs, h1, h2, h3, h4⟩
/-! ### lists of numbers are equal -/
theorem dp_ints {K : PySem.W.Frag} {H : Hp} : ∀ l : List Int, DpAll K H (l.map V.int) (l.map PyData.int)
  | [] => .nil
  | a :: l => .cons (.int a) (dp_ints l)
theorem lay_ints : ∀ l : List Int, PyData.canLayAll0 (l.map PyData.int) = true
  | [] => by simp [PyData.canLayAll0]
  | a :: l => by
    rw [List.map_cons, PyData.canLayAll0, lay_ints l]
    simp [PyData.canLay0]
theorem depthAll_ints : ∀ l : List Int, PyData.depthAll (l.map PyData.int) ≤ 1
  | [] => by simp [PyData.depthAll]
  | a :: l => by
    have := depthAll_ints l
    simp [PyData.depthAll, PyData.depth]
    omega
theorem depth_ints (l : List Int) : (PyData.list (l.map PyData.int)).depth ≤ 64 := by
  have := depthAll_ints l
  simp only [PyData.depth]
  omega
def rNeLL : R2 := fun x y H Q => ∃ a b, ∃ l : List Int, x = .ref a ∧ y = .ref b ∧ lk (H a) = some (.lst (l.map V.int)) ∧ lk (H b) = some (.lst (l.map V.int)) ∧ Q (.bl false) H
theorem op_neLL {X : Cx} (hu : X.A.units + 64 < cLine) : OpR X (compareOp .NotEq) rNeLL := by
  intro pins s σ H x y v u Q I rx ry h
  obtain ⟨a, b, l, rfl, rfl, ha, hb, q⟩ := h
  have hc : (PyData.list (l.map PyData.int)).canLay0 = true := by
    rw [PyData.canLay0]
    exact lay_ints l
  have hs : SeqAt.shaped (PyData.list (l.map PyData.int)) = true := by
    unfold SeqAt.shaped
    rw [hc, decide_eq_true (depth_ints l)]
    rfl
  refine op_neD hu pins s σ H _ _ v u Q I rx ry ⟨_, _, .lst (Or.inl (rd_lk ha)) (dp_ints l), .lst (Or.inl (rd_lk hb)) (dp_ints l), hs, hs, ?_⟩
  rw [SeqAt.eqv_refl _ hc]
  exact q
def sp_law (K : PySem.W.Frag) : Sp := fun vs H Q _ => ∃ (a : Addr) (ns : List Int), vs = [.ref a] ∧ SqL K H a (ns.map V.int) ∧ ∀ H', Q (.bl true) H'
theorem ok_law (T : Txt K mg) : FnG P w K mg base CX0 9 (He.ga K "law") T.fd_law ["_law_script"] (sp_law K) := by
  refine fnG_of T.F_law sc_law (fun vs H Q E h => ?_) fun cdv A outer s H vs Q E hg hr h => ⟨_, PSs.nox (pss_cutG (ps_set (i := 1) sc_law.nd rfl (by first | exact Or.inl rfl | exact Or.inr rfl) (pe_call (ok__law_pen T) (hr.mono (by omega)) rfl T.g__law_pen T.F__law_pen.kp (b__law_pen T) .nil pass0 (pa_cons (pv 0) pa_nil)))
      (pss_cons (ps_forZ PassesOwn.never rfl (z_rng1 (by exact rfl) T.f_range (pa_cons pe_int pa_nil)) (pg_name (i := 2) sc_law.nd rfl (by first | exact Or.inl rfl | exact Or.inr rfl)) (pss_cutG (ps_set (i := 3) sc_law.nd rfl (by first | exact Or.inl rfl | exact Or.inr rfl) (pe_call (ok__law_font T) (hr.mono (by omega)) rfl T.g__law_font T.F__law_font.kp (b__law_font T) .nil pass0 (pa_cons (pv 1) (pa_cons pe_int (pa_cons pe_int pa_nil)))))
      (pss_cutG (ps_asg (pe_tup (pa_cons (pe_call (ok__law_made_font T) (hr.mono (by omega)) rfl T.g__law_made_font T.F__law_made_font.kp (b__law_made_font T) .nil pass0 (pa_cons (pv 1) (pa_cons (pv 3) pa_nil))) (pa_cons (pe_callB call_lenU rfl T.f_len boot_len (pa_cons (pe_ix (ix_U (hu_of hr)) (pv 3) pe_int (fun _ _ => rfl)) pa_nil)) (pa_cons pe_int (pa_cons pe_int pa_nil))))) (pg_tupU (n := 4) rfl (pgs_cons (pg_name (i := 4) sc_law.nd rfl (by first | exact Or.inl rfl | exact Or.inr rfl)) (pgs_cons (pg_name (i := 5) sc_law.nd rfl (by first | exact Or.inl rfl | exact Or.inr rfl)) (pgs_cons (pg_name (i := 6) sc_law.nd rfl (by first | exact Or.inl rfl | exact Or.inr rfl)) (pgs_cons (pg_name (i := 7) sc_law.nd rfl (by first | exact Or.inl rfl | exact Or.inr rfl)) pgs_nil))))))
      (pss_cutG (ps_forZ PassesOwn.never rfl (z_rng1 (by exact rfl) T.f_range (pa_cons (pe_call (ok__law_draw T) (hr.mono (by omega)) rfl T.g__law_draw T.F__law_draw.kp (b__law_draw T) .nil pass0 (pa_cons (pv 1) (pa_cons pe_int pa_nil))) pa_nil)) (pg_name (i := 8) sc_law.nd rfl (by first | exact Or.inl rfl | exact Or.inr rfl)) (pss_one (ps_par (i := 6) (j := 7) rfl sc_law.nd rfl rfl (by decide) rfl rfl (pa_cons (pe_op op_mulU (pv 6) (pv 5)) (pa_cons (pe_op op_addU (pv 7) pe_int) pa_nil)) rfl)))
      (pss_cutG (ps_set (i := 9) sc_law.nd rfl (by first | exact Or.inl rfl | exact Or.inr rfl) (pe_call (ok__law_pick T) (hr.mono (by omega)) rfl T.g__law_pick T.F__law_pick.kp (b__law_pick T) .nil pass0 (pa_cons (pv 1) (pa_cons (pe_lst (pa_cons pe_str (pa_cons (pe_ix (ix_U (hu_of hr)) (pv 3) pe_int (fun _ _ => rfl)) (pa_cons (pe_call (ok__law_some T) (hr.mono (by omega)) rfl T.g__law_some T.F__law_some.kp (b__law_some T) .nil pass0 (pa_cons (pv 1) (pa_cons (pv 3) pa_nil))) (pa_cons (pe_call (ok__law_some T) (hr.mono (by omega)) rfl T.g__law_some T.F__law_some.kp (b__law_some T) .nil pass0 (pa_cons (pv 1) (pa_cons (pv 3) pa_nil))) pa_nil))))) pa_nil))))
      (pss_cutG (ps_set (i := 10) sc_law.nd rfl (by first | exact Or.inl rfl | exact Or.inr rfl) (pe_call (ok__law_pick T) (hr.mono (by omega)) rfl T.g__law_pick T.F__law_pick.kp (b__law_pick T) .nil pass0 (pa_cons (pv 1) (pa_cons (pe_lst (pa_cons (pe_op op_addU pe_int (pe_call (ok__law_draw T) (hr.mono (by omega)) rfl T.g__law_draw T.F__law_draw.kp (b__law_draw T) .nil pass0 (pa_cons (pv 1) (pa_cons pe_int pa_nil)))) (pa_cons (pv 6) (pa_cons (pe_callB (call_max2U rfl) rfl T.f_max boot_max (pa_cons pe_int (pa_cons (pe_op op_sub (pv 6) pe_int) pa_nil))) (pa_cons (pe_op op_addU pe_int (pe_call (ok__law_draw T) (hr.mono (by omega)) rfl T.g__law_draw T.F__law_draw.kp (b__law_draw T) .nil pass0 (pa_cons (pv 1) (pa_cons (pe_op op_pow pe_int pe_int) pa_nil)))) pa_nil))))) pa_nil))))
      (pss_cutG (ps_set (i := 11) sc_law.nd rfl (by first | exact Or.inl rfl | exact Or.inr rfl) (pe_op op_addU (pe_callB call_lenU rfl T.f_len boot_len (pa_cons (pe_call (ok__law_row T) (hr.mono (by omega)) rfl T.g__law_row T.F__law_row.kp (b__law_row T) .nil pass0 (pa_cons (pv 3) (pa_cons (pv 10) pa_nil))) pa_nil)) pe_int))
      (pss_cutG (ps_set (i := 12) sc_law.nd rfl (by first | exact Or.inl rfl | exact Or.inr rfl) (pe_call (ok__law_counts T) (hr.mono (by omega)) rfl T.g__law_counts T.F__law_counts.kp (b__law_counts T) .nil pass0 (pa_cons (pv 4) (pa_cons (pv 10) (pa_cons (pv 9) (pa_cons (pv 11) pa_nil))))))
      (pss_cutG (ps_if (PW.pt (pw_or (pt_cmpR (op_neU (hu0 hr)) (pe_lcV rfl sc_law.nd (z_list (pv 12)) (own := [("_law_number", 22)]) (show BlkOk ["_law_script", "_law_pen_here", "_law_turn", "_law_font_here", "_law_house", "_law_base", "_law_power", "_law_length", "_law_k", "_law_some_here", "_law_last", "_law_most", "_law_found", "_law_due", "_law_other", "_law_size", "_law_mine", "_law_low", "_law_their", "_law_less", "_law_share_here", "_law_far", "_law_number", "_law_sign"] (defScope s_law) _ [("_law_number", 22)] from ⟨rfl, by decide +kernel, by decide +kernel, by decide +kernel, by decide +kernel⟩) (fun _ _ _ _ _ => (pg_name (i := 22) sc_law.nd rfl (by first | exact Or.inl rfl | exact Or.inr rfl))) (fun _ _ _ _ _ => (pts_one (PW.pt (pw_or (pt_not (pt_val (pe_callB call_isiU rfl T.f_isinstance boot_isinstance (pa_cons (pv 22) (pa_cons (pe_bltn (v := .ty "int") rfl T.f_int boot_int rfl) pa_nil))))) (pw_or1 (pt_cmpR op_lt (pv 22) pe_int (nomark _))))))) (fun _ _ _ _ _ => (pv 22))) (pe_lst pa_nil) (nomark _)) (pw_or1 (pt_cmpR (op_neU (hu0 hr)) (pe_callB (call_sumU rfl) rfl T.f_sum boot_sum (pa_cons (pv 12) pa_nil)) (pv 10) (nomark _))))) (pss_one (ps_ret pe_bl)) pss_nil)
      (pss_cutG (ps_set (i := 13) sc_law.nd rfl (by first | exact Or.inl rfl | exact Or.inr rfl) (pe_call (ok__law_street T) (hr.mono (by omega)) rfl T.g__law_street T.F__law_street.kp (b__law_street T) .nil pass0 (pa_cons (pv 3) (pa_cons pe_int (pa_cons (pv 10) pa_nil)))))
      (pss_cutG (ps_if (pt_cmpR (op_neU (hu0 hr)) (pe_callB (call_sumU rfl) rfl T.f_sum boot_sum (pa_cons (pe_lcV rfl sc_law.nd (z_rng1 (by exact rfl) T.f_range (pa_cons (pv 11) pa_nil)) (own := [("_law_share_here", 20)]) (show BlkOk ["_law_script", "_law_pen_here", "_law_turn", "_law_font_here", "_law_house", "_law_base", "_law_power", "_law_length", "_law_k", "_law_some_here", "_law_last", "_law_most", "_law_found", "_law_due", "_law_other", "_law_size", "_law_mine", "_law_low", "_law_their", "_law_less", "_law_share_here", "_law_far", "_law_number", "_law_sign"] (defScope s_law) _ [("_law_share_here", 20)] from ⟨rfl, by decide +kernel, by decide +kernel, by decide +kernel, by decide +kernel⟩) (fun _ _ _ _ _ => (pg_name (i := 20) sc_law.nd rfl (by first | exact Or.inl rfl | exact Or.inr rfl))) (fun _ _ _ _ _ => pts_nil) (fun _ _ _ _ _ => (pe_op op_mulU (pv 20) (pe_ix (ix_U (hu_of hr)) (pv 12) (pv 20) (fun _ _ => rfl))))) pa_nil)) (pe_callB (call_sumU rfl) rfl T.f_sum boot_sum (pa_cons (pe_lcV rfl sc_law.nd (z_str (pv 9)) (own := [("_law_sign", 23)]) (show BlkOk ["_law_script", "_law_pen_here", "_law_turn", "_law_font_here", "_law_house", "_law_base", "_law_power", "_law_length", "_law_k", "_law_some_here", "_law_last", "_law_most", "_law_found", "_law_due", "_law_other", "_law_size", "_law_mine", "_law_low", "_law_their", "_law_less", "_law_share_here", "_law_far", "_law_number", "_law_sign"] (defScope s_law) _ [("_law_sign", 23)] from ⟨rfl, by decide +kernel, by decide +kernel, by decide +kernel, by decide +kernel⟩) (fun _ _ _ _ _ => (pg_name (i := 23) sc_law.nd rfl (by first | exact Or.inl rfl | exact Or.inr rfl))) (fun _ _ _ _ _ => pts_nil) (fun _ _ _ _ _ => (pe_ix (ix_U (hu_of hr)) (pv 13) (pv 23) (fun _ _ => rfl)))) pa_nil)) (nomark _)) (pss_one (ps_ret pe_bl)) pss_nil)
      (pss_cutG (ps_if (pt_cmpR (op_neU (hu0 hr)) (pe_meth (pe_call (ok_street T) (hr.mono (by omega)) rfl T.g_street T.F_street.kp (b_street T) .nil pass0 (pa_cons (pv 4) (pa_cons pe_int (pa_cons (pv 10) pa_nil)))) T.cls_Wants T.me_Wants_want (ok_Wants_want T) (hr.mono (by omega)) (b_Wants_want T) .nil pass0 (pa_cons (pv 9) pa_nil)) (pe_callB (call_sumU rfl) rfl T.f_sum boot_sum (pa_cons (pe_lcV rfl sc_law.nd (z_str (pv 9)) (own := [("_law_sign", 23)]) (show BlkOk ["_law_script", "_law_pen_here", "_law_turn", "_law_font_here", "_law_house", "_law_base", "_law_power", "_law_length", "_law_k", "_law_some_here", "_law_last", "_law_most", "_law_found", "_law_due", "_law_other", "_law_size", "_law_mine", "_law_low", "_law_their", "_law_less", "_law_share_here", "_law_far", "_law_number", "_law_sign"] (defScope s_law) _ [("_law_sign", 23)] from ⟨rfl, by decide +kernel, by decide +kernel, by decide +kernel, by decide +kernel⟩) (fun _ _ _ _ _ => (pg_name (i := 23) sc_law.nd rfl (by first | exact Or.inl rfl | exact Or.inr rfl))) (fun _ _ _ _ _ => pts_nil) (fun _ _ _ _ _ => (pe_ix (ix_U (hu_of hr)) (pv 13) (pv 23) (fun _ _ => rfl)))) pa_nil)) (nomark _)) (pss_one (ps_ret pe_bl)) pss_nil)
      (pss_cutG (ps_asg (pe_op op_sub (pe_ix (ix_U (hu_of hr)) (pv 12) (pe_call (ok__law_share T) (hr.mono (by omega)) rfl T.g__law_share T.F__law_share.kp (b__law_share T) .nil pass0 (pa_cons (pv 3) (pa_cons (pv 10) (pa_cons (pv 9) pa_nil)))) (fun _ _ => rfl)) pe_int) (pg_sub (pv 12) (pe_call (ok__law_share T) (hr.mono (by omega)) rfl T.g__law_share T.F__law_share.kp (b__law_share T) .nil pass0 (pa_cons (pv 3) (pa_cons (pv 10) (pa_cons (pv 9) pa_nil)))) set_list))
      (pss_cutG (ps_if (pt_cmpR (op_neLL (hu64 hr)) (pv 12) (pe_call (ok__law_counts T) (hr.mono (by omega)) rfl T.g__law_counts T.F__law_counts.kp (b__law_counts T) .nil pass0 (pa_cons (pv 4) (pa_cons (pe_op op_sub (pv 10) pe_int) (pa_cons (pv 9) (pa_cons (pv 11) pa_nil))))) (nomark _)) (pss_one (ps_ret pe_bl)) pss_nil)
      (pss_cutG (ps_set (i := 14) sc_law.nd rfl (by first | exact Or.inl rfl | exact Or.inr rfl) (pe_m1 PySem.F.slot_str_join PySem.F.type_str_join mt_joinU pe_str (pe_lcV rfl sc_law.nd (z_str (pe_ix (ix_U (hu_of hr)) (pv 3) pe_int (fun _ _ => rfl))) (own := [("_law_sign", 23)]) (show BlkOk ["_law_script", "_law_pen_here", "_law_turn", "_law_font_here", "_law_house", "_law_base", "_law_power", "_law_length", "_law_k", "_law_some_here", "_law_last", "_law_most", "_law_found", "_law_due", "_law_other", "_law_size", "_law_mine", "_law_low", "_law_their", "_law_less", "_law_share_here", "_law_far", "_law_number", "_law_sign"] (defScope s_law) _ [("_law_sign", 23)] from ⟨rfl, by decide +kernel, by decide +kernel, by decide +kernel, by decide +kernel⟩) (fun _ _ _ _ _ => (pg_name (i := 23) sc_law.nd rfl (by first | exact Or.inl rfl | exact Or.inr rfl))) (fun _ _ _ _ _ => (pts_one (pt_cmpR (op_notInU (hu_of hr)) (pv 23) (pv 9) rfl))) (fun _ _ _ _ _ => (pv 23)))))
      (pss_cutG (ps_set (i := 15) sc_law.nd rfl (by first | exact Or.inl rfl | exact Or.inr rfl) (pe_op op_addU (pv 7) pe_int))
      (pss_cutG (ps_par (i := 16) (j := 17) rfl sc_law.nd rfl rfl (by decide) rfl rfl (pa_cons (pe_call (ok__law_counts T) (hr.mono (by omega)) rfl T.g__law_counts T.F__law_counts.kp (b__law_counts T) .nil pass0 (pa_cons (pv 4) (pa_cons (pe_op op_sub (pe_op op_mulU (pv 6) (pv 5)) pe_int) (pa_cons (pv 9) (pa_cons (pv 15) pa_nil))))) (pa_cons (pe_call (ok__law_counts T) (hr.mono (by omega)) rfl T.g__law_counts T.F__law_counts.kp (b__law_counts T) .nil pass0 (pa_cons (pv 4) (pa_cons (pe_op op_sub (pv 6) pe_int) (pa_cons (pv 9) (pa_cons (pv 15) pa_nil))))) pa_nil)) rfl)
      (pss_cutG (ps_par (i := 18) (j := 19) rfl sc_law.nd rfl rfl (by decide) rfl rfl (pa_cons (pe_call (ok__law_counts T) (hr.mono (by omega)) rfl T.g__law_counts T.F__law_counts.kp (b__law_counts T) .nil pass0 (pa_cons (pv 4) (pa_cons (pe_op op_sub (pe_op op_mulU (pv 6) (pv 5)) pe_int) (pa_cons (pv 14) (pa_cons (pv 15) pa_nil))))) (pa_cons (pe_call (ok__law_counts T) (hr.mono (by omega)) rfl T.g__law_counts T.F__law_counts.kp (b__law_counts T) .nil pass0 (pa_cons (pv 4) (pa_cons (pe_op op_sub (pv 6) pe_int) (pa_cons (pv 14) (pa_cons (pv 15) pa_nil))))) pa_nil)) rfl)
      (pss_one (ps_forZ PassesOwn.never rfl (z_rng1 (by exact rfl) T.f_range (pa_cons (pv 15) pa_nil)) (pg_name (i := 20) sc_law.nd rfl (by first | exact Or.inl rfl | exact Or.inr rfl)) (pss_cons (ps_set (i := 21) sc_law.nd rfl (by first | exact Or.inl rfl | exact Or.inr rfl) (pe_op op_sub (pe_op op_sub (pv 15) pe_int) (pv 20)))
      (pss_one (ps_if (pt_cmpR (op_neU (hu0 hr)) (pe_op op_sub (pe_ix (ix_U (hu_of hr)) (pv 16) (pv 20) (fun _ _ => rfl)) (pe_ix (ix_U (hu_of hr)) (pv 17) (pv 20) (fun _ _ => rfl))) (pe_op op_sub (pe_ix (ix_U (hu_of hr)) (pv 18) (pv 21) (fun _ _ => rfl)) (pe_ix (ix_U (hu_of hr)) (pv 19) (pv 21) (fun _ _ => rfl))) (nomark _)) (pss_one (ps_ret pe_bl)) pss_nil)))))))))))))))))))))))
      (pss_one (ps_ret pe_bl)))), ?_⟩
  · obtain ⟨a, ns, rfl, _⟩ := h
    rfl
  · obtain ⟨a, ns, rfl, ha, q⟩ := h
    show tCutG _ _ _ _ _
    refine ⟨fun (σ : L2.St) (H' : Hp) => ∃ d c, σ = [some (V.ref a), some (V.ref d), none, none, none, none, none, none, none, none, none, none, none, none, none, none, none, none, none, none, none, none, none, none] ∧ PenAt H' d c 0, ?_, ?_⟩
    · simp [tRet, tRetN, tDrop, tAsg, gName, tSeq, tNext, tIfS, tAndV, tOrV, tNotV, tAnd, tOr, tNot, tB, tTest, tVar, tC, tOp, tUn, tCons, tNil, tTup, tLst, tCB, tBM, tBM0, tM1, tM0, tCall, tMeth, tMake, tFldU, sFldU, tChain, tIf, tPar, tPar3, tAug, tDisp, tPairs, tDGet2, sDPut, rIsiU, rIsiTU, rLenU, rIxU, rInU, rNilU, rEqU, rNeU, rEq, rNe, rMax2U, rMin2U, rInt1U, rAbsU, scal, rAddU, rMulU, rI0, rI, rU, rListU, rTupU, rSumU, rAllU, rAnyU, rDictU, rSlU, tSl, tPart, tNoPart, rAppend, rExtend, rPop, rPopAt, rJoinU, rRepr, tSumVals, tyN_non, tyN_bl, tyN_int, tyN_str, tyN_ref, tyO_lst, tyO_tup, tyO_dK, tyO_flst, tyO_ftup, tyO_fdK, and_assoc, tyList, isT, tyAsk, lk_none, lk_frz, lk_lst, lk_tup, lk_dK, lk_ins, kV_str, kV_int, kV_kV, L2.start, E0, tForZ, zList, zTup, zStr, zRng1, zRng2, zEnumS, zEnumL, zKeys, zVals, zItems, tAugS, rGetL, rSetL, ipI, tyN_new, upd_same, tLcV, tDcZ, tYes, wipe, tLcZ, tScZ, cxOf, RVal, RTup, gTupU, gCons, gNil, tProp, tDGetU, sDPutU, rLenO, rDEqU, tBML, tBML0, tConU, tDNewK, rIsiO, sp__law_pen]
      exact ⟨⟨ns, ha⟩, fun d c H' _ _ hp => ⟨c, hp⟩⟩
    rintro σ H0 ⟨d, c, rfl, hp0⟩
    refine ⟨3, rfl, by omega, by omega, ?_⟩
    obtain ⟨Pv, hPv⟩ : ∃ Pv : Nat → L2.St → Hp → Prop, Pv = fun i σ H' => ∃ (x2 x3 x4 x5 x6 x7 x8 x9 x10 x11 x12 x13 x14 x15 x16 x17 x18 x19 x20 x21 x22 x23 : Option V), σ = [some (V.ref a), some (V.ref d), x2, x3, x4, x5, x6, x7, x8, x9, x10, x11, x12, x13, x14, x15, x16, x17, x18, x19, x20, x21, x22, x23] ∧ PenAt H' d c (1000 * i) := ⟨_, rfl⟩
    refine loop_ix Pv (by rw [hPv]; exact ⟨_, _, _, _, _, _, _, _, _, _, _, _, _, _, _, _, _, _, _, _, _, _, rfl, hp0⟩) (fun _ _ _ _ => trivial) ?_ ?_
    · intro i z σ H1 v H1' hz hP hr
      rw [hPv] at hP
      obtain ⟨x2, x3, x4, x5, x6, x7, x8, x9, x10, x11, x12, x13, x14, x15, x16, x17, x18, x19, x20, x21, x22, x23, rfl, hp1⟩ := hP
      obtain ⟨rfl, rfl⟩ := hr
      obtain ⟨rfl, hi6⟩ := intsZ_get hz
      have hi6 : i < 3 := by simpa using hi6
      show tCutG _ _ _ _ _
      refine ⟨fun (σ : L2.St) (H' : Hp) => ∃ (t : Addr) (sg : List Nat) (prs : List (Nat × Nat)) (x4 x5 x6 x7 x8 x9 x10 x11 x12 x13 x14 x15 x16 x17 x18 x19 x20 x21 x22 x23 : Option V), σ = [some (V.ref a), some (V.ref d), some (V.int (i : Nat)), some (V.ref t), x4, x5, x6, x7, x8, x9, x10, x11, x12, x13, x14, x15, x16, x17, x18, x19, x20, x21, x22, x23] ∧ SgOk sg ∧ HsOk sg prs ∧ PenAt H' d c (1000 * i + 300) ∧ FHere H' d t sg prs, ?_, ?_⟩
      · simp [tRet, tRetN, tDrop, tAsg, gName, tSeq, tNext, tIfS, tAndV, tOrV, tNotV, tAnd, tOr, tNot, tB, tTest, tVar, tC, tOp, tUn, tCons, tNil, tTup, tLst, tCB, tBM, tBM0, tM1, tM0, tCall, tMeth, tMake, tFldU, sFldU, tChain, tIf, tPar, tPar3, tAug, tDisp, tPairs, tDGet2, sDPut, rIsiU, rIsiTU, rLenU, rIxU, rInU, rNilU, rEqU, rNeU, rEq, rNe, rMax2U, rMin2U, rInt1U, rAbsU, scal, rAddU, rMulU, rI0, rI, rU, rListU, rTupU, rSumU, rAllU, rAnyU, rDictU, rSlU, tSl, tPart, tNoPart, rAppend, rExtend, rPop, rPopAt, rJoinU, rRepr, tSumVals, tyN_non, tyN_bl, tyN_int, tyN_str, tyN_ref, tyO_lst, tyO_tup, tyO_dK, tyO_flst, tyO_ftup, tyO_fdK, and_assoc, tyList, isT, tyAsk, lk_none, lk_frz, lk_lst, lk_tup, lk_dK, lk_ins, kV_str, kV_int, kV_kV, L2.start, E0, tForZ, zList, zTup, zStr, zRng1, zRng2, zEnumS, zEnumL, zKeys, zVals, zItems, tAugS, rGetL, rSetL, ipI, tyN_new, upd_same, tLcV, tDcZ, tYes, wipe, tLcZ, tScZ, cxOf, RVal, RTup, gTupU, gCons, gNil, tProp, tDGetU, sDPutU, rLenO, rDEqU, tBML, tBML0, tConU, tDNewK, rIsiO, sp__law_font]
        exact ⟨c, _, hp1, by omega, fun t hp H' sg prs ht hh hs' hp' ht' hh' ok hsk => ⟨sg, ok, prs, hsk, hp'.mono (by omega), ⟨hp, (fun e => hp1.nn.1 (by rw [← e]; exact hh)), (fun e => hp1.nn.1 (by rw [← e]; exact ht)), ht', hh'⟩⟩⟩
      clear hp1
      rintro σ H2 ⟨t, sg, prs, x4, x5, x6, x7, x8, x9, x10, x11, x12, x13, x14, x15, x16, x17, x18, x19, x20, x21, x22, x23, rfl, ok, hs, hp2, hf2⟩
      have hlo := ok.lo
      have hhi := ok.hi
      have hsl := sizeLine_eq
      have htl := txt_len sg
      show tCutG _ _ _ _ _
      refine ⟨fun (σ : L2.St) (H' : Hp) => ∃ (x : Addr) (x8 x9 x10 x11 x12 x13 x14 x15 x16 x17 x18 x19 x20 x21 x22 x23 : Option V), σ = [some (V.ref a), some (V.ref d), some (V.int (i : Nat)), some (V.ref t), some (V.ref x), some (V.int (sg.length : Nat)), some (V.int 1), some (V.int 0), x8, x9, x10, x11, x12, x13, x14, x15, x16, x17, x18, x19, x20, x21, x22, x23] ∧ PenAt H' d c (1000 * i + 400) ∧ FHere H' d t sg prs ∧ FontS K H' d x sg, ?_, ?_⟩
      · simp only [tAsg, tTup, tCons, tNil]
        refine ⟨_, rfl, _, rfl, d, c, _, t, sg, prs, rfl, hp2, by omega, hf2, ok, hs, fun x H' hx hs' hp' hxs => ?_⟩
        obtain ⟨hpd, n1, n2, ht2, hh2⟩ := id hf2
        have ht3 := SubX.get hs' n2 ht2
        simp only [tCB, tCons, tNil]
        refine tIxT rfl ht3 (v := .str (txt sg)) rfl (Or.inl ⟨txt sg, rfl, by omega, ?_⟩)
        rw [htl]
        refine ⟨by rw [sizeLine_eq]; simp, fun p hpn => ?_⟩
        have s4 := Sub.new (o := .tup [V.ref x, V.int (sg.length : Nat), V.int 1, V.int 0]) hpn
        simp [tRet, tRetN, tDrop, tAsg, gName, tSeq, tNext, tIfS, tAndV, tOrV, tNotV, tAnd, tOr, tNot, tB, tTest, tVar, tC, tOp, tUn, tCons, tNil, tTup, tLst, tCB, tBM, tBM0, tM1, tM0, tCall, tMeth, tMake, tFldU, sFldU, tChain, tIf, tPar, tPar3, tAug, tDisp, tPairs, tDGet2, sDPut, rIsiU, rIsiTU, rLenU, rIxU, rInU, rNilU, rEqU, rNeU, rEq, rNe, rMax2U, rMin2U, rInt1U, rAbsU, scal, rAddU, rMulU, rI0, rI, rU, rListU, rTupU, rSumU, rAllU, rAnyU, rDictU, rSlU, tSl, tPart, tNoPart, rAppend, rExtend, rPop, rPopAt, rJoinU, rRepr, tSumVals, tyN_non, tyN_bl, tyN_int, tyN_str, tyN_ref, tyO_lst, tyO_tup, tyO_dK, tyO_flst, tyO_ftup, tyO_fdK, and_assoc, tyList, isT, tyAsk, lk_none, lk_frz, lk_lst, lk_tup, lk_dK, lk_ins, kV_str, kV_int, kV_kV, L2.start, E0, tForZ, zList, zTup, zStr, zRng1, zRng2, zEnumS, zEnumL, zKeys, zVals, zItems, tAugS, rGetL, rSetL, ipI, tyN_new, upd_same, tLcV, tDcZ, tYes, wipe, tLcZ, tScZ, cxOf, RVal, RTup, gTupU, gCons, gNil, tProp, tDGetU, sDPutU, rLenO, rDEqU, tBML, tBML0, tConU, tDNewK, rIsiO]
        exact ⟨hp'.sub s4, (hf2.subx hs').subx (SubX.of s4), hxs.subx (SubX.of s4)⟩
      clear hp2 hf2
      rintro σ H3 ⟨x, x8, x9, x10, x11, x12, x13, x14, x15, x16, x17, x18, x19, x20, x21, x22, x23, rfl, hp3, hf3, hx3⟩
      show tCutG _ _ _ _ _
      refine ⟨fun (σ : L2.St) (H' : Hp) => ∃ (n : Nat) (x8 x9 x10 x11 x12 x13 x14 x15 x16 x17 x18 x19 x20 x21 x22 x23 : Option V), σ = [some (V.ref a), some (V.ref d), some (V.int (i : Nat)), some (V.ref t), some (V.ref x), some (V.int (sg.length : Nat)), some (V.int ((sg.length ^ n : Nat) : Int)), some (V.int (n : Nat)), x8, x9, x10, x11, x12, x13, x14, x15, x16, x17, x18, x19, x20, x21, x22, x23] ∧ n ≤ 11 ∧ PenAt H' d c (1000 * i + 408) ∧ FHere H' d t sg prs ∧ FontS K H' d x sg, ?_, ?_⟩
      · show tForZ _ _ _ _ _ _
        simp only [tForZ, zRng1, tCons, tNil]
        refine ⟨_, rfl, d, c, _, 12, rfl, hp3, by omega, by omega, by omega, fun n H' hn hs' hp' => ?_⟩
        refine ⟨(n : Int), rfl, by omega, by omega, ?_⟩
        refine loop_ix (fun j σ H4 => (∃ (x8 x9 x10 x11 x12 x13 x14 x15 x16 x17 x18 x19 x20 x21 x22 x23 : Option V), σ = [some (V.ref a), some (V.ref d), some (V.int (i : Nat)), some (V.ref t), some (V.ref x), some (V.int (sg.length : Nat)), some (V.int ((sg.length ^ j : Nat) : Int)), some (V.int (j : Nat)), x8, x9, x10, x11, x12, x13, x14, x15, x16, x17, x18, x19, x20, x21, x22, x23]) ∧ H4 = H') ⟨⟨_, _, _, _, _, _, _, _, _, _, _, _, _, _, _, _, by simp only [Nat.pow_zero]; rfl⟩, rfl⟩ (fun _ _ _ _ => trivial) ?_ ?_
        · rintro j z σ H4 v H5 hz ⟨⟨x8, x9, x10, x11, x12, x13, x14, x15, x16, x17, x18, x19, x20, x21, x22, x23, rfl⟩, rfl⟩ ⟨rfl, rfl⟩
          obtain ⟨rfl, hj⟩ := intsZ_get hz
          have hj : j < n := by omega
          have hpw : sg.length ^ j ≤ 10 ^ 12 := Nat.le_trans (Nat.pow_le_pow_left hhi j) (Nat.pow_le_pow_right (by decide) (by omega))
          obtain ⟨M, hM⟩ : ∃ M, M = sg.length ^ j := ⟨_, rfl⟩
          rw [← hM] at hpw ⊢
          simp [tRet, tRetN, tDrop, tAsg, gName, tSeq, tNext, tIfS, tAndV, tOrV, tNotV, tAnd, tOr, tNot, tB, tTest, tVar, tC, tOp, tUn, tCons, tNil, tTup, tLst, tCB, tBM, tBM0, tM1, tM0, tCall, tMeth, tMake, tFldU, sFldU, tChain, tIf, tPar, tPar3, tAug, tDisp, tPairs, tDGet2, sDPut, rIsiU, rIsiTU, rLenU, rIxU, rInU, rNilU, rEqU, rNeU, rEq, rNe, rMax2U, rMin2U, rInt1U, rAbsU, scal, rAddU, rMulU, rI0, rI, rU, rListU, rTupU, rSumU, rAllU, rAnyU, rDictU, rSlU, tSl, tPart, tNoPart, rAppend, rExtend, rPop, rPopAt, rJoinU, rRepr, tSumVals, tyN_non, tyN_bl, tyN_int, tyN_str, tyN_ref, tyO_lst, tyO_tup, tyO_dK, tyO_flst, tyO_ftup, tyO_fdK, and_assoc, tyList, isT, tyAsk, lk_none, lk_frz, lk_lst, lk_tup, lk_dK, lk_ins, kV_str, kV_int, kV_kV, L2.start, E0, tForZ, zList, zTup, zStr, zRng1, zRng2, zEnumS, zEnumL, zKeys, zVals, zItems, tAugS, rGetL, rSetL, ipI, tyN_new, upd_same, tLcV, tDcZ, tYes, wipe, tLcZ, tScZ, cxOf, RVal, RTup, gTupU, gCons, gNil, tProp, tDGetU, sDPutU, rLenO, rDEqU, tBML, tBML0, tConU, tDNewK, rIsiO]
          refine ⟨cmul (few (by omega) (by omega)) (few (by omega) (by omega)), ?_⟩
          rw [hM]
          push_cast
          rw [Int.pow_succ]
        · rintro σ H4 ⟨⟨x8, x9, x10, x11, x12, x13, x14, x15, x16, x17, x18, x19, x20, x21, x22, x23, rfl⟩, rfl⟩
          rw [intsZ_len, show ((n : Int) - 0).toNat = n by omega]
          exact ⟨n, _, _, _, _, _, _, _, _, _, _, _, _, _, _, _, _, rfl, by omega, hp'.mono (by omega), hf3.subx hs', hx3.subx hs'⟩
      clear hp3 hf3 hx3
      rintro σ H4 ⟨n, x8, x9, x10, x11, x12, x13, x14, x15, x16, x17, x18, x19, x20, x21, x22, x23, rfl, hn, hp4, hf4, hx4⟩
      show tCutG _ _ _ _ _
      refine ⟨fun (σ : L2.St) (H' : Hp) => ∃ (ms : List Nat) (x8 x10 x11 x12 x13 x14 x15 x16 x17 x18 x19 x20 x21 x22 x23 : Option V), σ = [some (V.ref a), some (V.ref d), some (V.int (i : Nat)), some (V.ref t), some (V.ref x), some (V.int (sg.length : Nat)), some (V.int ((sg.length ^ n : Nat) : Int)), some (V.int (n : Nat)), x8, some (V.str (txt ms)), x10, x11, x12, x13, x14, x15, x16, x17, x18, x19, x20, x21, x22, x23] ∧ ms.Sublist sg ∧ PenAt H' d c (1000 * i + 500) ∧ FHere H' d t sg prs ∧ FontS K H' d x sg, ?_, ?_⟩
      · obtain ⟨hpd, n1, n2, ht4, hh4⟩ := id hf4
        simp only [tAsg, tCall, tLst, tCons, tNil]
        refine ⟨_, rfl, ?_⟩
        refine tIxT rfl ht4 (v := .str (txt sg)) rfl ?_
        refine ⟨_, rfl, _, rfl, d, c, t, sg, hpd, _, rfl, hp4, by omega, ht4, ok, fun k1 H5 hk1 s5 p5 => ?_⟩
        have ht5 := SubX.get s5 n2 ht4
        refine ⟨_, rfl, _, rfl, d, c, t, sg, hpd, _, rfl, p5, by omega, ht5, ok, fun k2 H6 hk2 s6 p6 => ?_⟩
        refine ⟨by rw [sizeLine_eq]; simp, fun p hpn => ?_⟩
        have s7 := Sub.new (o := .lst [V.str (Str.ofString ""), V.str (txt sg), V.str (txt k1), V.str (txt k2)]) hpn
        have s47 := SubX.trans (SubX.trans s5 s6) (SubX.of (d := d) s7)
        refine ⟨d, c, _, p, _, rfl, p6.sub s7, by omega, upd_same, by simp, by simp, fun v H8 hv s8 p8 => ?_⟩
        have s48 := SubX.trans s47 s8
        have eE : Str.ofString "" = txt [] := by decide +kernel
        obtain ⟨ms, rfl, hms⟩ : ∃ ms : List Nat, v = V.str (txt ms) ∧ ms.Sublist sg := by
          simp only [List.mem_cons, List.not_mem_nil, or_false] at hv
          rcases hv with rfl | rfl | rfl | rfl
          · exact ⟨[], by rw [eE], List.nil_sublist _⟩
          · exact ⟨sg, rfl, List.Sublist.refl _⟩
          · exact ⟨k1, rfl, hk1⟩
          · exact ⟨k2, rfl, hk2⟩
        exact ⟨ms, _, _, _, _, _, _, _, _, _, _, _, _, _, _, _, rfl, hms, p8.mono (by omega), hf4.subx s48, hx4.subx s48⟩
      clear hp4 hf4 hx4
      rintro σ H5 ⟨ms, x8, x10, x11, x12, x13, x14, x15, x16, x17, x18, x19, x20, x21, x22, x23, rfl, hms, hp5, hf5, hx5⟩
      show tCutG _ _ _ _ _
      refine ⟨fun (σ : L2.St) (H' : Hp) => ∃ (la : Nat) (x8 x11 x12 x13 x14 x15 x16 x17 x18 x19 x20 x21 x22 x23 : Option V), σ = [some (V.ref a), some (V.ref d), some (V.int (i : Nat)), some (V.ref t), some (V.ref x), some (V.int (sg.length : Nat)), some (V.int ((sg.length ^ n : Nat) : Int)), some (V.int (n : Nat)), x8, some (V.str (txt ms)), some (V.int (la : Nat)), x11, x12, x13, x14, x15, x16, x17, x18, x19, x20, x21, x22, x23] ∧ 1 ≤ la ∧ la ≤ 10 ^ 12 ∧ PenAt H' d c (1000 * i + 520) ∧ FHere H' d t sg prs ∧ FontS K H' d x sg, ?_, ?_⟩
      · have hpw : sg.length ^ n ≤ 10 ^ 11 := Nat.le_trans (Nat.pow_le_pow_left hhi n) (Nat.pow_le_pow_right (by decide) (by omega))
        have hpw1 : 1 ≤ sg.length ^ n := Nat.pow_pos (by omega)
        obtain ⟨M, hM⟩ : ∃ M, M = sg.length ^ n := ⟨_, rfl⟩
        rw [← hM] at hpw hpw1 ⊢
        have hc9 : CPow 10 9 := by unfold CPow; decide
        simp [tRet, tRetN, tDrop, tAsg, gName, tSeq, tNext, tIfS, tAndV, tOrV, tNotV, tAnd, tOr, tNot, tB, tTest, tVar, tC, tOp, tUn, tCons, tNil, tTup, tLst, tCB, tBM, tBM0, tM1, tM0, tCall, tMeth, tMake, tFldU, sFldU, tChain, tIf, tPar, tPar3, tAug, tDisp, tPairs, tDGet2, sDPut, rIsiU, rIsiTU, rLenU, rIxU, rInU, rNilU, rEqU, rNeU, rEq, rNe, rMax2U, rMin2U, rInt1U, rAbsU, scal, rAddU, rMulU, rI0, rI, rU, rListU, rTupU, rSumU, rAllU, rAnyU, rDictU, rSlU, tSl, tPart, tNoPart, rAppend, rExtend, rPop, rPopAt, rJoinU, rRepr, tSumVals, tyN_non, tyN_bl, tyN_int, tyN_str, tyN_ref, tyO_lst, tyO_tup, tyO_dK, tyO_flst, tyO_ftup, tyO_fdK, and_assoc, tyList, isT, tyAsk, lk_none, lk_frz, lk_lst, lk_tup, lk_dK, lk_ins, kV_str, kV_int, kV_kV, L2.start, E0, tForZ, zList, zTup, zStr, zRng1, zRng2, zEnumS, zEnumL, zKeys, zVals, zItems, tAugS, rGetL, rSetL, ipI, tyN_new, upd_same, tLcV, tDcZ, tYes, wipe, tLcZ, tScZ, cxOf, RVal, RTup, gTupU, gCons, gNil, tProp, tDGetU, sDPutU, rLenO, rDEqU, tBML, tBML0, tConU, tDNewK, rIsiO, sp__law_draw, sp__law_pick]
        refine ⟨c, _, 50, rfl, hp5, by omega, by omega, by omega, fun i1 H6 hi1 s6 p6 => ?_⟩
        refine ⟨hc9, c, _, 1000000000, rfl, p6, by omega, by omega, by omega, fun i2 H7 hi2 s7 p7 => ⟨by rw [sizeLine_eq]; omega, fun p hpn => ?_⟩⟩
        have s8 := Sub.new (o := .lst [V.int (1 + (i1 : Int)), V.int (M : Nat), V.int (max 1 ((M : Int) - 1)), V.int (1 + (i2 : Int))]) hpn
        have s68 := SubX.trans (SubX.trans s6 s7) (SubX.of (d := d) s8)
        refine ⟨c, _, p7.sub s8, by omega, fun v H9 hv s9 p9 => ?_⟩
        have s69 := SubX.trans s68 s9
        obtain ⟨la, rfl, hl1, hl2⟩ : ∃ la : Nat, v = V.int (la : Nat) ∧ 1 ≤ la ∧ la ≤ 10 ^ 12 := by
          rcases hv with rfl | rfl | rfl | rfl
          · exact ⟨1 + i1, by push_cast; rfl, by omega, by omega⟩
          · exact ⟨M, rfl, by omega, by omega⟩
          · exact ⟨max 1 (M - 1), by rw [show (max 1 ((M : Int) - 1)) = ((max 1 (M - 1) : Nat) : Int) by omega], by omega, by omega⟩
          · exact ⟨1 + i2, by push_cast; rfl, by omega, by omega⟩
        exact ⟨la, rfl, hl1, hl2, p9.mono (by omega), hf5.subx s69, hx5.subx s69⟩
      clear hp5 hf5 hx5
      rintro σ H6 ⟨la, x8, x11, x12, x13, x14, x15, x16, x17, x18, x19, x20, x21, x22, x23, rfl, hl1, hl2, hp6, hf6, hx6⟩
      show tCutG _ _ _ _ _
      refine ⟨fun (σ : L2.St) (H' : Hp) => ∃ (mo : Nat) (x8 x12 x13 x14 x15 x16 x17 x18 x19 x20 x21 x22 x23 : Option V), σ = [some (V.ref a), some (V.ref d), some (V.int (i : Nat)), some (V.ref t), some (V.ref x), some (V.int (sg.length : Nat)), some (V.int ((sg.length ^ n : Nat) : Int)), some (V.int (n : Nat)), x8, some (V.str (txt ms)), some (V.int (la : Nat)), some (V.int (mo : Nat)), x12, x13, x14, x15, x16, x17, x18, x19, x20, x21, x22, x23] ∧ mo = (rw' sg.length la).length + 2 ∧ mo ≤ 200 ∧ PenAt H' d c (1000 * i + 520) ∧ FHere H' d t sg prs ∧ FontS K H' d x sg, ?_, ?_⟩
      · obtain ⟨hpd, n1, n2, ht6, hh6⟩ := id hf6
        have hrl : (rowS sg la).length ≤ 110 := rowS_len hlo 110 la (by
          have : (10 : Nat) ^ 12 < 2 ^ 110 := by decide
          omega)
        have hre : (rowS sg la).length = (rw' sg.length la).length := by
          unfold rowS rw'
          rw [List.length_map]
        obtain ⟨ro, hro⟩ : ∃ ro, ro = rowS sg la := ⟨_, rfl⟩
        have htr := txt_len ro
        have hrl2 : ro.length ≤ 110 := by rw [hro]; exact hrl
        have e6 : V.int (((rw' sg.length la).length : Nat) + 2 : Int) = V.int (((rw' sg.length la).length + 2 : Nat) : Int) := by push_cast; rfl
        simp only [tAsg, tOp, tCB, tCall, tCons, tNil, tVar, tC, rI0]
        refine ⟨_, rfl, _, rfl, t, sg, hpd, la, rfl, ht6, ok, by omega, ?_⟩
        rw [← hro]
        refine Or.inl ⟨txt ro, rfl, by omega, ?_⟩
        rw [htr, hro, hre]
        refine Or.inl ⟨_, _, rfl, rfl, ?_⟩
        rw [e6]
        exact ⟨_, _, _, _, _, _, _, _, _, _, _, _, _, _, rfl, rfl, by omega, hp6, hf6, hx6⟩
      clear hp6 hf6 hx6
      rintro σ H7 ⟨mo, x8, x12, x13, x14, x15, x16, x17, x18, x19, x20, x21, x22, x23, rfl, hmo, hmo2, hp7, hf7, hx7⟩
      show tCutG _ _ _ _ _
      refine ⟨fun (σ : L2.St) (H' : Hp) => ∃ (fo : Addr) (x8 x13 x14 x15 x16 x17 x18 x19 x20 x21 x22 x23 : Option V), σ = [some (V.ref a), some (V.ref d), some (V.int (i : Nat)), some (V.ref t), some (V.ref x), some (V.int (sg.length : Nat)), some (V.int ((sg.length ^ n : Nat) : Int)), some (V.int (n : Nat)), x8, some (V.str (txt ms)), some (V.int (la : Nat)), some (V.int (mo : Nat)), some (V.ref fo), x13, x14, x15, x16, x17, x18, x19, x20, x21, x22, x23] ∧ fo ≠ c ∧ H' fo = some (.lst (rgN mo fun s => cntS sg.length (mf sg ms) s 1 (la))) ∧ PenAt H' d c (1000 * i + 520) ∧ FHere H' d t sg prs ∧ FontS K H' d x sg, ?_, ?_⟩
      · simp only [tAsg, tCall, tCons, tNil, tVar]
        have hml := hms.length_le
        exact ⟨_, rfl, _, rfl, _, rfl, _, rfl, x, sg, ms, la, mo, rfl, hx7.at.L, ok, fun c hc => hms.subset hc, hms.nodup ok.nd, by omega, by omega, by omega, fun p H' hp hs' hl => ⟨p, _, _, _, _, _, _, _, _, _, _, _, _, rfl, fun e => hp7.nn.2 (by rw [← e]; exact hp), hl, hp7.sub hs', hf7.subx (SubX.of hs'), hx7.subx (SubX.of hs')⟩⟩
      clear hp7 hf7 hx7
      rintro σ H8 ⟨fo, x8, x13, x14, x15, x16, x17, x18, x19, x20, x21, x22, x23, rfl, hfc, ho8, hp8, hf8, hx8⟩
      show tCutG _ _ _ _ _
      refine ⟨fun (σ : L2.St) (H' : Hp) => ∃ (x8 x13 x14 x15 x16 x17 x18 x19 x20 x21 x22 x23 : Option V), σ = [some (V.ref a), some (V.ref d), some (V.int (i : Nat)), some (V.ref t), some (V.ref x), some (V.int (sg.length : Nat)), some (V.int ((sg.length ^ n : Nat) : Int)), some (V.int (n : Nat)), x8, some (V.str (txt ms)), some (V.int (la : Nat)), some (V.int (mo : Nat)), some (V.ref fo), x13, x14, x15, x16, x17, x18, x19, x20, x21, x22, x23] ∧ H' fo = some (.lst (rgN mo fun s => cntS sg.length (mf sg ms) s 1 (la))) ∧ PenAt H' d c (1000 * i + 520) ∧ FHere H' d t sg prs ∧ FontS K H' d x sg, ?_, ?_⟩
      · obtain ⟨c1, hc1⟩ : ∃ c1 : Nat → Nat, c1 = fun s => cntS sg.length (mf sg ms) s 1 la := ⟨_, rfl⟩
        rw [← hc1] at ho8 ⊢
        have hsum : ((List.range mo).map c1).sum = la := by
          rw [hc1]
          refine cnt_all mo 1 la fun j hj => ?_
          have h1 := shr_len (b := sg.length) (mf_le (sg := sg) (ms := ms)) (1 + j)
          have h2 := rw_mono hlo (m := 1 + j) (n := la) (by omega)
          omega
        simp only [tIfS, tOr, tTest, tOp, tLcV, zList, tVar, tC, tCB, tCons, tNil, tLst]
        refine ⟨_, rfl, fo, rgN mo c1, rfl, by rw [ho8]; rfl, ?_⟩
        have hfe : (rgN mo c1).filter (fun _ => false) = [] := List.filter_eq_nil_iff.mpr (by simp)
        refine lcv (fun _ => false) (fun _ => V.non) (by rw [rgN_len]; omega) (fun H' s => by show lk (H' fo) = _; rw [s.get ho8]; rfl) ?_ ?_
        · intro z hz H3 v H4 hs3 hr
          obtain ⟨rfl, rfl⟩ := hr
          obtain ⟨j, hj, rfl⟩ := List.mem_map.mp hz
          simp [tRet, tRetN, tDrop, tAsg, gName, tSeq, tNext, tIfS, tAndV, tOrV, tNotV, tAnd, tOr, tNot, tB, tTest, tVar, tC, tOp, tUn, tCons, tNil, tTup, tLst, tCB, tBM, tBM0, tM1, tM0, tCall, tMeth, tMake, tFldU, sFldU, tChain, tIf, tPar, tPar3, tAug, tDisp, tPairs, tDGet2, sDPut, rIsiU, rIsiTU, rLenU, rIxU, rInU, rNilU, rEqU, rNeU, rEq, rNe, rMax2U, rMin2U, rInt1U, rAbsU, scal, rAddU, rMulU, rI0, rI, rU, rListU, rTupU, rSumU, rAllU, rAnyU, rDictU, rSlU, tSl, tPart, tNoPart, rAppend, rExtend, rPop, rPopAt, rJoinU, rRepr, tSumVals, tyN_non, tyN_bl, tyN_int, tyN_str, tyN_ref, tyO_lst, tyO_tup, tyO_dK, tyO_flst, tyO_ftup, tyO_fdK, and_assoc, tyList, isT, tyAsk, lk_none, lk_frz, lk_lst, lk_tup, lk_dK, lk_ins, kV_str, kV_int, kV_kV, L2.start, E0, tForZ, zList, zTup, zStr, zRng1, zRng2, zEnumS, zEnumL, zKeys, zVals, zItems, tAugS, rGetL, rSetL, ipI, tyN_new, upd_same, tLcV, tDcZ, tYes, wipe, tLcZ, tScZ, cxOf, RVal, RTup, gTupU, gCons, gNil, tProp, tDGetU, sDPutU, rLenO, rDEqU, tBML, tBML0, tConU, tDNewK, rIsiO, id]
          exact Sub.refl _
        · intro D H3 hD hs3 hL
          rw [hfe] at hL
          refine ⟨by rw [sizeLine_eq]; simp, fun p hp => ?_⟩
          have s4 := hs3.trans (Sub.new (o := .lst []) hp)
          have hLp : D ≠ p := fun e => by rw [e, hp] at hL; cases hL
          refine Or.inr (Or.inl ⟨D, p, [], rfl, rfl, by rw [upd_ne hLp, hL]; rfl, by rw [upd_same]; rfl, false, by simp, ?_⟩)
          rw [if_neg (by simp)]
          refine ⟨_, rfl, ⟨fo, _, rfl, by rw [s4.get ho8]; rfl, (List.range mo).map fun d => ((c1 d : Nat) : Int), by unfold rgN; rw [List.map_map]; rfl, ?_⟩⟩
          rw [casts, hsum]
          refine ⟨_, rfl, Or.inl ⟨by simp [scal], false, by simp, ?_⟩⟩
          rw [if_neg (by simp)]
          exact ⟨_, _, _, _, _, _, _, _, _, _, _, _, rfl, s4.get ho8, hp8.sub s4, hf8.subx (SubX.of s4), hx8.subx (SubX.of s4)⟩
      clear ho8 hp8 hf8 hx8
      rintro σ H9 ⟨x8, x13, x14, x15, x16, x17, x18, x19, x20, x21, x22, x23, rfl, ho9, hp9, hf9, hx9⟩
      show tCutG _ _ _ _ _
      refine ⟨fun (σ : L2.St) (H' : Hp) => ∃ (du : Addr) (x8 x14 x15 x16 x17 x18 x19 x20 x21 x22 x23 : Option V), σ = [some (V.ref a), some (V.ref d), some (V.int (i : Nat)), some (V.ref t), some (V.ref x), some (V.int (sg.length : Nat)), some (V.int ((sg.length ^ n : Nat) : Int)), some (V.int (n : Nat)), x8, some (V.str (txt ms)), some (V.int (la : Nat)), some (V.int (mo : Nat)), some (V.ref fo), some (V.ref du), x14, x15, x16, x17, x18, x19, x20, x21, x22, x23] ∧ H' fo = some (.lst (rgN mo fun s => cntS sg.length (mf sg ms) s 1 (la))) ∧ H' du = some (.dK (cnts (zf sg fun j => ((tallyD sg.length j 1 la : Nat) : Int)))) ∧ PenAt H' d c (1000 * i + 520) ∧ FHere H' d t sg prs ∧ FontS K H' d x sg, ?_, ?_⟩
      · obtain ⟨hpd, n1, n2, ht9, hh9⟩ := id hf9
        have e9 : V.int (la : Nat) = V.int (((1 + la : Nat) : Int) - 1) := by congr 1; omega
        simp only [tAsg, tCall, tCons, tNil, tVar, tC]
        exact ⟨_, rfl, _, rfl, t, sg, hpd, 1, la, (by rw [← e9]; rfl), ht9, ok, by omega, by omega, fun p H' hp hs' hd => ⟨p, _, _, _, _, _, _, _, _, _, _, _, rfl, hs'.get ho9, hd, hp9.sub hs', hf9.subx (SubX.of hs'), hx9.subx (SubX.of hs')⟩⟩
      clear ho9 hp9 hf9 hx9
      rintro σ H10 ⟨du, x8, x14, x15, x16, x17, x18, x19, x20, x21, x22, x23, rfl, ho10, hd10, hp10, hf10, hx10⟩
      show tCutG _ _ _ _ _
      refine ⟨fun (σ : L2.St) (H' : Hp) => ∃ (x8 x14 x15 x16 x17 x18 x19 x20 x21 x22 x23 : Option V), σ = [some (V.ref a), some (V.ref d), some (V.int (i : Nat)), some (V.ref t), some (V.ref x), some (V.int (sg.length : Nat)), some (V.int ((sg.length ^ n : Nat) : Int)), some (V.int (n : Nat)), x8, some (V.str (txt ms)), some (V.int (la : Nat)), some (V.int (mo : Nat)), some (V.ref fo), some (V.ref du), x14, x15, x16, x17, x18, x19, x20, x21, x22, x23] ∧ H' fo = some (.lst (rgN mo fun s => cntS sg.length (mf sg ms) s 1 (la))) ∧ H' du = some (.dK (cnts (zf sg fun j => ((tallyD sg.length j 1 la : Nat) : Int)))) ∧ PenAt H' d c (1000 * i + 520) ∧ FHere H' d t sg prs ∧ FontS K H' d x sg, ?_, ?_⟩
      · obtain ⟨c1, hc1⟩ : ∃ c1 : Nat → Nat, c1 = fun s => cntS sg.length (mf sg ms) s 1 la := ⟨_, rfl⟩
        have hc1l : ∀ s, c1 s ≤ la := fun s => by rw [hc1]; exact cntS_le s 1 la
        have hsh : ((List.range mo).map fun s => s * c1 s).sum = ((List.range sg.length).map fun i => mf sg ms i * tallyD sg.length i 1 la).sum := by
          rw [tally_shares hlo 1 la, hc1]
          refine cnt_shares mo 1 la fun j hj => ?_
          have h1 := shr_len (b := sg.length) (mf_le (sg := sg) (ms := ms)) (1 + j)
          have h2 := rw_mono hlo (m := 1 + j) (n := la) (by omega)
          omega
        rw [← hc1] at ho10 ⊢
        simp only [tIfS, tTest, tOp, tCB, tCons, tNil, tLcV, zRng1, zStr, tVar]
        refine ⟨_, rfl, (mo : Int), rfl, by omega, by omega, ?_⟩
        refine lcv (fun _ => true) (fun z : Int => V.int ((z.toNat * c1 z.toNat : Nat) : Int)) (by rw [intsZ_len]; omega) (fun _ _ => trivial) ?_ ?_
        · intro z hz H3 v H4 hs3 hr
          obtain ⟨rfl, rfl⟩ := hr
          obtain ⟨j, hj, rfl⟩ := List.mem_map.mp hz
          rw [List.mem_range] at hj
          have hj : j < mo := by omega
          have e0 : (0 : Int) + (j : Nat) = (j : Nat) := by omega
          rw [e0]
          have hcj := hc1l j
          have hf := cmul (i := (j : Int)) (j := ((c1 j : Nat) : Int)) (few (by omega) (by omega)) (few (by omega) (by omega))
          refine ⟨rfl, rfl, ?_⟩
          rw [if_pos rfl]
          simp only [tOp, tVar]
          refine ⟨_, rfl, _, rfl, _, rfl, Or.inr (Or.inl ⟨fo, _, _, _, rfl, rfl, by rw [hs3.get ho10]; rfl, rgN_at hj, Or.inl ⟨_, _, rfl, rfl, hf, ?_⟩⟩)⟩
          refine ⟨Sub.refl _, ?_⟩
          simp
        · intro D H3 hD hs3 hL
          rw [filt] at hL
          refine ⟨D, _, rfl, by rw [hL]; rfl, (List.range mo).map fun s => ((s * c1 s : Nat) : Int), ?_, ?_⟩
          · unfold intsZ
            rw [List.map_map, List.map_map, show ((mo : Int) - 0).toNat = mo by omega]
            apply List.map_congr_left
            intro s _
            show V.int ((((0 : Int) + (s : Nat)).toNat * c1 ((0 : Int) + (s : Nat)).toNat : Nat) : Int) = _
            rw [show ((0 : Int) + (s : Nat)).toNat = s by omega]
            rfl
          · rw [casts (fun s => s * c1 s), hsh]
            refine ⟨_, rfl, txt ms, rfl, ?_⟩
            have hml := hms.length_le
            refine lcv (fun _ => true) (fun c => V.int (tallyD sg.length (sg.idxOf c) 1 la : Nat)) (by rw [txt_list]; omega) (fun _ _ => trivial) ?_ ?_
            · intro z hz H4 v H5 hs4 hr
              obtain ⟨rfl, rfl⟩ := hr
              rw [txt_list] at hz
              have hzs := hms.subset hz
              have hv := valV_cnts (zf_nd ok.nd fun i => ((tallyD sg.length i 1 la : Nat) : Int)) (c := z) (n := ((tallyD sg.length (sg.idxOf z) 1 la : Nat) : Int)) (by
                unfold zf
                refine List.mem_map.mpr ⟨(z, sg.idxOf z), ?_, rfl⟩
                rw [List.mk_mem_zipIdx_iff_getElem?]
                have hl := List.idxOf_lt_length_iff.mpr hzs
                simp [hl])
              have s2 := hs3.trans hs4
              simp [tRet, tRetN, tDrop, tAsg, gName, tSeq, tNext, tIfS, tAndV, tOrV, tNotV, tAnd, tOr, tNot, tB, tTest, tVar, tC, tOp, tUn, tCons, tNil, tTup, tLst, tCB, tBM, tBM0, tM1, tM0, tCall, tMeth, tMake, tFldU, sFldU, tChain, tIf, tPar, tPar3, tAug, tDisp, tPairs, tDGet2, sDPut, rIsiU, rIsiTU, rLenU, rIxU, rInU, rNilU, rEqU, rNeU, rEq, rNe, rMax2U, rMin2U, rInt1U, rAbsU, scal, rAddU, rMulU, rI0, rI, rU, rListU, rTupU, rSumU, rAllU, rAnyU, rDictU, rSlU, tSl, tPart, tNoPart, rAppend, rExtend, rPop, rPopAt, rJoinU, rRepr, tSumVals, tyN_non, tyN_bl, tyN_int, tyN_str, tyN_ref, tyO_lst, tyO_tup, tyO_dK, tyO_flst, tyO_ftup, tyO_fdK, and_assoc, tyList, isT, tyAsk, lk_none, lk_frz, lk_lst, lk_tup, lk_dK, lk_ins, kV_str, kV_int, kV_kV, L2.start, E0, tForZ, zList, zTup, zStr, zRng1, zRng2, zEnumS, zEnumL, zKeys, zVals, zItems, tAugS, rGetL, rSetL, ipI, tyN_new, upd_same, tLcV, tDcZ, tYes, wipe, tLcZ, tScZ, cxOf, RVal, RTup, gTupU, gCons, gNil, tProp, tDGetU, sDPutU, rLenO, rDEqU, tBML, tBML0, tConU, tDNewK, rIsiO, s2.get hd10, sgn]
              exact ⟨hv, Sub.refl _⟩
            · intro D2 H4 hD2 hs4 hL2
              rw [filt, txt_list] at hL2
              have all := hs3.trans hs4
              refine ⟨D2, _, rfl, by rw [hL2]; rfl, ms.map fun c => ((tallyD sg.length (sg.idxOf c) 1 la : Nat) : Int), by rw [List.map_map]; rfl, ?_⟩
              have h3 : (ms.map fun c => tallyD sg.length (sg.idxOf c) 1 la).sum = ((List.range sg.length).map fun i => mf sg ms i * tallyD sg.length i 1 la).sum := by
                rw [sum_mf ok.nd (fun i => tallyD sg.length i 1 la), sub_filter ok.nd hms]
              rw [casts (fun c => tallyD sg.length (sg.idxOf c) 1 la), h3]
              refine Or.inl ⟨by simp [scal], false, by simp, ?_⟩
              rw [if_neg (by simp)]
              exact ⟨_, _, _, _, _, _, _, _, _, _, _, rfl, all.get ho10, all.get hd10, hp10.sub all, hf10.subx (SubX.of all), hx10.subx (SubX.of all)⟩
      clear ho10 hd10 hp10 hf10 hx10
      rintro σ H11 ⟨x8, x14, x15, x16, x17, x18, x19, x20, x21, x22, x23, rfl, ho11, hd11, hp11, hf11, hx11⟩
      show tCutG _ _ _ _ _
      refine ⟨fun (σ : L2.St) (H' : Hp) => ∃ (x8 x14 x15 x16 x17 x18 x19 x20 x21 x22 x23 : Option V), σ = [some (V.ref a), some (V.ref d), some (V.int (i : Nat)), some (V.ref t), some (V.ref x), some (V.int (sg.length : Nat)), some (V.int ((sg.length ^ n : Nat) : Int)), some (V.int (n : Nat)), x8, some (V.str (txt ms)), some (V.int (la : Nat)), some (V.int (mo : Nat)), some (V.ref fo), some (V.ref du), x14, x15, x16, x17, x18, x19, x20, x21, x22, x23] ∧ H' fo = some (.lst (rgN mo fun s => cntS sg.length (mf sg ms) s 1 (la))) ∧ PenAt H' d c (1000 * i + 520) ∧ FHere H' d t sg prs ∧ FontS K H' d x sg, ?_, ?_⟩
      · have hml := hms.length_le
        have e9 : V.int (la : Nat) = V.int (((1 + la : Nat) : Int) - 1) := by congr 1; omega
        have h3 : (ms.map fun c => tallyD sg.length (sg.idxOf c) 1 la).sum = ((List.range sg.length).map fun i => mf sg ms i * tallyD sg.length i 1 la).sum := by
          rw [sum_mf ok.nd (fun i => tallyD sg.length i 1 la), sub_filter ok.nd hms]
        simp only [tIfS, tTest, tOp, tMeth, tCall, tCB, tCons, tNil, tLcV, zStr, tVar, tC]
        refine ⟨_, rfl, _, rfl, ⟨_, _, _, rfl, by omega⟩, x, sg, 1, la, (by rw [← e9]; rfl), hx11.at.L, ok, by omega, by omega, fun y H' hy hs' hw' => ?_⟩
        obtain ⟨dy, nn, g1, g2⟩ := id hw'
        refine ⟨y, dy, _, rfl, g1, rfl, _, rfl, y, x, sg, ms, fun i => tallyD sg.length i 1 la, rfl, hw', (hx11.at.sub hs').L, ok, fun c hc => hms.subset hc, hms.nodup ok.nd, by omega, fun H2 hs2 => ?_⟩
        have s12 := hs'.trans hs2
        refine ⟨_, rfl, txt ms, rfl, ?_⟩
        refine lcv (fun _ => true) (fun c => V.int (tallyD sg.length (sg.idxOf c) 1 la : Nat)) (by rw [txt_list]; omega) (fun _ _ => trivial) ?_ ?_
        · intro z hz H4 v H5 hs4 hr
          obtain ⟨rfl, rfl⟩ := hr
          rw [txt_list] at hz
          have hzs := hms.subset hz
          have hv := valV_cnts (zf_nd ok.nd fun i => ((tallyD sg.length i 1 la : Nat) : Int)) (c := z) (n := ((tallyD sg.length (sg.idxOf z) 1 la : Nat) : Int)) (by
            unfold zf
            refine List.mem_map.mpr ⟨(z, sg.idxOf z), ?_, rfl⟩
            rw [List.mk_mem_zipIdx_iff_getElem?]
            have hl := List.idxOf_lt_length_iff.mpr hzs
            simp [hl])
          have s2 := s12.trans hs4
          simp [tRet, tRetN, tDrop, tAsg, gName, tSeq, tNext, tIfS, tAndV, tOrV, tNotV, tAnd, tOr, tNot, tB, tTest, tVar, tC, tOp, tUn, tCons, tNil, tTup, tLst, tCB, tBM, tBM0, tM1, tM0, tCall, tMeth, tMake, tFldU, sFldU, tChain, tIf, tPar, tPar3, tAug, tDisp, tPairs, tDGet2, sDPut, rIsiU, rIsiTU, rLenU, rIxU, rInU, rNilU, rEqU, rNeU, rEq, rNe, rMax2U, rMin2U, rInt1U, rAbsU, scal, rAddU, rMulU, rI0, rI, rU, rListU, rTupU, rSumU, rAllU, rAnyU, rDictU, rSlU, tSl, tPart, tNoPart, rAppend, rExtend, rPop, rPopAt, rJoinU, rRepr, tSumVals, tyN_non, tyN_bl, tyN_int, tyN_str, tyN_ref, tyO_lst, tyO_tup, tyO_dK, tyO_flst, tyO_ftup, tyO_fdK, and_assoc, tyList, isT, tyAsk, lk_none, lk_frz, lk_lst, lk_tup, lk_dK, lk_ins, kV_str, kV_int, kV_kV, L2.start, E0, tForZ, zList, zTup, zStr, zRng1, zRng2, zEnumS, zEnumL, zKeys, zVals, zItems, tAugS, rGetL, rSetL, ipI, tyN_new, upd_same, tLcV, tDcZ, tYes, wipe, tLcZ, tScZ, cxOf, RVal, RTup, gTupU, gCons, gNil, tProp, tDGetU, sDPutU, rLenO, rDEqU, tBML, tBML0, tConU, tDNewK, rIsiO, s2.get hd11, sgn]
          exact ⟨hv, Sub.refl _⟩
        · intro D2 H4 hD2 hs4 hL2
          rw [filt, txt_list] at hL2
          have all := s12.trans hs4
          refine ⟨D2, _, rfl, by rw [hL2]; rfl, ms.map fun c => ((tallyD sg.length (sg.idxOf c) 1 la : Nat) : Int), by rw [List.map_map]; rfl, ?_⟩
          rw [casts (fun c => tallyD sg.length (sg.idxOf c) 1 la), h3]
          refine Or.inl ⟨by simp [scal], false, by simp, ?_⟩
          rw [if_neg (by simp)]
          exact ⟨_, _, _, _, _, _, _, _, _, _, _, rfl, all.get ho11, hp11.sub all, hf11.subx (SubX.of all), hx11.subx (SubX.of all)⟩
      clear ho11 hd11 hp11 hf11 hx11
      rintro σ H12 ⟨x8, x14, x15, x16, x17, x18, x19, x20, x21, x22, x23, rfl, ho12, hp12, hf12, hx12⟩
      show tCutG _ _ _ _ _
      refine ⟨fun (σ : L2.St) (H' : Hp) => ∃ (x8 x14 x15 x16 x17 x18 x19 x20 x21 x22 x23 : Option V), σ = [some (V.ref a), some (V.ref d), some (V.int (i : Nat)), some (V.ref t), some (V.ref x), some (V.int (sg.length : Nat)), some (V.int ((sg.length ^ n : Nat) : Int)), some (V.int (n : Nat)), x8, some (V.str (txt ms)), some (V.int (la : Nat)), some (V.int (mo : Nat)), some (V.ref fo), some (V.ref du), x14, x15, x16, x17, x18, x19, x20, x21, x22, x23] ∧ H' fo = some (.lst (rgN mo fun s => cntS sg.length (mf sg ms) s 1 (la - 1))) ∧ PenAt H' d c (1000 * i + 520) ∧ FHere H' d t sg prs ∧ FontS K H' d x sg, ?_, ?_⟩
      · obtain ⟨hpd, n1, n2, ht12, hh12⟩ := id hf12
        obtain ⟨sh, hsh⟩ : ∃ sh, sh = shr sg.length (mf sg ms) la := ⟨_, rfl⟩
        have hshm : sh < mo := by
          have h1 := shr_len (b := sg.length) (mf_le (sg := sg) (ms := ms)) la
          omega
        have hstep : ∀ s, cntS sg.length (mf sg ms) s 1 la = cntS sg.length (mf sg ms) s 1 (la - 1) + if s = sh then 1 else 0 := fun s => by
          have e : la = (la - 1) + 1 := by omega
          have h2 : cntS sg.length (mf sg ms) s 1 ((la - 1) + 1) = cntS sg.length (mf sg ms) s 1 (la - 1) + if shr sg.length (mf sg ms) (1 + (la - 1)) = s then 1 else 0 := rfl
          rw [← e, show 1 + (la - 1) = la by omega, ← hsh] at h2
          rw [h2]
          by_cases q : s = sh
          · rw [if_pos q, if_pos q.symm]
          · rw [if_neg q, if_neg fun e => q e.symm]
        obtain ⟨c1, hc1⟩ : ∃ c1 : Nat → Nat, c1 = fun s => cntS sg.length (mf sg ms) s 1 la := ⟨_, rfl⟩
        rw [← hc1] at ho12
        have hset : (rgN mo c1).set sh (V.int (((c1 sh : Nat) : Int) - 1)) = rgN mo fun s => cntS sg.length (mf sg ms) s 1 (la - 1) := by
          have h0 : 1 ≤ c1 sh := by
            rw [hc1]
            show 1 ≤ cntS _ _ sh 1 la
            rw [hstep sh, if_pos rfl]
            omega
          rw [show ((c1 sh : Nat) : Int) - 1 = ((c1 sh - 1 : Nat) : Int) by omega, rgN_set]
          refine rgN_ext fun d hd => ?_
          rw [hc1]
          show (if d = sh then cntS _ _ sh 1 la - 1 else cntS _ _ d 1 la) = _
          by_cases q : d = sh
          · rw [if_pos q, hstep sh, if_pos rfl, q]
            omega
          · rw [if_neg q, hstep d, if_neg q]
            omega
        simp only [tAsg, tOp, gSub, tCall, tCons, tNil, tVar, tC, rI0]
        refine ⟨_, rfl, _, rfl, _, rfl, _, rfl, t, sg, hpd, ms, la, rfl, ht12, ok, by omega, fun H' hs' => ?_⟩
        rw [← hsh]
        refine Or.inr (Or.inl ⟨fo, _, _, _, rfl, rfl, by rw [hs'.get ho12]; rfl, rgN_at hshm, ?_⟩)
        refine ⟨_, _, rfl, rfl, ?_⟩
        refine ⟨_, rfl, _, rfl, _, rfl, _, rfl, t, sg, hpd, ms, la, rfl, hs'.get ht12, ok, by omega, fun H2 hs2 => ?_⟩
        rw [← hsh]
        have all := hs'.trans hs2
        have hlen : (rgN mo c1).length = mo := rgN_len
        refine ⟨fo, rgN mo c1, sh, sh, rfl, rfl, all.get ho12, by rw [hlen]; exact ixN_at hshm, ?_⟩
        rw [hset]
        obtain ⟨hpd2, m1, m2, ht2, hh2⟩ := hf12.subx (SubX.of all)
        have g0 := all.get ho12
        have hne : ∀ a o, H2 a = some o → (∀ l, o ≠ .lst l) → upd H2 fo (.lst (rgN mo fun s => cntS sg.length (mf sg ms) s 1 (la - 1))) a = some o := fun a o ha hn => by
          rw [upd_ne fun e => hn (rgN mo c1) (by rw [e, g0] at ha; exact (Option.some.inj ha).symm), ha]
        have hpu : PenAt (upd H2 fo (.lst (rgN mo fun s => cntS sg.length (mf sg ms) s 1 (la - 1)))) d c (1000 * i + 520) := by
          obtain ⟨cs, u, l, h1, h2, h3⟩ := hp12.sub all
          exact ⟨cs, u, l, hne _ _ h1 nofun, by rw [upd_ne (Ne.symm hfc)]; exact h2, h3⟩
        exact ⟨_, _, _, _, _, _, _, _, _, _, _, rfl, upd_same, hpu, ⟨hpd2, m1, m2, hne _ _ ht2 nofun, hne _ _ hh2 nofun⟩, (hx12.subx (SubX.of all)).put g0⟩
      clear ho12 hp12 hf12 hx12
      rintro σ H13 ⟨x8, x14, x15, x16, x17, x18, x19, x20, x21, x22, x23, rfl, ho13, hp13, hf13, hx13⟩
      show tCutG _ _ _ _ _
      refine ⟨fun (σ : L2.St) (H' : Hp) => ∃ (x8 x14 x15 x16 x17 x18 x19 x20 x21 x22 x23 : Option V), σ = [some (V.ref a), some (V.ref d), some (V.int (i : Nat)), some (V.ref t), some (V.ref x), some (V.int (sg.length : Nat)), some (V.int ((sg.length ^ n : Nat) : Int)), some (V.int (n : Nat)), x8, some (V.str (txt ms)), some (V.int (la : Nat)), some (V.int (mo : Nat)), some (V.ref fo), some (V.ref du), x14, x15, x16, x17, x18, x19, x20, x21, x22, x23] ∧ PenAt H' d c (1000 * i + 520) ∧ FHere H' d t sg prs ∧ FontS K H' d x sg, ?_, ?_⟩
      · have hml := hms.length_le
        have e12 : V.int (((la : Nat) : Int) - 1) = V.int ((la - 1 : Nat) : Int) := by congr 1; omega
        simp only [tIfS, tTest, tOp, tCall, tCons, tNil, tVar, tC, rI0]
        refine ⟨_, rfl, _, rfl, _, rfl, _, _, rfl, rfl, _, rfl, _, rfl, x, sg, ms, la - 1, mo, (by rw [e12]; rfl), hx13.at.L, ok, fun c hc => hms.subset hc, hms.nodup ok.nd, by omega, by omega, by omega, fun p H' hp hs' hl => ?_⟩
        refine ⟨fo, p, (List.range mo).map fun d => ((cntS sg.length (mf sg ms) d 1 (la - 1) : Nat) : Int), rfl, rfl, ?_, ?_, false, rfl, ?_⟩
        · rw [hs'.get ho13, List.map_map]
          rfl
        · rw [hl, List.map_map]
          rfl
        · rw [if_neg (by simp)]
          exact ⟨_, _, _, _, _, _, _, _, _, _, _, rfl, hp13.sub hs', hf13.subx (SubX.of hs'), hx13.subx (SubX.of hs')⟩
      clear ho13 hp13 hf13 hx13
      rintro σ H14 ⟨x8, x14, x15, x16, x17, x18, x19, x20, x21, x22, x23, rfl, hp14, hf14, hx14⟩
      show tCutG _ _ _ _ _
      refine ⟨fun (σ : L2.St) (H' : Hp) => ∃ (x8 x15 x16 x17 x18 x19 x20 x21 x22 x23 : Option V), σ = [some (V.ref a), some (V.ref d), some (V.int (i : Nat)), some (V.ref t), some (V.ref x), some (V.int (sg.length : Nat)), some (V.int ((sg.length ^ n : Nat) : Int)), some (V.int (n : Nat)), x8, some (V.str (txt ms)), some (V.int (la : Nat)), some (V.int (mo : Nat)), some (V.ref fo), some (V.ref du), some (V.str (txt (sg.filter fun z => !decide (z ∈ ms)))), x15, x16, x17, x18, x19, x20, x21, x22, x23] ∧ PenAt H' d c (1000 * i + 520) ∧ FHere H' d t sg prs ∧ FontS K H' d x sg, ?_, ?_⟩
      · obtain ⟨hpd, n1, n2, ht14, hh14⟩ := id hf14
        have e0 : (Str.ofString "").length = 0 := by decide +kernel
        have hfl := List.length_filter_le (fun z => !decide (z ∈ ms)) sg
        simp only [tAsg, tM1, tLcV, zStr, tC]
        refine ⟨⟨_, rfl⟩, ?_⟩
        refine tIxT rfl ht14 (v := .str (txt sg)) rfl ⟨txt sg, rfl, ?_⟩
        refine lcv (fun z => !decide (z ∈ ms)) sgn (by rw [txt_list]; omega) (fun _ _ => trivial) ?_ ?_
        · intro z hz H3 v H4 hs3 hr
          obtain ⟨rfl, rfl⟩ := hr
          simp [tRet, tRetN, tDrop, tAsg, gName, tSeq, tNext, tIfS, tAndV, tOrV, tNotV, tAnd, tOr, tNot, tB, tTest, tVar, tC, tOp, tUn, tCons, tNil, tTup, tLst, tCB, tBM, tBM0, tM1, tM0, tCall, tMeth, tMake, tFldU, sFldU, tChain, tIf, tPar, tPar3, tAug, tDisp, tPairs, tDGet2, sDPut, rIsiU, rIsiTU, rLenU, rIxU, rInU, rNilU, rEqU, rNeU, rEq, rNe, rMax2U, rMin2U, rInt1U, rAbsU, scal, rAddU, rMulU, rI0, rI, rU, rListU, rTupU, rSumU, rAllU, rAnyU, rDictU, rSlU, tSl, tPart, tNoPart, rAppend, rExtend, rPop, rPopAt, rJoinU, rRepr, tSumVals, tyN_non, tyN_bl, tyN_int, tyN_str, tyN_ref, tyO_lst, tyO_tup, tyO_dK, tyO_flst, tyO_ftup, tyO_fdK, and_assoc, tyList, isT, tyAsk, lk_none, lk_frz, lk_lst, lk_tup, lk_dK, lk_ins, kV_str, kV_int, kV_kV, L2.start, E0, tForZ, zList, zTup, zStr, zRng1, zRng2, zEnumS, zEnumL, zKeys, zVals, zItems, tAugS, rGetL, rSetL, ipI, tyN_new, upd_same, tLcV, tDcZ, tYes, wipe, tLcZ, tScZ, cxOf, RVal, RTup, gTupU, gCons, gNil, tProp, tDGetU, sDPutU, rLenO, rDEqU, tBML, tBML0, tConU, tDNewK, rIsiO, sgn, inS_sign, txt_list]
          by_cases q : z ∈ ms
          · exact Or.inl ⟨q, Sub.refl _⟩
          · exact Or.inr ⟨q, Sub.refl _⟩
        · intro D H3 hD hs3 hL
          rw [txt_list] at hL
          refine ⟨_, D, _, rfl, rfl, by rw [hL]; rfl, (sg.filter fun z => !decide (z ∈ ms)).map fun c => (⟨[c].toArray⟩ : Str), by rw [List.map_map]; rfl, ?_, ?_⟩
          · rw [e0, List.map_map]
            have e3 : ((sg.filter fun z => !decide (z ∈ ms)).map ((fun x : Str => x.length) ∘ fun c : Nat => (⟨[c].toArray⟩ : Str))) = (sg.filter fun z => !decide (z ∈ ms)).map fun _ => 1 := rfl
            rw [e3, sum_ones]
            omega
          · have := join_empty ((sg.filter fun z => !decide (z ∈ ms)).map fun c => [c])
            rw [List.map_map] at this
            have e4 : ((sg.filter fun z => !decide (z ∈ ms)).map ((fun l : List Nat => (⟨l.toArray⟩ : Str)) ∘ fun c : Nat => [c])) = (sg.filter fun z => !decide (z ∈ ms)).map fun c => (⟨[c].toArray⟩ : Str) := rfl
            rw [e4] at this
            rw [this, flatten_one]
            exact ⟨_, _, _, _, _, _, _, _, _, _, rfl, hp14.sub hs3, hf14.subx (SubX.of hs3), hx14.subx (SubX.of hs3)⟩
      clear hp14 hf14 hx14
      rintro σ H15 ⟨x8, x15, x16, x17, x18, x19, x20, x21, x22, x23, rfl, hp15, hf15, hx15⟩
      show tCutG _ _ _ _ _
      refine ⟨fun (σ : L2.St) (H' : Hp) => ∃ (x8 x16 x17 x18 x19 x20 x21 x22 x23 : Option V), σ = [some (V.ref a), some (V.ref d), some (V.int (i : Nat)), some (V.ref t), some (V.ref x), some (V.int (sg.length : Nat)), some (V.int ((sg.length ^ n : Nat) : Int)), some (V.int (n : Nat)), x8, some (V.str (txt ms)), some (V.int (la : Nat)), some (V.int (mo : Nat)), some (V.ref fo), some (V.ref du), some (V.str (txt (sg.filter fun z => !decide (z ∈ ms)))), some (V.int ((n + 2 : Nat) : Int)), x16, x17, x18, x19, x20, x21, x22, x23] ∧ PenAt H' d c (1000 * i + 520) ∧ FHere H' d t sg prs ∧ FontS K H' d x sg, ?_, ?_⟩
      · have e15 : V.int ((n : Int) + 2) = V.int ((n + 2 : Nat) : Int) := by push_cast; rfl
        simp only [tAsg, tOp, tVar, tC, rI0]
        refine ⟨_, rfl, Or.inl ⟨_, _, rfl, rfl, ?_⟩⟩
        rw [e15]
        exact ⟨_, _, _, _, _, _, _, _, _, rfl, hp15, hf15, hx15⟩
      clear hp15 hf15 hx15
      rintro σ H16 ⟨x8, x16, x17, x18, x19, x20, x21, x22, x23, rfl, hp16, hf16, hx16⟩
      show tCutG _ _ _ _ _
      refine ⟨fun (σ : L2.St) (H' : Hp) => ∃ (l1 l2 : Addr) (x8 x18 x19 x20 x21 x22 x23 : Option V), σ = [some (V.ref a), some (V.ref d), some (V.int (i : Nat)), some (V.ref t), some (V.ref x), some (V.int (sg.length : Nat)), some (V.int ((sg.length ^ n : Nat) : Int)), some (V.int (n : Nat)), x8, some (V.str (txt ms)), some (V.int (la : Nat)), some (V.int (mo : Nat)), some (V.ref fo), some (V.ref du), some (V.str (txt (sg.filter fun z => !decide (z ∈ ms)))), some (V.int ((n + 2 : Nat) : Int)), some (V.ref l1), some (V.ref l2), x18, x19, x20, x21, x22, x23] ∧ H' l1 = some (.lst (rgN (n + 2) fun s => cntS sg.length (mf sg ms) s 1 (sg.length ^ n * sg.length - 1))) ∧ H' l2 = some (.lst (rgN (n + 2) fun s => cntS sg.length (mf sg ms) s 1 (sg.length ^ n - 1))) ∧ PenAt H' d c (1000 * i + 520) ∧ FHere H' d t sg prs ∧ FontS K H' d x sg, ?_, ?_⟩
      · have hml := hms.length_le
        have hpw : sg.length ^ n ≤ 10 ^ 11 := Nat.le_trans (Nat.pow_le_pow_left hhi n) (Nat.pow_le_pow_right (by decide) (by omega))
        have hpw1 : 1 ≤ sg.length ^ n := Nat.pow_pos (by omega)
        obtain ⟨M, hM⟩ : ∃ M, M = sg.length ^ n := ⟨_, rfl⟩
        rw [← hM] at hpw hpw1 ⊢
        have hMb : M * sg.length ≤ 10 ^ 11 * 10 := Nat.mul_le_mul hpw hhi
        have hMb1 : 1 ≤ M * sg.length := Nat.mul_pos hpw1 (by omega)
        have e1 : V.int ((M : Int) * (sg.length : Nat) - 1) = V.int ((M * sg.length - 1 : Nat) : Int) := by
          congr 1
          rw [Int.ofNat_sub hMb1]
          push_cast
          rfl
        have e2 : V.int ((M : Int) - 1) = V.int ((M - 1 : Nat) : Int) := by congr 1; omega
        have hc := cmul (i := (M : Int)) (j := (sg.length : Nat)) (few (by omega) (by omega)) (few (by omega) (by omega))
        simp only [tPar, tOp, tCall, tCons, tNil, tVar, tC, rI0]
        refine ⟨_, rfl, _, rfl, _, rfl, Or.inl ⟨_, _, rfl, rfl, hc, _, _, rfl, rfl, _, rfl, _, rfl, x, sg, ms, M * sg.length - 1, n + 2, (by rw [e1]; rfl), hx16.at.L, ok, fun c hc => hms.subset hc, hms.nodup ok.nd, by omega, by omega, by omega, fun p H' hp hs' hl => ?_⟩⟩
        refine ⟨_, rfl, _, rfl, _, _, rfl, rfl, _, rfl, _, rfl, x, sg, ms, M - 1, n + 2, (by rw [e2]; rfl), (hx16.at.sub hs').L, ok, fun c hc => hms.subset hc, hms.nodup ok.nd, by omega, by omega, by omega, fun p2 H2 hp2 hs2 hl2 => ?_⟩
        have all := hs'.trans hs2
        exact ⟨_, _, rfl, p, p2, _, _, _, _, _, _, _, rfl, hs2.get hl, hl2, hp16.sub all, hf16.subx (SubX.of all), hx16.subx (SubX.of all)⟩
      clear hp16 hf16 hx16
      rintro σ H17 ⟨l1, l2, x8, x18, x19, x20, x21, x22, x23, rfl, h117, h217, hp17, hf17, hx17⟩
      show tCutG _ _ _ _ _
      refine ⟨fun (σ : L2.St) (H' : Hp) => ∃ (l3 l4 : Addr) (x8 x20 x21 x22 x23 : Option V), σ = [some (V.ref a), some (V.ref d), some (V.int (i : Nat)), some (V.ref t), some (V.ref x), some (V.int (sg.length : Nat)), some (V.int ((sg.length ^ n : Nat) : Int)), some (V.int (n : Nat)), x8, some (V.str (txt ms)), some (V.int (la : Nat)), some (V.int (mo : Nat)), some (V.ref fo), some (V.ref du), some (V.str (txt (sg.filter fun z => !decide (z ∈ ms)))), some (V.int ((n + 2 : Nat) : Int)), some (V.ref l1), some (V.ref l2), some (V.ref l3), some (V.ref l4), x20, x21, x22, x23] ∧ H' l1 = some (.lst (rgN (n + 2) fun s => cntS sg.length (mf sg ms) s 1 (sg.length ^ n * sg.length - 1))) ∧ H' l2 = some (.lst (rgN (n + 2) fun s => cntS sg.length (mf sg ms) s 1 (sg.length ^ n - 1))) ∧ H' l3 = some (.lst (rgN (n + 2) fun s => cntS sg.length (mf sg (sg.filter fun z => !decide (z ∈ ms))) s 1 (sg.length ^ n * sg.length - 1))) ∧ H' l4 = some (.lst (rgN (n + 2) fun s => cntS sg.length (mf sg (sg.filter fun z => !decide (z ∈ ms))) s 1 (sg.length ^ n - 1))) ∧ PenAt H' d c (1000 * i + 520) ∧ FHere H' d t sg prs ∧ FontS K H' d x sg, ?_, ?_⟩
      · have hml := List.length_filter_le (fun z => !decide (z ∈ ms)) sg
        have hpw : sg.length ^ n ≤ 10 ^ 11 := Nat.le_trans (Nat.pow_le_pow_left hhi n) (Nat.pow_le_pow_right (by decide) (by omega))
        have hpw1 : 1 ≤ sg.length ^ n := Nat.pow_pos (by omega)
        obtain ⟨M, hM⟩ : ∃ M, M = sg.length ^ n := ⟨_, rfl⟩
        rw [← hM] at hpw hpw1 h117 h217 ⊢
        obtain ⟨os, hos⟩ : ∃ os, os = sg.filter fun z => !decide (z ∈ ms) := ⟨_, rfl⟩
        have hsb : os.Sublist sg := by rw [hos]; exact List.filter_sublist
        have hol := hsb.length_le
        rw [← hos]
        have hMb : M * sg.length ≤ 10 ^ 11 * 10 := Nat.mul_le_mul hpw hhi
        have hMb1 : 1 ≤ M * sg.length := Nat.mul_pos hpw1 (by omega)
        have e1 : V.int ((M : Int) * (sg.length : Nat) - 1) = V.int ((M * sg.length - 1 : Nat) : Int) := by
          congr 1
          rw [Int.ofNat_sub hMb1]
          push_cast
          rfl
        have e2 : V.int ((M : Int) - 1) = V.int ((M - 1 : Nat) : Int) := by congr 1; omega
        have hc := cmul (i := (M : Int)) (j := (sg.length : Nat)) (few (by omega) (by omega)) (few (by omega) (by omega))
        simp only [tPar, tOp, tCall, tCons, tNil, tVar, tC, rI0]
        refine ⟨_, rfl, _, rfl, _, rfl, Or.inl ⟨_, _, rfl, rfl, hc, _, _, rfl, rfl, _, rfl, _, rfl, x, sg, os, M * sg.length - 1, n + 2, (by rw [e1]; rfl), hx17.at.L, ok, fun c hc => hsb.subset hc, hsb.nodup ok.nd, by omega, by omega, by omega, fun p H' hp hs' hl => ?_⟩⟩
        refine ⟨_, rfl, _, rfl, _, _, rfl, rfl, _, rfl, _, rfl, x, sg, os, M - 1, n + 2, (by rw [e2]; rfl), (hx17.at.sub hs').L, ok, fun c hc => hsb.subset hc, hsb.nodup ok.nd, by omega, by omega, by omega, fun p2 H2 hp2 hs2 hl2 => ?_⟩
        have all := hs'.trans hs2
        exact ⟨_, _, rfl, p, p2, _, _, _, _, _, rfl, all.get h117, all.get h217, hs2.get hl, hl2, hp17.sub all, hf17.subx (SubX.of all), hx17.subx (SubX.of all)⟩
      clear h117 h217 hp17 hf17 hx17
      rintro σ H18 ⟨l3, l4, x8, x20, x21, x22, x23, rfl, h118, h218, h318, h418, hp18, hf18, hx18⟩
      refine ⟨_, rfl, ((n + 2 : Nat) : Int), rfl, by omega, by omega, ?_⟩
      refine loop_ix (fun j σ H' => (∃ (x20 x21 : Option V), σ = [some (V.ref a), some (V.ref d), some (V.int (i : Nat)), some (V.ref t), some (V.ref x), some (V.int (sg.length : Nat)), some (V.int ((sg.length ^ n : Nat) : Int)), some (V.int (n : Nat)), x8, some (V.str (txt ms)), some (V.int (la : Nat)), some (V.int (mo : Nat)), some (V.ref fo), some (V.ref du), some (V.str (txt (sg.filter fun z => !decide (z ∈ ms)))), some (V.int ((n + 2 : Nat) : Int)), some (V.ref l1), some (V.ref l2), some (V.ref l3), some (V.ref l4), x20, x21, x22, x23]) ∧ H' = H18) ⟨⟨_, _, rfl⟩, rfl⟩ (fun _ _ _ _ => trivial) ?_ ?_
      · rintro j z σ H4 v H5 hz ⟨⟨y20, y21, rfl⟩, rfl⟩ ⟨rfl, rfl⟩
        obtain ⟨rfl, hj⟩ := intsZ_get hz
        have hj : j < n + 2 := by omega
        have e0 : (0 : Int) + (j : Nat) = (j : Nat) := by omega
        rw [e0]
        have e1 : ((n + 2 : Nat) : Int) - 1 - (j : Nat) = ((n + 1 - j : Nat) : Int) := by omega
        obtain ⟨c1, hc1⟩ : ∃ c1 : Nat → Nat, c1 = fun s => cntS sg.length (mf sg ms) s 1 (sg.length ^ n * sg.length - 1) := ⟨_, rfl⟩
        obtain ⟨c2, hc2⟩ : ∃ c2 : Nat → Nat, c2 = fun s => cntS sg.length (mf sg ms) s 1 (sg.length ^ n - 1) := ⟨_, rfl⟩
        obtain ⟨c3, hc3⟩ : ∃ c3 : Nat → Nat, c3 = fun s => cntS sg.length (mf sg (sg.filter fun z => !decide (z ∈ ms))) s 1 (sg.length ^ n * sg.length - 1) := ⟨_, rfl⟩
        obtain ⟨c4, hc4⟩ : ∃ c4 : Nat → Nat, c4 = fun s => cntS sg.length (mf sg (sg.filter fun z => !decide (z ∈ ms))) s 1 (sg.length ^ n - 1) := ⟨_, rfl⟩
        rw [← hc1] at h118
        rw [← hc2] at h218
        rw [← hc3] at h318
        rw [← hc4] at h418
        have key : ((c1 j : Nat) : Int) - ((c2 j : Nat) : Int) = ((c3 (n + 1 - j) : Nat) : Int) - ((c4 (n + 1 - j) : Nat) : Int) := by
          rw [hc1, hc2, hc3, hc4]
          have hpo : ∀ dd, dd < sg.length → mf sg ms dd + mf sg (sg.filter fun z => !decide (z ∈ ms)) dd = 1 := fun dd hd => by
            rw [mf_at hd, mf_at hd]
            have hmem : sg.getD dd 0 ∈ sg := by
              simp [List.getD_eq_getElem?_getD, hd]
            by_cases q : sg.getD dd 0 ∈ ms
            · have : sg.getD dd 0 ∉ sg.filter fun z => !decide (z ∈ ms) := fun h => by
                have := (List.mem_filter.mp h).2
                simp only [q, decide_true, Bool.not_true] at this
                cases this
              rw [if_pos q, if_neg this]
            · have : sg.getD dd 0 ∈ sg.filter fun z => !decide (z ∈ ms) := List.mem_filter.mpr ⟨hmem, by simp only [q, decide_false, Bool.not_false]⟩
              rw [if_neg q, if_pos this]
          have h := cnt_length hpo hlo n (s := j) (by omega)
          rw [Nat.pow_succ] at h
          show ((cntS _ _ _ _ _ : Nat) : Int) - ((cntS _ _ _ _ _ : Nat) : Int) = ((cntS _ _ _ _ _ : Nat) : Int) - ((cntS _ _ _ _ _ : Nat) : Int)
          omega
        have g1 : ∀ {p : Addr} {T : Nat → Nat} {e : Nat} {Q : VK}, H5 p = some (.lst (rgN (n + 2) T)) → e < n + 2 → Q (V.int (T e : Nat)) H5 → rIxU (V.ref p) (V.int (e : Nat)) H5 Q := fun h he q => Or.inr (Or.inl ⟨_, _, _, _, rfl, rfl, by rw [h]; rfl, rgN_at he, q⟩)
        simp only [gName, tSeq, tAsg, tIfS, tTest, tOp, tVar, tC, rI0]
        refine ⟨_, rfl, _, _, rfl, rfl, _, rfl, _, _, rfl, rfl, _, rfl, _, rfl, g1 h118 hj ?_⟩
        refine ⟨_, rfl, _, rfl, g1 h218 hj ?_⟩
        refine ⟨_, _, rfl, rfl, _, rfl, _, rfl, ?_⟩
        rw [e1]
        refine g1 h318 (by omega) ?_
        refine ⟨_, rfl, _, rfl, ?_⟩
        refine g1 h418 (by omega) ?_
        refine ⟨_, _, rfl, rfl, ?_⟩
        rw [key]
        simp [tRet, tRetN, tDrop, tAsg, gName, tSeq, tNext, tIfS, tAndV, tOrV, tNotV, tAnd, tOr, tNot, tB, tTest, tVar, tC, tOp, tUn, tCons, tNil, tTup, tLst, tCB, tBM, tBM0, tM1, tM0, tCall, tMeth, tMake, tFldU, sFldU, tChain, tIf, tPar, tPar3, tAug, tDisp, tPairs, tDGet2, sDPut, rIsiU, rIsiTU, rLenU, rIxU, rInU, rNilU, rEqU, rNeU, rEq, rNe, rMax2U, rMin2U, rInt1U, rAbsU, scal, rAddU, rMulU, rI0, rI, rU, rListU, rTupU, rSumU, rAllU, rAnyU, rDictU, rSlU, tSl, tPart, tNoPart, rAppend, rExtend, rPop, rPopAt, rJoinU, rRepr, tSumVals, tyN_non, tyN_bl, tyN_int, tyN_str, tyN_ref, tyO_lst, tyO_tup, tyO_dK, tyO_flst, tyO_ftup, tyO_fdK, and_assoc, tyList, isT, tyAsk, lk_none, lk_frz, lk_lst, lk_tup, lk_dK, lk_ins, kV_str, kV_int, kV_kV, L2.start, E0, tForZ, zList, zTup, zStr, zRng1, zRng2, zEnumS, zEnumL, zKeys, zVals, zItems, tAugS, rGetL, rSetL, ipI, tyN_new, upd_same, tLcV, tDcZ, tYes, wipe, tLcZ, tScZ, cxOf, RVal, RTup, gTupU, gCons, gNil, tProp, tDGetU, sDPutU, rLenO, rDEqU, tBML, tBML0, tConU, tDNewK, rIsiO, rNe, scal]
      · rintro σ H4 ⟨⟨y20, y21, rfl⟩, rfl⟩
        show Pv (i + 1) _ _
        rw [hPv]
        exact ⟨_, _, _, _, _, _, _, _, _, _, _, _, _, _, _, _, _, _, _, _, _, _, rfl, hp18.mono (by omega)⟩
    · intro σ H2 hP
      rw [hPv] at hP
      obtain ⟨x2, x3, x4, x5, x6, x7, x8, x9, x10, x11, x12, x13, x14, x15, x16, x17, x18, x19, x20, x21, x22, x23, rfl, hp1⟩ := hP
      exact q _
end
end K74

set_option Elab.async false
set_option linter.all false
set_option maxRecDepth 100000
set_option maxHeartbeats 0
namespace K74
open PySem PySem.Spec PyProof.Rows L2 G
theorem txt_of {K : PySem.W.Frag} {h : Heap} {mg : Str → Option Value} (X : K.In h) (G : h.Ns mainGlobals mg) (c : SaysG fbs fns K) : Nonempty (Txt K mg) := by
  obtain ⟨fd_is_integer, F_is_integer⟩ := c.def_ 0 (d := h_is_integer) rfl
  obtain ⟨fd_is_between, F_is_between⟩ := c.def_ 1 (d := h_is_between) rfl
  obtain ⟨fd_is_list, F_is_list⟩ := c.def_ 2 (d := h_is_list) rfl
  obtain ⟨fd_is_tuple_of, F_is_tuple_of⟩ := c.def_ 3 (d := h_is_tuple_of) rfl
  obtain ⟨fd_is_sign, F_is_sign⟩ := c.def_ 4 (d := h_is_sign) rfl
  obtain ⟨fd_need_number, F_need_number⟩ := c.def_ 5 (d := h_need_number) rfl
  obtain ⟨fd_occurrences, F_occurrences⟩ := c.def_ 6 (d := h_occurrences) rfl
  obtain ⟨fd_are_counts, F_are_counts⟩ := c.def_ 7 (d := h_are_counts) rfl
  obtain ⟨fd_Wants_ddinitdd, F_Wants_ddinitdd⟩ := c.def_ 8 (d := h_Wants_ddinitdd) rfl
  obtain ⟨fd_Wants_font, F_Wants_font⟩ := c.def_ 9 (d := h_Wants_font) rfl
  obtain ⟨fd_Wants_counts, F_Wants_counts⟩ := c.def_ 10 (d := h_Wants_counts) rfl
  obtain ⟨fd_Wants_total, F_Wants_total⟩ := c.def_ 11 (d := h_Wants_total) rfl
  obtain ⟨fd_street_wants, F_street_wants⟩ := c.def_ 12 (d := h_street_wants) rfl
  obtain ⟨fd_street, F_street⟩ := c.def_ 13 (d := h_street) rfl
  obtain ⟨fd_is_font_text, F_is_font_text⟩ := c.def_ 14 (d := h_is_font_text) rfl
  obtain ⟨fd_are_turns, F_are_turns⟩ := c.def_ 15 (d := h_are_turns) rfl
  obtain ⟨fd_Font_ddinitdd, F_Font_ddinitdd⟩ := c.def_ 16 (d := h_Font_ddinitdd) rfl
  obtain ⟨fd_Font_ddeqdd, F_Font_ddeqdd⟩ := c.def_ 17 (d := h_Font_ddeqdd) rfl
  obtain ⟨fd_Font_ddlendd, F_Font_ddlendd⟩ := c.def_ 18 (d := h_Font_ddlendd) rfl
  obtain ⟨fd_Font_signs, F_Font_signs⟩ := c.def_ 19 (d := h_Font_signs) rfl
  obtain ⟨fd__law_pen, F__law_pen⟩ := c.def_ 20 (d := h__law_pen) rfl
  obtain ⟨fd__law_draw, F__law_draw⟩ := c.def_ 21 (d := h__law_draw) rfl
  obtain ⟨fd__law_pick, F__law_pick⟩ := c.def_ 22 (d := h__law_pick) rfl
  obtain ⟨fd__law_shuffled, F__law_shuffled⟩ := c.def_ 23 (d := h__law_shuffled) rfl
  obtain ⟨fd__law_font, F__law_font⟩ := c.def_ 24 (d := h__law_font) rfl
  obtain ⟨fd__law_turns, F__law_turns⟩ := c.def_ 25 (d := h__law_turns) rfl
  obtain ⟨fd__law_made_font, F__law_made_font⟩ := c.def_ 26 (d := h__law_made_font) rfl
  obtain ⟨fd_digits_of, F_digits_of⟩ := c.def_ 27 (d := h_digits_of) rfl
  obtain ⟨fd__law_block, F__law_block⟩ := c.def_ 28 (d := h__law_block) rfl
  obtain ⟨fd__law_totals, F__law_totals⟩ := c.def_ 29 (d := h__law_totals) rfl
  obtain ⟨fd__law_street, F__law_street⟩ := c.def_ 30 (d := h__law_street) rfl
  obtain ⟨fd_is_row, F_is_row⟩ := c.def_ 31 (d := h_is_row) rfl
  obtain ⟨fd_Font_ascending, F_Font_ascending⟩ := c.def_ 32 (d := h_Font_ascending) rfl
  obtain ⟨fd_need_signs, F_need_signs⟩ := c.def_ 33 (d := h_need_signs) rfl
  obtain ⟨fd_ShareCounts_ddinitdd, F_ShareCounts_ddinitdd⟩ := c.def_ 34 (d := h_ShareCounts_ddinitdd) rfl
  obtain ⟨fd_ShareCounts_free, F_ShareCounts_free⟩ := c.def_ 35 (d := h_ShareCounts_free) rfl
  obtain ⟨fd_ShareCounts_shorter, F_ShareCounts_shorter⟩ := c.def_ 36 (d := h_ShareCounts_shorter) rfl
  obtain ⟨fd_ShareCounts_by_share, F_ShareCounts_by_share⟩ := c.def_ 37 (d := h_ShareCounts_by_share) rfl
  obtain ⟨fd_add_row, F_add_row⟩ := c.def_ 38 (d := h_add_row) rfl
  obtain ⟨fd_members_of, F_members_of⟩ := c.def_ 39 (d := h_members_of) rfl
  obtain ⟨fd_share_count, F_share_count⟩ := c.def_ 40 (d := h_share_count) rfl
  obtain ⟨fd_members_for, F_members_for⟩ := c.def_ 41 (d := h_members_for) rfl
  obtain ⟨fd_count_with, F_count_with⟩ := c.def_ 42 (d := h_count_with) rfl
  obtain ⟨fd_Wants_want, F_Wants_want⟩ := c.def_ 43 (d := h_Wants_want) rfl
  obtain ⟨fd__law_row, F__law_row⟩ := c.def_ 44 (d := h__law_row) rfl
  obtain ⟨fd__law_share, F__law_share⟩ := c.def_ 45 (d := h__law_share) rfl
  obtain ⟨fd__law_some, F__law_some⟩ := c.def_ 46 (d := h__law_some) rfl
  obtain ⟨fd__law_counts, F__law_counts⟩ := c.def_ 47 (d := h__law_counts) rfl
  obtain ⟨fd_law, F_law⟩ := c.def_ 48 (d := h_law) rfl
  exact ⟨{
    fd_is_integer := fd_is_integer,
    F_is_integer := F_is_integer,
    g_is_integer := He.glo_ok X G (c.fact 0 (f := (He.Fa.glo "is_integer").ok) rfl),
    fd_is_between := fd_is_between,
    F_is_between := F_is_between,
    g_is_between := He.glo_ok X G (c.fact 1 (f := (He.Fa.glo "is_between").ok) rfl),
    fd_is_list := fd_is_list,
    F_is_list := F_is_list,
    g_is_list := He.glo_ok X G (c.fact 2 (f := (He.Fa.glo "is_list").ok) rfl),
    fd_is_tuple_of := fd_is_tuple_of,
    F_is_tuple_of := F_is_tuple_of,
    g_is_tuple_of := He.glo_ok X G (c.fact 3 (f := (He.Fa.glo "is_tuple_of").ok) rfl),
    fd_is_sign := fd_is_sign,
    F_is_sign := F_is_sign,
    g_is_sign := He.glo_ok X G (c.fact 4 (f := (He.Fa.glo "is_sign").ok) rfl),
    fd_need_number := fd_need_number,
    F_need_number := F_need_number,
    g_need_number := He.glo_ok X G (c.fact 5 (f := (He.Fa.glo "need_number").ok) rfl),
    fd_occurrences := fd_occurrences,
    F_occurrences := F_occurrences,
    g_occurrences := He.glo_ok X G (c.fact 6 (f := (He.Fa.glo "occurrences").ok) rfl),
    fd_are_counts := fd_are_counts,
    F_are_counts := F_are_counts,
    g_are_counts := He.glo_ok X G (c.fact 7 (f := (He.Fa.glo "are_counts").ok) rfl),
    fd_Wants_ddinitdd := fd_Wants_ddinitdd,
    F_Wants_ddinitdd := F_Wants_ddinitdd,
    fd_Wants_font := fd_Wants_font,
    F_Wants_font := F_Wants_font,
    fd_Wants_counts := fd_Wants_counts,
    F_Wants_counts := F_Wants_counts,
    fd_Wants_total := fd_Wants_total,
    F_Wants_total := F_Wants_total,
    fd_street_wants := fd_street_wants,
    F_street_wants := F_street_wants,
    g_street_wants := He.glo_ok X G (c.fact 8 (f := (He.Fa.glo "street_wants").ok) rfl),
    fd_street := fd_street,
    F_street := F_street,
    g_street := He.glo_ok X G (c.fact 9 (f := (He.Fa.glo "street").ok) rfl),
    fd_is_font_text := fd_is_font_text,
    F_is_font_text := F_is_font_text,
    g_is_font_text := He.glo_ok X G (c.fact 10 (f := (He.Fa.glo "is_font_text").ok) rfl),
    fd_are_turns := fd_are_turns,
    F_are_turns := F_are_turns,
    g_are_turns := He.glo_ok X G (c.fact 11 (f := (He.Fa.glo "are_turns").ok) rfl),
    fd_Font_ddinitdd := fd_Font_ddinitdd,
    F_Font_ddinitdd := F_Font_ddinitdd,
    fd_Font_ddeqdd := fd_Font_ddeqdd,
    F_Font_ddeqdd := F_Font_ddeqdd,
    fd_Font_ddlendd := fd_Font_ddlendd,
    F_Font_ddlendd := F_Font_ddlendd,
    fd_Font_signs := fd_Font_signs,
    F_Font_signs := F_Font_signs,
    fd__law_pen := fd__law_pen,
    F__law_pen := F__law_pen,
    g__law_pen := He.glo_ok X G (c.fact 12 (f := (He.Fa.glo "_law_pen").ok) rfl),
    fd__law_draw := fd__law_draw,
    F__law_draw := F__law_draw,
    g__law_draw := He.glo_ok X G (c.fact 13 (f := (He.Fa.glo "_law_draw").ok) rfl),
    fd__law_pick := fd__law_pick,
    F__law_pick := F__law_pick,
    g__law_pick := He.glo_ok X G (c.fact 14 (f := (He.Fa.glo "_law_pick").ok) rfl),
    fd__law_shuffled := fd__law_shuffled,
    F__law_shuffled := F__law_shuffled,
    g__law_shuffled := He.glo_ok X G (c.fact 15 (f := (He.Fa.glo "_law_shuffled").ok) rfl),
    fd__law_font := fd__law_font,
    F__law_font := F__law_font,
    g__law_font := He.glo_ok X G (c.fact 16 (f := (He.Fa.glo "_law_font").ok) rfl),
    fd__law_turns := fd__law_turns,
    F__law_turns := F__law_turns,
    g__law_turns := He.glo_ok X G (c.fact 17 (f := (He.Fa.glo "_law_turns").ok) rfl),
    fd__law_made_font := fd__law_made_font,
    F__law_made_font := F__law_made_font,
    g__law_made_font := He.glo_ok X G (c.fact 18 (f := (He.Fa.glo "_law_made_font").ok) rfl),
    fd_digits_of := fd_digits_of,
    F_digits_of := F_digits_of,
    g_digits_of := He.glo_ok X G (c.fact 19 (f := (He.Fa.glo "digits_of").ok) rfl),
    fd__law_block := fd__law_block,
    F__law_block := F__law_block,
    g__law_block := He.glo_ok X G (c.fact 20 (f := (He.Fa.glo "_law_block").ok) rfl),
    fd__law_totals := fd__law_totals,
    F__law_totals := F__law_totals,
    g__law_totals := He.glo_ok X G (c.fact 21 (f := (He.Fa.glo "_law_totals").ok) rfl),
    fd__law_street := fd__law_street,
    F__law_street := F__law_street,
    g__law_street := He.glo_ok X G (c.fact 22 (f := (He.Fa.glo "_law_street").ok) rfl),
    fd_is_row := fd_is_row,
    F_is_row := F_is_row,
    g_is_row := He.glo_ok X G (c.fact 23 (f := (He.Fa.glo "is_row").ok) rfl),
    fd_Font_ascending := fd_Font_ascending,
    F_Font_ascending := F_Font_ascending,
    fd_need_signs := fd_need_signs,
    F_need_signs := F_need_signs,
    g_need_signs := He.glo_ok X G (c.fact 24 (f := (He.Fa.glo "need_signs").ok) rfl),
    fd_ShareCounts_ddinitdd := fd_ShareCounts_ddinitdd,
    F_ShareCounts_ddinitdd := F_ShareCounts_ddinitdd,
    fd_ShareCounts_free := fd_ShareCounts_free,
    F_ShareCounts_free := F_ShareCounts_free,
    fd_ShareCounts_shorter := fd_ShareCounts_shorter,
    F_ShareCounts_shorter := F_ShareCounts_shorter,
    fd_ShareCounts_by_share := fd_ShareCounts_by_share,
    F_ShareCounts_by_share := F_ShareCounts_by_share,
    fd_add_row := fd_add_row,
    F_add_row := F_add_row,
    g_add_row := He.glo_ok X G (c.fact 25 (f := (He.Fa.glo "add_row").ok) rfl),
    fd_members_of := fd_members_of,
    F_members_of := F_members_of,
    g_members_of := He.glo_ok X G (c.fact 26 (f := (He.Fa.glo "members_of").ok) rfl),
    fd_share_count := fd_share_count,
    F_share_count := F_share_count,
    g_share_count := He.glo_ok X G (c.fact 27 (f := (He.Fa.glo "share_count").ok) rfl),
    fd_members_for := fd_members_for,
    F_members_for := F_members_for,
    g_members_for := He.glo_ok X G (c.fact 28 (f := (He.Fa.glo "members_for").ok) rfl),
    fd_count_with := fd_count_with,
    F_count_with := F_count_with,
    g_count_with := He.glo_ok X G (c.fact 29 (f := (He.Fa.glo "count_with").ok) rfl),
    fd_Wants_want := fd_Wants_want,
    F_Wants_want := F_Wants_want,
    fd__law_row := fd__law_row,
    F__law_row := F__law_row,
    g__law_row := He.glo_ok X G (c.fact 30 (f := (He.Fa.glo "_law_row").ok) rfl),
    fd__law_share := fd__law_share,
    F__law_share := F__law_share,
    g__law_share := He.glo_ok X G (c.fact 31 (f := (He.Fa.glo "_law_share").ok) rfl),
    fd__law_some := fd__law_some,
    F__law_some := F__law_some,
    g__law_some := He.glo_ok X G (c.fact 32 (f := (He.Fa.glo "_law_some").ok) rfl),
    fd__law_counts := fd__law_counts,
    F__law_counts := F__law_counts,
    g__law_counts := He.glo_ok X G (c.fact 33 (f := (He.Fa.glo "_law_counts").ok) rfl),
    fd_law := fd_law,
    F_law := F_law,
    g_law := He.glo_ok X G (c.fact 34 (f := (He.Fa.glo "law").ok) rfl),
    f_len := He.free_ok X G (c.fact 35 (f := (He.Fa.free "len").ok) rfl),
    f_isinstance := He.free_ok X G (c.fact 36 (f := (He.Fa.free "isinstance").ok) rfl),
    f_int := He.free_ok X G (c.fact 37 (f := (He.Fa.free "int").ok) rfl),
    f_bool := He.free_ok X G (c.fact 38 (f := (He.Fa.free "bool").ok) rfl),
    f_str := He.free_ok X G (c.fact 39 (f := (He.Fa.free "str").ok) rfl),
    f_list := He.free_ok X G (c.fact 40 (f := (He.Fa.free "list").ok) rfl),
    f_tuple := He.free_ok X G (c.fact 41 (f := (He.Fa.free "tuple").ok) rfl),
    f_dict := He.free_ok X G (c.fact 42 (f := (He.Fa.free "dict").ok) rfl),
    f_range := He.free_ok X G (c.fact 43 (f := (He.Fa.free "range").ok) rfl),
    f_max := He.free_ok X G (c.fact 44 (f := (He.Fa.free "max").ok) rfl),
    f_enumerate := He.free_ok X G (c.fact 45 (f := (He.Fa.free "enumerate").ok) rfl),
    f_all := He.free_ok X G (c.fact 46 (f := (He.Fa.free "all").ok) rfl),
    f_sum := He.free_ok X G (c.fact 47 (f := (He.Fa.free "sum").ok) rfl),
    f_min := He.free_ok X G (c.fact 48 (f := (He.Fa.free "min").ok) rfl),
    f_abs := He.free_ok X G (c.fact 49 (f := (He.Fa.free "abs").ok) rfl),
    f_repr := He.free_ok X G (c.fact 50 (f := (He.Fa.free "repr").ok) rfl),
    f_sorted := He.free_ok X G (c.fact 51 (f := (He.Fa.free "sorted").ok) rfl),
    c_MAX_COUNT := He.int_ok X G (c.fact 52 (f := (He.Fa.int "MAX_COUNT" (10 ^ 30)).ok) rfl),
    c_SIGNS := He.str_ok X G (c.fact 53 (f := (He.Fa.str "SIGNS" "0123456789abcdefghijklmnopqrstuvwxyz").ok) rfl),
    c_LEAST_SIGNS := He.int_ok X G (c.fact 54 (f := (He.Fa.int "LEAST_SIGNS" 2).ok) rfl),
    c_MOST_SHARE := He.int_ok X G (c.fact 55 (f := (He.Fa.int "MOST_SHARE" 1000).ok) rfl),
    g_Font := He.glo_ok X G (c.fact 56 (f := (He.Fa.glo "Font").ok) rfl),
    cls_Font := He.cls_ok (c.fact 57 (f := (He.Fa.cls "Font").ok) rfl),
    mk_Font := He.mkr_ok (c.fact 58 (f := (He.Fa.mkr "Font").ok) rfl),
    na_Font_word := He.noat_ok (c.fact 59 (f := (He.Fa.noat "Font" "word").ok) rfl),
    na_Font_ranks := He.noat_ok (c.fact 60 (f := (He.Fa.noat "Font" "ranks").ok) rfl),
    na_Font_heads := He.noat_ok (c.fact 61 (f := (He.Fa.noat "Font" "heads").ok) rfl),
    pr_Font_signs := propB_ok (c.fact 62 (f := (propB "Font" "signs")) rfl),
    me_Font_ddeqdd := He.meth_ok (c.fact 63 (f := (He.Fa.meth "Font" "__eq__").ok) rfl),
    me_Font_ddlendd := He.meth_ok (c.fact 64 (f := (He.Fa.meth "Font" "__len__").ok) rfl),
    me_Font_ascending := He.meth_ok (c.fact 65 (f := (He.Fa.meth "Font" "ascending").ok) rfl),
    co_Font_MAX_SIGNS := conB_ok (c.fact 66 (f := (conB "Font" "MAX_SIGNS" (.int 10))) rfl),
    g_Wants := He.glo_ok X G (c.fact 67 (f := (He.Fa.glo "Wants").ok) rfl),
    cls_Wants := He.cls_ok (c.fact 68 (f := (He.Fa.cls "Wants").ok) rfl),
    mk_Wants := He.mkr_ok (c.fact 69 (f := (He.Fa.mkr "Wants").ok) rfl),
    na_Wants_own_font := He.noat_ok (c.fact 70 (f := (He.Fa.noat "Wants" "own_font").ok) rfl),
    na_Wants_numbers := He.noat_ok (c.fact 71 (f := (He.Fa.noat "Wants" "numbers").ok) rfl),
    pr_Wants_font := propB_ok (c.fact 72 (f := (propB "Wants" "font")) rfl),
    pr_Wants_counts := propB_ok (c.fact 73 (f := (propB "Wants" "counts")) rfl),
    pr_Wants_total := propB_ok (c.fact 74 (f := (propB "Wants" "total")) rfl),
    me_Wants_want := He.meth_ok (c.fact 75 (f := (He.Fa.meth "Wants" "want").ok) rfl),
    g_ShareCounts := He.glo_ok X G (c.fact 76 (f := (He.Fa.glo "ShareCounts").ok) rfl),
    cls_ShareCounts := He.cls_ok (c.fact 77 (f := (He.Fa.cls "ShareCounts").ok) rfl),
    mk_ShareCounts := He.mkr_ok (c.fact 78 (f := (He.Fa.mkr "ShareCounts").ok) rfl),
    na_ShareCounts_base := He.noat_ok (c.fact 79 (f := (He.Fa.noat "ShareCounts" "base").ok) rfl),
    na_ShareCounts_places := He.noat_ok (c.fact 80 (f := (He.Fa.noat "ShareCounts" "places").ok) rfl),
    na_ShareCounts_free_rows := He.noat_ok (c.fact 81 (f := (He.Fa.noat "ShareCounts" "free_rows").ok) rfl),
    na_ShareCounts_shorter_rows := He.noat_ok (c.fact 82 (f := (He.Fa.noat "ShareCounts" "shorter_rows").ok) rfl),
    me_ShareCounts_free := He.meth_ok (c.fact 83 (f := (He.Fa.meth "ShareCounts" "free").ok) rfl),
    me_ShareCounts_shorter := He.meth_ok (c.fact 84 (f := (He.Fa.meth "ShareCounts" "shorter").ok) rfl),
    me_ShareCounts_by_share := He.meth_ok (c.fact 85 (f := (He.Fa.meth "ShareCounts" "by_share").ok) rfl),
    sys := sysB_ok (c.fact 86 (f := sysB) rfl),
    it_Font := insB_ok (c.fact 87 (f := (insB "Font")) rfl),
    ne_Font := He.eqO_ok (c.fact 88 (f := (neB "Font")) rfl),
    nf_Font := (c.fact 89 (f := (nfB "Font" "Font")) rfl) }⟩
end K74
open PySem PySem.W PySem.Calls PyProof.Rows
theorem PySem.Challenge.cw_hymnplates_k78_whole_counts_by_share_holds : PySem.Challenge.rw_hymnplates_k78_whole_counts_by_share.Holds := by
  w_on; o_law
  refine HandSHeadRun.head_any (r := OpenLaw.row PySem.Challenge.rw_hymnplates_k78_whole_counts_by_share) (q := view (OpenLaw.row PySem.Challenge.rw_hymnplates_k78_whole_counts_by_share).prog [60]) (H := K74.hk) (ob := K74.ob) (M := 20000) (loose := K74.names) (d := HandSHeadRun.topDef (OpenLaw.row PySem.Challenge.rw_hymnplates_k78_whole_counts_by_share).prog 60) (kwd := []) K74.ob_eq
    (by kernel_rfl) (fun s => by kernel_rfl) K74.run (by kernel_rfl) (by kernel_rfl) (by kernel_rfl) (by rfl) (by first | assumption | decide +kernel) (by decide +kernel) ⟨rfl, rfl, rfl, rfl, rfl, by decide +kernel⟩ ?hw ?hc
  case hw => w_witness2
  case hc =>
    refine G.walk_ofG (l := PySem.Challenge.rw_hymnplates_k78_whole_counts_by_share) (n := 63) (k := 9) (x := "_law_script") (CX := fun _ => L2.CX0) rfl (by decide) (by kernel_rfl) ⟨rfl, by decide, by decide⟩ ?F (fun _ _ _ _ _ z => z)
    intro w mg fa h Y G hmg0
    obtain ⟨K, KX, c⟩ := Y
    have hmg : mg ("law" : PySem.Str) = some (.ref fa) := by
      have e : (HandSHeadRun.topDef (OpenLaw.row PySem.Challenge.rw_hymnplates_k78_whole_counts_by_share).prog 60).name = ("law" : PySem.Str) := by kernel_rfl
      rw [← e]
      exact hmg0
    obtain ⟨T⟩ := K74.txt_of KX G c
    have e := hmg.symm.trans T.g_law
    cases e
    have b := L2.FunD.bindsA (ps := ["_law_script"]) T.F_law fun _ _ _ _ _ _ us hl => match us, hl with | [_], _ => rfl
    exact ⟨K, T.fd_law, K74.sp_law K, KX, fun s v => b s [v] rfl, fun H a ns hl _ _ hS => ⟨a, ns, rfl, hS, fun _ => rfl⟩, fun base _ _ => K74.ok_law T⟩


