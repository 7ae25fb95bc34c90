import PyProof.Rows.All
import Wide.All
import OpenK.AllK
import Wide.FinOn
import KE.KStateDown
import Lean
import HandS.ForMost
import HandS.More
import HandS.WordsExc
import HandS.Defaults
import HandS.IsInst
import HandS.Wide
import HandS.Flow
import HandS.Conv
import HandS.Replace
import HandS.EndBits
import HandS.Head0
import HandS.Head1
import HandS.Head2
import HandS.HeadEnd
import HandS.HeadHook1
import HandS.HeadHook2
import HandS.Walk
import HandS.SetBool
import HandS.SetKeys
import KE.GoesMore
import PyProof.EnumMake
import HandS.ExcInit
import HandS.ExcField
import HandS.ExcOwn
import HandS.ClsMeth
import HandS.DictComp
import HandS.WordsDict
import PyProof.ReprLen
import HandS.MakeKwOnly
import HandS.OwnEq
import HandS.ListItems
import PyProof.InstEq
import PyProof.EqKinds
import PyProof.FactsAll.dict
import KE.KCallOwn
import HandS.FStr
import HandS.IterVal
import HandS.ExcValue
import KE.KExcIs
import HandS.TupLe
import HandS.StrMore
import HandS.Zip
import PyProof.FString5
import HandS.Hot
import HandS.HotCalls
import HandS.ExcCtx
import HandS.ExcInitHot
import PySem.Challenge.RW_termshelf_k02_letters_and_numbers
set_option Elab.async false
set_option linter.all false
set_option maxRecDepth 100000
/-! ### 1. promises of defs that may show things (repr): no guard runs around -/
namespace TS
open PySem PySem.Spec PyProof.Rows L2
structure FnG (P : Program) (w : World) (K : PySem.W.Frag) (mg : Str → Option Value) (base : Heap) (CX : CXT) (k : Nat) (f : Addr) (fd : FuncData) (ps : List Str) (sp : Sp) : Prop where
  len : ∀ vs H Q E, sp vs H Q E → vs.length = ps.length
  run : ∀ (A : Around) (outer : List Env) (s : Shared) (H : Hp) (args : Args) (us : List Value) (vs : List V) (Q : VK) (E : XK), A.guards = some [] → Room k A → Env0 P w K mg base A outer s H →
    BindsTo s fd args (ps.zip us) → Vals vs us → sp vs H Q E → codeAny (model P w) A (.call (.ref f) args) (CR CX outer P w H s Q E) s
section
variable {P : Program} {w : World} {K : PySem.W.Frag} {mg : Str → Option Value} {base : Heap} {CX : CXT} {k : Nat} {f : Addr} {fd : FuncData} {ps : List Str} {sp : Sp}
theorem FnG.of (F : FnOk P w K mg base CX k f fd ps sp) : FnG P w K mg base CX k f fd ps sp := ⟨F.len, fun A outer s H args us vs Q E _ => F.run A outer s H args us vs Q E⟩
/-- the body's rule, the guards told -/
theorem okG {x qual : Str} {params : Arguments} {body : List Stmt} {scope : Scope} {dvs : List V} {kws : List (Str × V)} {N : List Str} (F : FunD K x qual params body scope dvs kws f fd) (S : FnScope N ps scope)
    (len : ∀ vs H Q E, sp vs H Q E → vs.length = ps.length)
    (hbody : ∀ (cdv : Value) (A : Around) (outer : List Env) (s : Shared) (H : Hp) (vs : List V) (Q : VK) (E : XK), (A.deeper (envOfC qual scope s.heap.objs.size f cdv)).guards = some [] →
      Room k (A.deeper (envOfC qual scope s.heap.objs.size f cdv)) → sp vs H Q E →
      ∃ t, PSs (cxOf CX P w K mg base N qual scope f cdv A outer s H E) body t ∧ t { nx := fun _ H' => Q .non H', rt := Q } (start N vs) H) : FnG P w K mg base CX (k + 1) f fd ps sp := by
  obtain ⟨oc, od, dV, kV, doc, pm, an, cdv, ct, osl, rfl, lk, hcd, _, _⟩ := F.ex
  refine ⟨len, fun A outer s H args us vs Q E hg hr e0 hb r hsp => ?_⟩
  have KX : K.In s.heap := e0.mod.kin.keeps fun b o e => (e0.bs b o e).1
  have NL : s.heap.NoLimit := e0.mod.nolimit.keeps fun b o e => (e0.bs b o e).1
  have kinds : ∀ y ∈ ps.zip us, scope.names.lookup y.1 = some .local ∨ (scope.names.lookup y.1 = some .cell ∧ ((cellsFrom (s.heap.objs.size + 1) scope.names []).lookup y.1).isSome = true) := by
    rintro ⟨n, v⟩ hy
    exact (S.par n (List.of_mem_zip hy).1).imp id fun q => ⟨q, PySem.W.cellsFrom_some _ _ _ (.inl q)⟩
  refine codeAny_call_function hr.depth (KX _ _ lk) rfl S.co S.gen rfl (PySem.W.codeRec_of KX hcd) (hb _ _ _ _ (wpAny_newFunctionEnv_cells S.kind kinds fun env he s1 x => ?_))
  subst he
  obtain ⟨t, ht, hq⟩ := hbody cdv A outer s H vs Q E hg (hr.deeper _) hsp
  have I0 := inv_start (CX := CX) (E := E) (f := f) (cd := cdv) (qual := qual) S hr.hd e0 (len _ _ _ _ hsp) r x
  refine ⟨NL.keeps x.toInCall.keep, codeAny_func (wpAny_mono (ht.run [] s1 (start N vs) H _ I0 hq) (fun fl s' hs => ?_) fun _ _ z => z)⟩
  cases fl with
  | ret u => exact let ⟨v, _, H', J, rv, q⟩ := hs; ⟨v, H', J.os, J.bare, J.base, J.hok, rv, q⟩
  | next => exact let ⟨_, H', J, q⟩ := hs; ⟨V.non, H', J.os, J.bare, J.base, J.hok, rfl, q⟩
  | brk => exact let ⟨_, _, _, q⟩ := hs; False.elim q
  | cont => exact let ⟨_, _, _, q⟩ := hs; False.elim q
end
section
variable {X : Cx} {CX : CXT} {k : Nat} {f C : Addr} {fd : FuncData} {ps : List Str} {sp : Sp} {dvs : List V} {ds : List Value} {E : XK} {x m : Str} {p pos apos : Pos} {e o : Expr} {es : List Expr} {ta : TE} {t : TA}
theorem run_G {pins : List (Addr × Obj)} {σ : L2.St} {H : Hp} {s : Shared} {Q : VK} {us : List Value} {vs : List V} (F : FnG X.prog X.w X.K X.mg X.base CX k f fd ps sp) (hgd : X.A.guards = some []) (hr : Room k X.A)
    (hb : Binds X.K fd ps ds) (hd : Vals dvs ds) (hx : Passes CX X E) (I : Inv X pins σ H s) (r : Vals vs us) (h : sp (vs ++ dvs) H Q E) : wpAny (model X.prog X.w) X.A (call (.ref f) us) (EP X pins σ Q) X.xe s := by
  have r2 := r.append hd
  have hl : (us ++ ds).length = ps.length := r2.length.symm.trans (F.len _ _ _ _ h)
  refine wpAny_call (codeAny_mono (F.run X.A X.stack s H ⟨us, []⟩ (us ++ ds) (vs ++ dvs) Q E hgd hr I.env0 (hb s us I.kIn hl) r2 h) fun r s' hq => ?_)
  match r, hq with
  | .error e, hq => exact hx pins σ H s e s' I hq
  | .ok (.ret u), hq => exact I.after hq
theorem pe_callG (F : FnG X.prog X.w X.K X.mg X.base CX k f fd ps sp) (hgd : X.A.guards = some []) (hr : Room k X.A) (hg : Gl X x) (hm : X.mg x = some (.ref f)) (hk : PySem.W.keepIn X.K (.ref f) = true)
    (hb : Binds X.K fd ps ds) (hd : Vals dvs ds) (hx : Passes CX X E) (ha : PA X (e :: es) t) (hdb : (x == ("__debug__" : Str)) = false := by decide)
    (he : starEach (e :: es) X.env = (false, eval e X.env) :: starEach es X.env := by rfl) (hpl : (backTo pos (starEach es X.env)).any (·.1) = false := by rfl) :
    PE X (.Call (.Name x p) (e :: es) [] pos) (tCall sp dvs E t) := by
  refine ⟨fun pins s σ H Q I h => wpAny_Call_Name_kw (ld_glob I hg hm ?_ hdb)⟩
  exact PySem.W.callWith_K (h₀ := X.base) I.ok.mod.kin hk (thn (ha.run pos pins s σ H _ I h) fun us s1 ⟨vs, H1, I1, r, q⟩ => ⟨I1.kIn, run_G F hgd hr hb hd hx I1 r q⟩) he hpl
end

/-! ### 2. data at any depth, dicts too, and how they are shown -/
def kD : Key → PyData
  | .inl i => .int i
  | .inr x => .str x
mutual
inductive Dt (K : PySem.W.Frag) (H : Hp) : V → PyData → Prop
  | non : Dt K H .non .none
  | bl (b : Bool) : Dt K H (.bl b) (.bool b)
  | int (i : Int) : Dt K H (.int i) (.int i)
  | str (x : Str) : Dt K H (.str x) (.str x)
  | lst {a : Addr} {xs : List V} {ds : List PyData} : SqL K H a xs → DtAll K H xs ds → Dt K H (.ref a) (.list ds)
  | tup {a : Addr} {xs : List V} {ds : List PyData} : SqT K H a xs → DtAll K H xs ds → Dt K H (.ref a) (.tuple ds)
  | dct {a : Addr} {ks : List Key} {xs : List V} {ds : List PyData} : H a = some (.dK (ks.zip xs)) → ks.length = xs.length → DtAll K H xs ds → Dt K H (.ref a) (.dict ((ks.map kD).zip ds))
inductive DtAll (K : PySem.W.Frag) (H : Hp) : List V → List PyData → Prop
  | nil : DtAll K H [] []
  | cons {v : V} {vs : List V} {d : PyData} {ds : List PyData} : Dt K H v d → DtAll K H vs ds → DtAll K H (v :: vs) (d :: ds)
end
theorem DtAll.length {K : PySem.W.Frag} {H : Hp} : ∀ {vs : List V} {ds : List PyData}, DtAll K H vs ds → vs.length = ds.length
  | _, _, .nil => rfl
  | _, _, .cons _ t => congrArg (· + 1) (DtAll.length t)
theorem SqT.same {K : PySem.W.Frag} {H H' : Hp} {a : Addr} {xs : List V} (e : Same H H') (h : SqT K H a xs) : SqT K H' a xs := by
  rcases h with (h | ⟨o, h⟩) | h
  · exact .inl (.inl (e _ _ h))
  · exact .inl (.inr ⟨o, e _ _ h⟩)
  · exact .inr h
mutual
theorem Dt.same {K : PySem.W.Frag} {H H' : Hp} (e : Same H H') : ∀ {v : V} {d : PyData}, Dt K H v d → Dt K H' v d
  | _, _, .non => .non
  | _, _, .bl b => .bl b
  | _, _, .int i => .int i
  | _, _, .str x => .str x
  | _, _, .lst h a => .lst (e.seq h) (DtAll.same e a)
  | _, _, .tup h a => .tup (SqT.same e h) (DtAll.same e a)
  | _, _, .dct h l a => .dct (e _ _ h) l (DtAll.same e a)
theorem DtAll.same {K : PySem.W.Frag} {H H' : Hp} (e : Same H H') : ∀ {v : List V} {d : List PyData}, DtAll K H v d → DtAll K H' v d
  | _, _, .nil => .nil
  | _, _, .cons a b => .cons (Dt.same e a) (DtAll.same e b)
end
/-- what the written part tells of the machine's own objects -/
structure Sys (K : PySem.W.Frag) : Prop where
  mods : ∃ o, K.lookup sysModules = some o ∧ o.cls = .type "dict"
  book : PySem.W.nsIn K cStatics sharingNotToldKey = some none
section
variable {X : Cx} {pins : List (Addr × Obj)} {σ : L2.St} {H : Hp} {s : Shared}
theorem noMods (Y : Sys X.K) (I : Inv X pins σ H s) {a : Addr} {o : Obj} (e : s.heap.get? a = some o) (h : o.cls ≠ .type "dict") : sysModules ≠ a := fun z => by
  obtain ⟨o', h1, h2⟩ := Y.mods
  have q := I.kIn _ _ h1
  rw [z, e] at q
  cases q
  exact h h2
theorem keys_read : ∀ {es : List DictEntry} {vs : List (Key × Value)}, Pairs (mixKind X.prog X.w) es vs → ReadsAll s.heap (es.map (·.key)) (vs.map fun kv => kD kv.1) []
  | _, _, .nil => .nil
  | _, _, .cons hk hv t => by
    have q := keys_read t
    rcases keyIs_shape hk with ⟨i, t, e1, e2⟩ | ⟨x, t, e1, e2⟩
    · rw [List.map_cons, List.map_cons, e2]
      show ReadsAll s.heap _ (kD _ :: _) _
      rw [e1]
      exact ReadsAll.cons (as := []) (Reads.int i t) q
    · rw [List.map_cons, List.map_cons, e2]
      show ReadsAll s.heap _ (kD _ :: _) _
      rw [e1]
      exact ReadsAll.cons (as := []) (Reads.str x t) q
theorem vals_read : ∀ {es : List DictEntry} {vs : List (Key × Value)}, Pairs (mixKind X.prog X.w) es vs → es.map (·.val) = vs.map (·.2)
  | _, _, .nil => rfl
  | _, _, .cons _ hv t => by rw [List.map_cons, List.map_cons, hv, vals_read t]
theorem kv_fst {κ : Type} : ∀ {kvs : List (κ × V)} {vs : List (κ × Value)}, KV kvs vs → kvs.map (·.1) = vs.map (·.1)
  | _, _, .nil => rfl
  | _, _, .cons r t => by rw [List.map_cons, List.map_cons, r.1, kv_fst t]
theorem kv_snd {κ : Type} : ∀ {kvs : List (κ × V)} {vs : List (κ × Value)}, KV kvs vs → Vals (kvs.map (·.2)) (vs.map (·.2))
  | _, _, .nil => .nil
  | _, _, .cons r t => .cons r.2 (kv_snd t)
theorem zip_fst {α β : Type} : ∀ {l : List α} {m : List β}, l.length = m.length → (l.zip m).map (·.1) = l
  | [], _, _ => by simp
  | a :: l, [], h => by simp at h
  | a :: l, b :: m, h => by
    rw [List.zip_cons_cons, List.map_cons, zip_fst (by simpa using h)]
theorem zip_snd {α β : Type} : ∀ {l : List α} {m : List β}, l.length = m.length → (l.zip m).map (·.2) = m
  | [], m, h => by cases m <;> simp_all
  | a :: l, [], h => by simp
  | a :: l, b :: m, h => by
    rw [List.zip_cons_cons, List.map_cons, zip_snd (by simpa using h)]
mutual
theorem Dt.reads (Y : Sys X.K) (I : Inv X pins σ H s) : ∀ {v : V} {d : PyData} {u : Value}, Dt X.K H v d → RelV v u → ∃ as, Reads s.heap u d as ∧ sysModules ∉ as
  | _, _, _, .non, r => by
    cases r
    exact ⟨_, Reads.none, by simp⟩
  | _, _, _, .bl b, r => by
    cases r
    exact ⟨_, Reads.bool b, by simp⟩
  | _, _, _, .int i, r => by
    obtain ⟨t, rfl⟩ := r
    exact ⟨_, Reads.int i t, by simp⟩
  | _, _, _, .str x, r => by
    obtain ⟨t, rfl⟩ := r
    exact ⟨_, Reads.str x t, by simp⟩
  | _, _, _, .lst hs ha, r => by
    cases r
    obtain ⟨its, rv, ⟨o, n, ho, hc, _, hd⟩, _⟩ := I.list hs
    obtain ⟨as, hr, hn⟩ := DtAll.reads Y I ha rv
    have ne := noMods Y I ho (by rw [hc]; decide +kernel)
    exact ⟨_, Reads.list ho hc hd hr, fun z => (List.mem_cons.mp z).elim ne hn⟩
  | _, _, _, .tup hs ha, r => by
    cases r
    obtain ⟨its, rv, ⟨o, ho, hc, n, hd⟩, _⟩ := I.tuple hs
    obtain ⟨as, hr, hn⟩ := DtAll.reads Y I ha rv
    exact ⟨_, Reads.tuple ho hc hd hr, hn⟩
  | _, _, _, .dct (a := a) (ks := ks) (xs := xs) (ds := ds) h l ha, r => by
    cases r
    obtain ⟨hz, hS, vs, rk, o, es, ep, ho, hx, hd, _, hp, _⟩ := (show ObjOk X.prog X.w H s.heap a (.dK (ks.zip xs)) from I.hok a _ h)
    have e1 := (kv_fst rk).symm.trans (zip_fst l)
    have e2 := kv_snd rk
    rw [zip_snd l] at e2
    obtain ⟨as, hr, hn⟩ := DtAll.reads Y I ha e2
    have q1 : ReadsAll s.heap (es.toList.map (·.key)) (ks.map kD) [] := by
      have z := keys_read (s := s) hp
      have z2 : vs.map (fun kv => kD kv.1) = ks.map kD := by rw [← e1, List.map_map]; rfl
      rw [z2] at z
      exact z
    have ln : (ks.map kD).length = ds.length := by rw [List.length_map, l, ha.length]
    have q2 := vals_read hp
    refine ⟨a :: [] ++ as, Reads.dict ho hx.1 hd (by rw [zip_fst ln]; exact q1) (by rw [zip_snd ln, q2]; exact hr), fun z => ?_⟩
    rcases List.mem_cons.mp (show sysModules ∈ a :: as from z) with z | z
    · exact absurd z.symm (by simpa using hS)
    · exact hn z
theorem DtAll.reads (Y : Sys X.K) (I : Inv X pins σ H s) : ∀ {vs : List V} {ds : List PyData} {us : List Value}, DtAll X.K H vs ds → Vals vs us → ∃ as, ReadsAll s.heap us ds as ∧ sysModules ∉ as
  | _, _, _, .nil, r => by
    cases r
    exact ⟨_, ReadsAll.nil, by simp⟩
  | _, _, _, .cons h1 h2, r => by
    cases r with
    | cons r1 r2 =>
      obtain ⟨as, q1, n1⟩ := Dt.reads Y I h1 r1
      obtain ⟨bs, q2, n2⟩ := DtAll.reads Y I h2 r2
      exact ⟨_, ReadsAll.cons q1 q2, fun z => (List.mem_append.mp z).elim n1 n2⟩
end
/-- repr(x), x data -/
def rRepr (K : PySem.W.Frag) : List V → Hp → VK → Prop := fun xs H Q => ∃ x d, xs = [x] ∧ Dt K H x d ∧ d.showable = true ∧ d.depth ≤ 40 ∧ d.shown.length ≤ sizeLine ∧ Q (.str d.shown) H
theorem call_repr (Y : Sys X.K) (hgd : X.A.guards = some []) (hu : X.A.units + 64 < cLine) : CallR X (.builtin "repr") (rRepr X.K) := by
  intro pins s σ H xs us Q I r h
  obtain ⟨x, d, rfl, hd, hs, hp, hz, q⟩ := h
  obtain ⟨u, rfl, r1⟩ := vals1 r
  obtain ⟨as, rd, hn⟩ := Dt.reads Y I hd r1
  have fin : ∀ h' v tk, (∀ b o, s.heap.get? b = some o → h'.get? b = some o) → EP X pins σ Q (.str d.shown v) { s with heap := h', toks := tk } := fun h' v tk hk => ⟨.str d.shown, H, I.kept hk, ⟨_, rfl⟩, q⟩
  cases hd with
  | non => cases r1; exact PySem.P.repr_of_none (fin _ _ _ fun _ _ z => z)
  | bl b => cases r1; exact PySem.P.repr_of_bool (fin _ _ _ fun _ _ z => z)
  | int i =>
    obtain ⟨t, rfl⟩ := r1
    exact PySem.P.repr_of_int (by simpa [PyData.showable] using hs) (fin _ _ _ fun _ _ z => z)
  | str y =>
    obtain ⟨t, rfl⟩ := r1
    exact PySem.P.repr_of_str (fin _ _ _ fun _ _ z => z) hz
  | lst h1 h2 => cases r1; exact repr_of_reads' rd hs (fun _ => hn) hgd (by omega) (fun _ _ e => e) fin hz
  | tup h1 h2 => cases r1; exact repr_of_reads' rd hs (fun _ => hn) hgd (by omega) (fun _ _ e => e) fin hz
  | dct h1 h2 h3 => cases r1; exact repr_of_reads' rd hs (fun _ => hn) hgd (by omega) (fun _ _ e => e) fin hz
theorem ns_none {K : PySem.W.Frag} {h : Heap} {a : Addr} {m : Str → Option Value} {n : Str} (X : K.In h) (G : h.Ns a m) (e : PySem.W.nsIn K a n = some none) : m n = none := by
  obtain ⟨o, es, ep, ho, hd, _, hf⟩ := G
  unfold PySem.W.nsIn at e
  split at e
  · rename_i c d es' n' sl q
    have z := X _ _ q
    rw [ho] at z
    cases z
    cases hd
    split at e
    · cases e
    · rename_i he
      rw [← hf]
      unfold nsFind findBy
      rw [← Array.find?_toList, he]
      rfl
  · cases e
theorem unbooked (Y : Sys X.K) (I : Inv X pins σ H s) : NoneBooked s.heap := by
  obtain ⟨mc, h1, h2⟩ := I.nolimit
  exact ⟨mc, h1, ns_none I.kIn h1 Y.book⟩
end
end TS

/-! ### 3. defs by their promises -/
namespace TS
open PySem PySem.Spec PyProof.Rows L2
def Def (K : PySem.W.Frag) (mg : Str → Option Value) (x : Str) (st : Stmt) : Prop := ∃ f fd, FunD K x x (defArgs st) (defBody st) (defScope st) [] [] f fd ∧ mg x = some (.ref f)
def Prom (P : Program) (w : World) (K : PySem.W.Frag) (mg : Str → Option Value) (base : Heap) (k : Nat) (x : Str) (ps : List Str) (sp : Sp) : Prop :=
  ∃ f fd, FnOk P w K mg base CX0 k f fd ps sp ∧ mg x = some (.ref f) ∧ PySem.W.keepIn K (.ref f) = true ∧ Binds K fd ps []
def PromG (P : Program) (w : World) (K : PySem.W.Frag) (mg : Str → Option Value) (base : Heap) (k : Nat) (x : Str) (ps : List Str) (sp : Sp) : Prop :=
  ∃ f fd, FnG P w K mg base CX0 k f fd ps sp ∧ mg x = some (.ref f) ∧ PySem.W.keepIn K (.ref f) = true ∧ Binds K fd ps []
section
variable {X : Cx} {k : Nat} {ps : List Str} {sp : Sp} {x : Str} {p pos : Pos} {e : Expr} {es : List Expr} {t : TA}
theorem pe_pc (pr : Prom X.prog X.w X.K X.mg X.base k x ps sp) (hr : Room k X.A) (hg : Gl X x) (ha : PA X (e :: es) t) (hdb : (x == ("__debug__" : Str)) = false := by decide)
    (he : starEach (e :: es) X.env = (false, eval e X.env) :: starEach es X.env := by rfl) (hpl : (backTo pos (starEach es X.env)).any (·.1) = false := by rfl) :
    PE X (.Call (.Name x p) (e :: es) [] pos) (tCall sp [] E0 t) := by
  obtain ⟨f, fd, F, m, kp, b⟩ := pr
  exact pe_call F hr hg m kp b .nil pass0 ha hdb he hpl
theorem pe_pcG (pr : PromG X.prog X.w X.K X.mg X.base k x ps sp) (hgd : X.A.guards = some []) (hr : Room k X.A) (hg : Gl X x) (ha : PA X (e :: es) t) (hdb : (x == ("__debug__" : Str)) = false := by decide)
    (he : starEach (e :: es) X.env = (false, eval e X.env) :: starEach es X.env := by rfl) (hpl : (backTo pos (starEach es X.env)).any (·.1) = false := by rfl) :
    PE X (.Call (.Name x p) (e :: es) [] pos) (tCall sp [] E0 t) := by
  obtain ⟨f, fd, F, m, kp, b⟩ := pr
  exact pe_callG F hgd hr hg m kp b .nil pass0 ha hdb he hpl
end
section
variable {P : Program} {w : World} {K : PySem.W.Frag} {mg : Str → Option Value} {base : Heap} {N ps : List Str} {k : Nat} {sp : Sp} {x : Str} {st : Stmt}
theorem prom_mk (D : Def K mg x st) (S : FnScope N ps (defScope st)) (len : ∀ vs H Q E, sp vs H Q E → vs.length = ps.length)
    (hb : ∀ (kV doc pm : Value) (an : Option Addr) (cdv ct : Value) (us : List Value), us.length = ps.length → bindArgs (PySem.W.fnOf x x (defArgs st) (defBody st) (defScope st) .none kV doc pm an cdv ct) ⟨us, []⟩ = pure (ps.zip us))
    (body : ∀ (f : Addr) (cdv : Value) (A : Around) (outer : List Env) (s : Shared) (H : Hp) (vs : List V) (Q : VK) (E : XK), Room k (A.deeper (envOfC x (defScope st) s.heap.objs.size f cdv)) → sp vs H Q E →
      ∃ t, PSs (cxOf CX0 P w K mg base N x (defScope st) f cdv A outer s H E).nox (defBody st) t ∧ t { nx := fun _ H' => Q .non H', rt := Q } (start N vs) H) : Prom P w K mg base (k + 1) x ps sp := by
  obtain ⟨f, fd, F, m⟩ := D
  refine ⟨f, fd, F.ok S len fun cdv A outer s H vs Q E hr h => ?_, m, F.kp, F.bindsN hb⟩
  obtain ⟨t, h1, h2⟩ := body f cdv A outer s H vs Q E hr h
  exact ⟨t, h1.nox, h2⟩
theorem promG_mk (D : Def K mg x st) (S : FnScope N ps (defScope st)) (len : ∀ vs H Q E, sp vs H Q E → vs.length = ps.length)
    (hb : ∀ (kV doc pm : Value) (an : Option Addr) (cdv ct : Value) (us : List Value), us.length = ps.length → bindArgs (PySem.W.fnOf x x (defArgs st) (defBody st) (defScope st) .none kV doc pm an cdv ct) ⟨us, []⟩ = pure (ps.zip us))
    (body : ∀ (f : Addr) (cdv : Value) (A : Around) (outer : List Env) (s : Shared) (H : Hp) (vs : List V) (Q : VK) (E : XK), (A.deeper (envOfC x (defScope st) s.heap.objs.size f cdv)).guards = some [] →
      Room k (A.deeper (envOfC x (defScope st) s.heap.objs.size f cdv)) → sp vs H Q E →
      ∃ t, PSs (cxOf CX0 P w K mg base N x (defScope st) f cdv A outer s H E).nox (defBody st) t ∧ t { nx := fun _ H' => Q .non H', rt := Q } (start N vs) H) : PromG P w K mg base (k + 1) x ps sp := by
  obtain ⟨f, fd, F, m⟩ := D
  refine ⟨f, fd, okG F S len fun cdv A outer s H vs Q E hg hr h => ?_, m, F.kp, F.bindsN hb⟩
  obtain ⟨t, h1, h2⟩ := body f cdv A outer s H vs Q E hg hr h
  exact ⟨t, h1.nox, h2⟩
end
section
variable {P : Program} {w : World} {K : PySem.W.Frag} {mg : Str → Option Value} {base : Heap} {N ps : List Str} {k : Nat} {sp : Sp} {x : Str} {st : Stmt} {f : Addr} {fd : FuncData}
theorem fnG_mk (F : FunD K x x (defArgs st) (defBody st) (defScope st) [] [] f fd) (S : FnScope N ps (defScope st)) (len : ∀ vs H Q E, sp vs H Q E → vs.length = ps.length)
    (body : ∀ (f : Addr) (cdv : Value) (A : Around) (outer : List Env) (s : Shared) (H : Hp) (vs : List V) (Q : VK) (E : XK), (A.deeper (envOfC x (defScope st) s.heap.objs.size f cdv)).guards = some [] →
      Room k (A.deeper (envOfC x (defScope st) s.heap.objs.size f cdv)) → sp vs H Q E →
      ∃ t, PSs (cxOf CX0 P w K mg base N x (defScope st) f cdv A outer s H E).nox (defBody st) t ∧ t { nx := fun _ H' => Q .non H', rt := Q } (start N vs) H) : FnG P w K mg base CX0 (k + 1) f fd ps sp := by
  refine okG F S len fun cdv A outer s H vs Q E hg hr h => ?_
  obtain ⟨t, h1, h2⟩ := body f cdv A outer s H vs Q E hg hr h
  exact ⟨t, h1.nox, h2⟩
end
/-- the built-in names that the text leaves alone -/
structure Bt (mg : Str → Option Value) : Prop where
  len_ : mg "len" = none
  isinstance_ : mg "isinstance" = none
  range_ : mg "range" = none
  max_ : mg "max" = none
  min_ : mg "min" = none
  int_ : mg "int" = none
  str_ : mg "str" = none
  bool_ : mg "bool" = none
  repr_ : mg "repr" = none
  all_ : mg "all" = none
  any_ : mg "any" = none
  list_ : mg "list" = none
  tuple_ : mg "tuple" = none
  dict_ : mg "dict" = none
  set_ : mg "set" = none
  sorted_ : mg "sorted" = none
  enumerate_ : mg "enumerate" = none
  zip_ : mg "zip" = none
  reversed_ : mg "reversed" = none
def btNames : List Str := ["len", "isinstance", "range", "max", "min", "int", "str", "bool", "repr", "all", "any", "list", "tuple", "dict", "set", "sorted", "enumerate", "zip", "reversed"]
theorem bt_of {K : PySem.W.Frag} {h : Heap} {mg : Str → Option Value} (X : K.In h) (G : h.Ns mainGlobals mg) (c : btNames.all (fun x => (He.Fa.free x).ok K) = true) : Bt mg := by
  have z : ∀ x ∈ btNames, mg x = none := fun x hx => He.free_ok X G (List.all_eq_true.mp c x hx)
  refine ⟨z _ ?_, z _ ?_, z _ ?_, z _ ?_, z _ ?_, z _ ?_, z _ ?_, z _ ?_, z _ ?_, z _ ?_, z _ ?_, z _ ?_, z _ ?_, z _ ?_, z _ ?_, z _ ?_, z _ ?_, z _ ?_, z _ ?_⟩ <;> decide +kernel

/-! ### 4. heaps: what is kept but for one object -/
def Fx (b : Addr) (H H' : Hp) : Prop := ∀ a o, a ≠ b → H a = some o → H' a = some o
def hide (H : Hp) (b : Addr) : Hp := fun a => if a = b then none else H a
theorem hide_self {H : Hp} {b : Addr} : hide H b b = none := by unfold hide; rw [if_pos rfl]
theorem hide_ne {H : Hp} {a b : Addr} (h : a ≠ b) : hide H b a = H a := by unfold hide; rw [if_neg h]
theorem hide_same {H : Hp} {b : Addr} : Same (hide H b) H := fun a o e => by
  unfold hide at e
  split at e
  · cases e
  · exact e
theorem Fx.refl (b : Addr) (H : Hp) : Fx b H H := fun _ _ _ e => e
theorem Fx.trans {b : Addr} {H H1 H2 : Hp} (x : Fx b H H1) (y : Fx b H1 H2) : Fx b H H2 := fun a o h e => y a o h (x a o h e)
theorem Fx.of {b : Addr} {H H' : Hp} (s : Same H H') : Fx b H H' := fun a o _ e => s a o e
theorem Fx.upd {b : Addr} {H H' : Hp} {o : HO} (x : Fx b H H') : Fx b H (upd H' b o) := fun a u h e => by
  rw [upd_ne h]
  exact x a u h e
theorem Fx.new {b p : Addr} {H H' : Hp} {o : HO} (x : Fx b H H') (h : H' p = none) : Fx b H (L2.upd H' p o) := fun a u ha e => by
  have q := x a u ha e
  rw [upd_ne (ne_of_none q h)]
  exact q
theorem Fx.hide {b : Addr} {H H' : Hp} (x : Fx b H H') : Same (hide H b) (hide H' b) := fun a o e => by
  have h : a ≠ b := fun z => by rw [z, hide_self] at e; cases e
  rw [hide_ne h] at e ⊢
  exact x a o h e
theorem Fx.sq {K : PySem.W.Frag} {b a : Addr} {H H' : Hp} {xs : List V} (x : Fx b H H') (h : a ≠ b) (s : SqL K H a xs) : SqL K H' a xs := by
  rcases s with (q | ⟨o, q⟩) | q
  · exact .inl (.inl (x _ _ h q))
  · exact .inl (.inr ⟨o, x _ _ h q⟩)
  · exact .inr q
theorem Same.new {H H' : Hp} {p : Addr} {o : HO} (s : Same H H') (h : H' p = none) : Same H (L2.upd H' p o) := fun a u e => by
  have q := s a u e
  rw [upd_ne (ne_of_none q h)]
  exact q
theorem sq_hide {K : PySem.W.Frag} {H : Hp} {a b : Addr} {xs : List V} (h : a ≠ b) (s : SqL K H a xs) : SqL K (hide H b) a xs := by
  rcases s with (q | ⟨o, q⟩) | q
  · exact .inl (.inl (by rw [hide_ne h]; exact q))
  · exact .inl (.inr ⟨o, by rw [hide_ne h]; exact q⟩)
  · exact .inr q
/-! ### 5. bags of draws -/
def Bag (n : Nat) (o : HO) : Prop := ∃ x y z : Int, o = .lst [.int x, .int y, .int z] ∧ 0 ≤ x ∧ 0 ≤ y ∧ y < 2147483629 ∧ 0 ≤ z ∧ z + n ≤ 1000000000
theorem Bag.mono {m n : Nat} {o : HO} (h : Bag n o) (l : m ≤ n) : Bag m o := let ⟨x, y, z, e, a, b, c, d, f⟩ := h; ⟨x, y, z, e, a, b, c, d, by omega⟩
theorem Bag.is {n : Nat} {o : HO} (h : Bag n o) : ∃ xs, o = .lst xs := let ⟨_, _, _, e, _⟩ := h; ⟨_, e⟩
/-- a cell of the script, or a number of its own -/
def spCell (K : PySem.W.Frag) : Sp := fun vs H Q _ => ∃ (a : Addr) (ns : List Int) (k : Nat), vs = [.ref a, .int k] ∧ SqL K H a (ns.map V.int) ∧ k ≤ 100 ∧ ∀ c, Q (.int c) H
def spBag : Sp := fun vs H Q _ => ∃ c : Int, vs = [.int c] ∧ ∀ p o, H p = none → Bag 900000000 o → Q (.ref p) (upd H p o)
/-- a draw below many -/
def spTake : Sp := fun vs H Q _ => ∃ (b : Addr) (o : HO) (n : Nat) (many : Int), vs = [.ref b, .int many] ∧ H b = some o ∧ Bag (n + 1) o ∧ 0 < many ∧ many < 2 ^ 200 ∧
  ∀ (d : Int) (o' : HO), 0 ≤ d → d < many → Bag n o' → Q (.int d) (upd H b o')
/-! ### 6. rules whose readings name K itself (for blocks) -/
def rLenK (K : PySem.W.Frag) : List V → Hp → VK → Prop := fun xs H Q => ∃ x n, xs = [x] ∧ LenV K x H n ∧ Q (.int n) H
def rListOf (K : PySem.W.Frag) : List V → Hp → VK → Prop := fun xs H Q => ∃ p ys, xs = [.ref p] ∧ (SqL K H p ys ∨ SqT K H p ys) ∧ ∀ l, H l = none → Q (.ref l) (upd H l (.lst ys))
def rTupleOf (K : PySem.W.Frag) : List V → Hp → VK → Prop := fun xs H Q => ∃ p ys, xs = [.ref p] ∧ ((SqL K H p ys ∧ ∀ l, H l = none → Q (.ref l) (upd H l (.tup ys))) ∨ (SqT K H p ys ∧ Q (.ref p) H))
def rJoin (K : PySem.W.Frag) : V → List V → Hp → VK → Prop := fun x xs H Q => ∃ a p, ∃ ys : List Str, x = .str a ∧ xs = [.ref p] ∧ (SqL K H p (ys.map V.str) ∨ SqT K H p (ys.map V.str)) ∧
  (ys.map (·.length)).sum + ys.length * a.length ≤ 16777216 ∧ Q (.str (Txt.join a ys)) H
section
variable {X : Cx} {K : PySem.W.Frag}
theorem ix_listK (hK : X.K = K := by rfl) : IxR X (rIxL K) := by subst hK; exact ix_list
theorem ix_tupK (hK : X.K = K := by rfl) : IxR X (rIxT K) := by subst hK; exact ix_tup
theorem sl_listK (hK : X.K = K := by rfl) : SlR X (rSlL K) := by subst hK; exact sl_list
theorem lenK (hK : X.K = K := by rfl) : CallR X (.builtin "len") (rLenK K) := by subst hK; exact call_len
theorem isiK (hK : X.K = K := by rfl) : CallR X (.builtin "isinstance") (rIsi K) := by subst hK; exact call_isi
theorem isiTK (hK : X.K = K := by rfl) : CallR X (.builtin "isinstance") (rIsiT K) := by subst hK; exact call_isiT
theorem allK (hc : X.calm = true) (hK : X.K = K := by rfl) : CallR X (.builtin "all") (rAll K) := by subst hK; exact cr_all hc
theorem listK (hK : X.K = K := by rfl) : CallR X (.type "list") (rListOf K) := by subst hK; exact call_list_of
theorem tupleK (hK : X.K = K := by rfl) : CallR X (.type "tuple") (rTupleOf K) := by subst hK; exact call_tuple_of
theorem reprK (Y : Sys K) (hgd : X.A.guards = some []) (hu : X.A.units + 64 < cLine) (hK : X.K = K := by rfl) : CallR X (.builtin "repr") (rRepr K) := by subst hK; exact call_repr Y hgd hu
theorem op_inK (hK : X.K = K := by rfl) : OpR X (compareOp .In) (rIn K false) := by subst hK; exact op_in_seq
theorem op_notInK (hK : X.K = K := by rfl) : OpR X (compareOp .NotIn) (rIn K true) := by subst hK; exact op_notIn_seq
theorem op_eqDK (hu : X.A.units + 64 < cLine) (hK : X.K = K := by rfl) : OpR X (compareOp .Eq) (rEqD K) := by subst hK; exact op_eqD hu
theorem op_neDK (hu : X.A.units + 64 < cLine) (hK : X.K = K := by rfl) : OpR X (compareOp .NotEq) (rNeD K) := by subst hK; exact op_neD hu
variable {o e : Expr} {es : List Expr} {to te : TE} {t : TA} {apos cpos : Pos}
theorem pe_joinK (hK : X.K = K) (ho : PE X o to) (he : PE X e te) (hs : starEach [e] X.env = [(false, eval e X.env)] := by rfl) (hbase : attributeBase o "join" X.env (eval o X.env) = eval o X.env := by rfl)
    (hline : (apos.endLine == cpos.line) = true := by rfl) : PE X (.Call (.Attribute o "join" apos) [e] [] cpos) (tM1 (rJoin K) to te) := by
  subst hK
  exact pe_join ho he hs hbase hline
theorem pe_appendK (hK : X.K = K) (ho : PE X o to) (he : PE X e te) (hs : starEach [e] X.env = [(false, eval e X.env)] := by rfl) (hbase : attributeBase o "append" X.env (eval o X.env) = eval o X.env := by rfl)
    (hfew : ((backTo cpos (starEach [e] X.env)).all (fun x => !x.1) && (backToKw cpos (keywordEach [] X.env)).all (fun x => x.1.isSome)
      && decide ([e].length + ([] : List Keyword).length + (if ([] : List Keyword).isEmpty then 0 else 1) < 30)) = true := by rfl)
    (hline : (apos.endLine == cpos.line) = true := by rfl) : PE X (.Call (.Attribute o "append" apos) [e] [] cpos) (tBM K "list" rAppend to (tCons te tNil)) := by
  subst hK
  exact pe_bm PySem.F.plainAttrs_list PySem.F.slot_list_append PySem.F.type_list_append mt_append ho (pa_cons he pa_nil hs) hbase hfew hline hs rfl
theorem pi_listK {tg : Expr} (hK : X.K = K) (hl : PE X e te) : PI X tg e (iList K te) := by subst hK; exact pi_list hl
theorem pi_tupK {tg : Expr} (hK : X.K = K) (hl : PE X e te) : PI X tg e (iTup K te) := by subst hK; exact pi_tup hl
theorem pi_enumK {p pos tpos : Pos} {elts : List Expr} {kk : Nat} (hK : X.K = K) (hg : Gl X "enumerate") (hm : X.mg "enumerate" = none) (ha : PA X [e] t) (hs : starEach [e] X.env = [(false, eval e X.env)] := by rfl) :
    PI X (.Tuple elts kk tpos) (.Call (.Name "enumerate" p) [e] [] pos) (iEnum K t) := by subst hK; exact pi_enum hg hm ha hs
theorem pi_revK {tg : Expr} {p pos : Pos} (hK : X.K = K) (hg : Gl X "reversed") (hm : X.mg "reversed" = none) (ha : PA X [e] t) (hs : starEach [e] X.env = [(false, eval e X.env)] := by rfl) :
    PI X tg (.Call (.Name "reversed" p) [e] [] pos) (iRev K t) := by subst hK; exact pi_reversed hg hm ha hs
end
end TS

/-! ### the end of a law, the guards told; the head's facts by any Bool of the written part -/
namespace TS
open PySem PySem.Spec PyProof.Rows L2
theorem law_callG {P : Program} {w : World} {K : PySem.W.Frag} {mg mb : Str → Option Value} {k : Nat} {fa a : Addr} {fd : FuncData} {x : Str} {sp : Sp} {s₁ : Shared} {vs : List Value} {ns : List Int}
    (KX : K.In s₁.heap) (hns : s₁.heap.Ns mainGlobals mg) (hb : s₁.heap.Ns builtinsNs mb) (hbb : ∀ x : Str, x ≠ "__name__" → mb x = bootBuiltins x) (hlim : s₁.heap.NoLimit) (hg : s₁.gens = #[])
    (ha : s₁.heap.get? a = some { cls := .type "list", data := .seq vs.toArray }) (hi : IntsAre vs ns) (hl : ns.length ≤ sizeLine) (hr : Room k callerA)
    (F : ∀ base : Heap, K.In base → base.Ns mainGlobals mg → FnG P w K mg base CX0 k fa fd [x] sp) (hbind : ∀ (s : Shared) (u : Value), BindsTo s fd ⟨[u], []⟩ [(x, u)])
    (hsp : ∀ H : Hp, Only H → SqL K H a (ns.map V.int) → sp [.ref a] H (fun v _ => v = .bl true) E0) :
    codeAny (model P w) callerA (.call (.ref fa) ⟨[.ref a], []⟩) (fun r s' => r = .ok (.ret (.bool true)) ∧ OldK s₁.heap s'.heap ∧ s'.os = s₁.os ∧ AllBare s'.gens) s₁ := by
  have rv := vals_ints hi
  have lenV := hi.length
  have go : ∀ H : Hp, Only H → SqL K H a (ns.map V.int) → HOk P w H s₁.heap → (∀ b u, H b = some u → b = a ∧ K.lookup a = none) →
      codeAny (model P w) callerA (.call (.ref fa) ⟨[.ref a], []⟩) (fun r s' => r = .ok (.ret (.bool true)) ∧ OldK s₁.heap s'.heap ∧ s'.os = s₁.os ∧ AllBare s'.gens) s₁ := by
    intro H hO hS hok hA
    have free : ∀ {b : Addr} {o : Obj}, s₁.heap.get? b = some o → (∀ n sl, o ≠ ⟨.type "list", none, .seq vs.toArray n, sl⟩ ) → H b = none := fun {b o} e d => by
      cases q : H b with
      | none => rfl
      | some u =>
        obtain ⟨rfl, _⟩ := hA b u q
        rw [ha] at e
        exact absurd (Option.some.inj e).symm (d _ _)
    have nsK : ∀ {b : Addr} {m : Str → Option Value}, s₁.heap.Ns b m → (hidT s₁.heap H).Ns b m := fun {b m} ⟨o, es, ep, e, d, r⟩ =>
      ⟨o, es, ep, hidT_get e (free e fun n sl z => by rw [z] at d; cases d), d, r⟩
    have KB : K.In (hidT s₁.heap H) := fun b o e => hidT_get (KX b o e) (by
      cases q : H b with
      | none => rfl
      | some u =>
        obtain ⟨rfl, z⟩ := hA b u q
        rw [z] at e
        cases e)
    have e0 : Env0 P w K mg (hidT s₁.heap H) callerA [] s₁ H :=
      ⟨rfl, ⟨KB, nsK hns, ⟨mb, nsK hb, hbb⟩, let ⟨mc, h1, h2⟩ := hlim; ⟨mc, nsK h1, h2⟩⟩, fun b o e => of_hidT e, Nat.le_of_eq (hidT_size _ _), trivial, (fun b z => nomatch z), hok, .of_eq hg⟩
    refine codeAny_mono ((F _ KB (nsK hns)).run callerA [] s₁ H ⟨[.ref a], []⟩ [.ref a] [.ref a] _ _ rfl hr e0 (hbind s₁ (.ref a)) (.cons rfl .nil) (hsp H hO hS)) fun r s' h => ?_
    match r, h with
    | .error e, h => exact False.elim h
    | .ok (.ret u), ⟨v, H', os, bare, un, hok', r', q⟩ =>
      obtain rfl : v = .bl true := q
      obtain rfl : u = Value.bool true := r'
      refine ⟨rfl, OldK.of_keep fun b o e => ?_, os, bare⟩
      rcases hO b with z | ⟨ob, xs, z⟩
      · exact un.keep b o e z (fun z => nomatch z) (fun z => nomatch z)
      · obtain ⟨e1, _⟩ := hok b _ z
        obtain ⟨e2, _⟩ := hok' b _ (un.frzs b ob _ z)
        rw [e] at e1
        cases e1
        exact e2
  cases hk : K.lookup a with
  | some o =>
    have e := KX a o hk
    rw [ha] at e
    cases e
    exact go (fun _ => none) (fun _ => .inl rfl) (.inr ⟨_, vs.toArray, _, hk, rfl, rfl, rfl, by rw [List.size_toArray, lenV]; exact hl, by simpa using rv⟩) (fun b u z => nomatch (show (none : Option HO) = some u from z)) (fun b u z => nomatch (show (none : Option HO) = some u from z))
  | none =>
    have one : ∀ {b : Addr} {u : HO}, (if b = a then some (HO.frz { cls := .type "list", data := .seq vs.toArray } (.lst (ns.map V.int))) else none) = some u → b = a ∧ u = .frz { cls := .type "list", data := .seq vs.toArray } (.lst (ns.map V.int)) := fun {b u} z => by
      by_cases hb : b = a
      · rw [if_pos hb] at z
        exact ⟨hb, (Option.some.inj z).symm⟩
      · rw [if_neg hb] at z
        cases z
    refine go (fun b => if b = a then some (.frz { cls := .type "list", data := .seq vs.toArray } (.lst (ns.map V.int))) else none) (fun b => ?_) (.inl (.inr ⟨_, if_pos rfl⟩)) (fun b u z => ?_) (fun b u z => ⟨(one z).1, hk⟩)
    · by_cases hb : b = a
      · exact .inr ⟨_, _, if_pos hb⟩
      · exact .inl (if_neg hb)
    · obtain ⟨rfl, rfl⟩ := one z
      exact ⟨ha, by rw [List.length_map]; exact hl, vs, _, rv, ha⟩
/-- what F gives of the law -/
structure LawAt (l : PySem.W.OpenLaw) (w : World) (mg : Str → Option Value) (k n : Nat) (x : Str) (h : Heap) (fa : Addr) (K : PySem.W.Frag) : Prop where
  kin : K.In h
  fn : ∃ (fd : FuncData) (sp : Sp), (∀ (s : Shared) (u : Value), BindsTo s fd ⟨[u], []⟩ [(x, u)]) ∧
    (∀ (H : Hp) (a : Addr) (ns : List Int), ns.length ≤ n → Only H → SqL K H a (ns.map V.int) → sp [.ref a] H (fun v _ => v = .bl true) E0) ∧
    ∀ base : Heap, K.In base → base.Ns mainGlobals mg → FnG l.prog w K mg base CX0 k fa fd [x] sp
theorem walkG {l : PySem.W.OpenLaw} {n k : Nat} {q : Program} {loose : List Str} {XP : (Str → Option Value) → Heap → Prop} {YP : World → Heap → Prop} {d : DefRec} {x : Str}
    (hn : l.most = some n) (hn2 : n ≤ sizeLine) (hdf : d.params.defaults = []) (hr : Room k callerA)
    (F : ∀ (w : World) (mg : Str → Option Value) (fa : Addr) (h : Heap), YP w h → h.Ns mainGlobals mg → mg d.name = some (.ref fa) → ∃ K, LawAt l w mg k n x h fa K) :
    PySem.W.WalkO q loose XP YP l.row.toRowW d [] (fun f vs => PySem.call f vs) := by
  refine Att.attach_call hn hdf fun w s₀ s₁ mg mb fa o pm cd doc a vs ns G Y ho hd hcd hmg hobj hints hlen hg => ?_
  obtain ⟨K, KX, fd, sp, hb, hsp, hF⟩ := F w mg fa _ Y G.T.g hmg
  exact law_callG KX G.T.g G.T.b G.T.builtins G.T.nolimit hg hobj hints (Nat.le_trans hlen hn2) hr hF hb fun H hO hS => hsp H a ns hlen hO hS
/-! ### the head -/
def asX (g : Addr → Option Obj) : Nat → List Addr
  | 0 => [mainGlobals, cStatics]
  | n + 1 => He.growD g (asX g n)
def frX (n : Nat) (g : Addr → Option Obj) : PySem.W.Frag := He.frG g (asX g n ++ [sysModules])
def obsX (n : Nat) (chk : PySem.W.Frag → Bool) (fn : List He.DefD) (g : Addr → Option Obj) : He.AlD :=
  (chk (frX n g) && fn.all (fun d => d.ok (frX n g)), fn.map fun d => He.fnW (frX n g) d.at_)
def hookX (n : Nat) (chk : PySem.W.Frag → Bool) (fn : List He.DefD) : PySem.W.Hook where
  α := He.AlD
  obs := fun s => obsX n chk fn s.heap.get?
  val := fun _ => (true, fn.map He.DefD.val)
  says := fun _ h => ∃ K : PySem.W.Frag, K.In h ∧ chk K = true ∧ fn.all (fun d => d.ok K) = true ∧ fn.map (fun d => He.fnW K d.at_) = fn.map He.DefD.val
  of := fun _ s e => ⟨_, He.frG_in, (He.ba (congrArg (·.1) e)).1, (He.ba (congrArg (·.1) e)).2, congrArg (·.2) e⟩
  keeps := fun _ _ _ ⟨K, hK, c⟩ k => ⟨K, PySem.W.Frag.In.keeps hK k, c⟩
theorem obsX_eq {n : Nat} {chk : PySem.W.Frag → Bool} {fn : List He.DefD} (s : PySem.W.SharedT) : obsX n chk fn (HandSHeadRun.getT s) = (hookX n chk fn).obs s.abs := by
  have e : HandSHeadRun.getT s = s.abs.heap.get? := funext (HandSHeadRun.getT_eq s)
  show obsX n chk fn (HandSHeadRun.getT s) = obsX n chk fn s.abs.heap.get?
  rw [e]
/-- a def's datum: a top statement -/
def defD (x : Str) (st : Stmt) : He.DefD := ⟨(x, none), x, x, defArgs st, defBody st, defScope st, [], []⟩
theorem def_of {K : PySem.W.Frag} {h : Heap} {mg : Str → Option Value} {fn : List He.DefD} (X : K.In h) (G : h.Ns mainGlobals mg) (c1 : fn.all (fun d => d.ok K) = true) (c2 : fn.map (fun d => He.fnW K d.at_) = fn.map He.DefD.val)
    {x : Str} {st : Stmt} (i : Nat) (hi : fn[i]? = some (defD x st)) (hg : (He.Fa.glo x).ok K = true) : Def K mg x st := by
  have e1 : He.fnW K (defD x st).at_ = (defD x st).val := by
    have h1 := congrArg (·[i]?) c2
    simp only [List.getElem?_map, hi, Option.map_some] at h1
    exact Option.some.inj h1
  obtain ⟨fd, F⟩ := He.DefD.funD e1 (List.all_eq_true.mp c1 _ (List.mem_of_getElem? hi))
  exact ⟨He.ga K x, fd, F, He.glo_ok X G hg⟩
/-- what is asked of the machine's own objects -/
def sysB (K : PySem.W.Frag) : Bool := (match K.lookup sysModules with | some o => decide (o.cls = .type "dict") | none => false) && decide (PySem.W.nsIn K cStatics sharingNotToldKey = some none)
theorem sysB_ok {K : PySem.W.Frag} (h : sysB K = true) : Sys K := by
  obtain ⟨h1, h2⟩ := He.ba h
  refine ⟨?_, of_decide_eq_true h2⟩
  cases e : K.lookup sysModules with
  | none => rw [e] at h1; cases h1
  | some o => rw [e] at h1; exact ⟨o, rfl, of_decide_eq_true h1⟩
def chkX (gl : List Str) (more : PySem.W.Frag → Bool) (K : PySem.W.Frag) : Bool := (sysB K && btNames.all fun x => (He.Fa.free x).ok K) && ((gl.all fun x => (He.Fa.glo x).ok K) && more K)
end TS

set_option maxHeartbeats 2000000
/-! ### comprehensions of any kind: one walk for every clause, whatever is done with what comes -/
namespace TS
open PySem PySem.Spec PyProof.Rows L2 PpSet
/-- one turn of a clause: what comes, its store, its tests; then what is done with it -/
def Steps (P : Program) (w : World) (A : Around) (it : Value) (tg : Expr) (cs : List Expr) (env : Env) (act : (Shared → Prop) → Shared → Prop) (E : Value → Shared → Prop) (stop next : Shared → Prop) (s : Shared) : Prop :=
  wpAny (model P w) A (pyNext it) (fun r t => match r with
    | none => stop t
    | some v => wpAny (model P w) A (letOwnedTupleGo tg it v) (fun _ t => wpAny (model P w) A (assign tg env v) (fun _ t => wpAny (model P w) A (forIn cs true fun c r => if r = true then do let ok ← isTrue c env (eval c env); pure (ForInStep.yield ok) else pure (ForInStep.yield r))
        (fun b t => if b = true then act next t else next t) E t) E t) E t) E s
/-- a clause's code goes by such turns -/
def Goes (P : Program) (w : World) (A : Around) (c : Code) (it : Value) (tg : Expr) (cs : List Expr) (env : Env) (act : (Value → Shared → Prop) → (Shared → Prop) → Shared → Prop) : Prop :=
  ∀ (R : Result → Shared → Prop) (I : Nat → Shared → Prop), (∀ n s, I n s → Steps P w A it tg cs env (act (notedBy (model P w) A env fun e t => R (.error e) t)) (notedBy (model P w) A env fun e t => R (.error e) t) (R (.ok .next)) (fun t => ∃ m, m < n ∧ I m t) s) →
    ∀ n s, I n s → codeAny (model P w) A c R s
/-- the turns of one clause, as readings: W by the turn and a measure, Out behind the last one, Body what is asked of an item that passes -/
def Rounds (J : It) (g : TG) (tt : TT) (τ : L2.St) (W : Nat → Nat → Hp → Prop) (Out : Hp → Prop) (ws : L2.St → L2.St) (Body : (Hp → Prop) → L2.St → Hp → Prop) : Prop :=
  ∀ i m H, W i m H → (J.stop i H ∧ Out H) ∨ (J.go i H ∧ ∃ Nx : Hp → Prop, (∀ G, Nx G → ∃ k, k < m ∧ W (i + 1) k G) ∧ ∀ x G, J.yld i H x G → g x τ G fun σ2 H2 => ws σ2 = τ ∧ tt σ2 H2 fun b H3 => if b = true then Body Nx σ2 H3 else Nx H3)
theorem walk_clause {Y : Cx} {c : Code} {tg : Expr} {cs : List Expr} {g : TG} {tt : TT} {it : Addr} {fp : List Addr} {tn : Nat → Heap → Prop} {J : It} {act : (Value → Shared → Prop) → (Shared → Prop) → Shared → Prop} {R : Result → Shared → Prop}
    {pins : List (Addr × Obj)} {τ : L2.St} {W : Nat → Nat → Hp → Prop} {Out : Hp → Prop} {vs : List Nat} {Body : (Hp → Prop) → L2.St → Hp → Prop}
    (goes : Goes Y.prog Y.w Y.A c (.ref it) tg cs Y.env act) (calm : Y.calm = true) (mute : Y.xe = fun _ _ => False) (T : Turn Y.prog Y.w Y.K tg J fp it tn) (pg : PG Y tg g) (pt : PTs Y cs tt)
    (free : ∀ (σ : L2.St) (H : Hp) (s : Shared), Inv Y pins σ H s → ∀ b ∈ fp, H b = none → FpOk Y pins H b)
    (rounds : Rounds J g tt τ W Out (fun σ => wipe σ vs) Body)
    (done : ∀ s H, Inv Y pins τ H s → Out H → R (.ok .next) s)
    (acts : ∀ (E : Value → Shared → Prop) (h : Heap) (s : Shared) (σ2 : L2.St) (H : Hp) (Nx : Hp → Prop) (next : Shared → Prop), Inv Y (pins ++ pinsAt fp h) σ2 H s → wipe σ2 vs = τ → Body Nx σ2 H →
      (∀ s' H' σ', Inv Y (pins ++ pinsAt fp h) σ' H' s' → τ.length = σ'.length → (∀ (j : Nat) v, τ[j]? = some (some v) → σ'[j]? = some (some v)) → Nx H' → next s') → act E next s)
    {s : Shared} {H : Hp} {m : Nat} (I : Inv Y pins τ H s) (st : tn 0 s.heap) (nf : ∀ b ∈ fp, H b = none) (w0 : W 0 m H) : codeAny (model Y.prog Y.w) Y.A c R s := by
  refine goes R (fun n t => ∃ i G, Inv Y pins τ G t ∧ tn i t.heap ∧ (∀ b ∈ fp, G b = none) ∧ W i n G) (fun n t ⟨i, G, IG, sG, nG, wG⟩ => ?_) m s ⟨0, H, I, st, nf, w0⟩
  have fG := fun b hb => free _ _ _ IG b hb (nG b hb)
  rcases rounds i n G wG with ⟨hs, ho⟩ | ⟨hg, Nx, hN, step⟩
  · refine thnF (T.done Y rfl rfl rfl calm i pins t τ G (fun _ _ => False) IG fG sG hs) fun r t1 h => ?_
    obtain ⟨rfl, I1⟩ := h
    exact done t1 G I1 ho
  refine thnF (T.item Y rfl rfl rfl calm i pins t τ G (fun _ _ => False) IG fG sG hg) fun r t1 h => ?_
  obtain ⟨u, rfl, h⟩ := h
  refine thnF h fun _ t2 h => ?_
  obtain ⟨x, G2, I2, rx, hy, s2, n2⟩ := h
  have P2 := I2.pinned (fun b hb => free _ _ _ I2 b hb (n2 b hb)) (T.obj _ _ s2)
  have leave : ∀ (t' : Shared) (G' : Hp) (σ' : L2.St), Inv Y (pins ++ pinsAt fp t2.heap) σ' G' t' → τ.length = σ'.length → (∀ (j : Nat) v, τ[j]? = some (some v) → σ'[j]? = some (some v)) → Nx G' →
      ∃ k, k < n ∧ ∃ i G, Inv Y pins τ G t' ∧ tn i t'.heap ∧ (∀ b ∈ fp, G b = none) ∧ W i k G := fun t' G' σ' I' l e nx => by
    obtain ⟨k, lk, wk⟩ := hN G' nx
    have at_ : ∀ b ∈ fp, ∀ o, t2.heap.get? b = some o → t'.heap.get? b = some o ∧ G' b = none := fun b hb o eo =>
      have p := I'.pin (b, o) (List.mem_append_right _ (List.mem_append_right _ (mem_pinsAt hb eo)))
      ⟨p.1, p.2.1⟩
    exact ⟨k, lk, i + 1, G', I'.unpinned.weak l e, T.keep _ _ _ s2 fun b hb o eo => (at_ b hb o eo).1, fun b hb => let ⟨o, eo, _⟩ := T.obj _ _ s2 b hb; (at_ b hb o eo).2, wk⟩
  have stored := pg.run _ t2 τ G2 x u _ P2 rx (step x G2 hy)
  rw [mute] at stored
  refine thnF stored fun _ t3 h => ?_
  obtain ⟨σ3, G3, I3, hw, h⟩ := h
  have hl : τ.length = σ3.length := by rw [← show wipe σ3 vs = τ from hw, wipe_length]
  have he : ∀ (j : Nat) v, τ[j]? = some (some v) → σ3[j]? = some (some v) := fun j v e => by
    rw [← show wipe σ3 vs = τ from hw] at e
    exact (wipe_some e).1
  have tested := pt.run _ t3 σ3 G3 _ I3 h
  rw [mute] at tested
  refine thnF tested fun b t4 h => ?_
  obtain ⟨G4, I4, h⟩ := h
  cases b with
  | false => exact leave t4 G4 σ3 I4 hl he h
  | true => exact acts _ t2.heap t4 σ3 G4 Nx _ I4 hw h leave
section
variable {X : Cx} {pins : List (Addr × Obj)} {σ : L2.St} {H : Hp} {s : Shared}
/-- a fresh object of the block's, laid by a constructor -/
def Makes (X : Cx) (mk : Sem Value) (o : Addr → HO) : Prop := ∀ (pins : List (Addr × Obj)) (σ : L2.St) (H : Hp) (s : Shared) (Q : Value → Shared → Prop) (E : Value → Shared → Prop), Inv X pins σ H s →
  (∀ (D : Addr) (t : Shared), D = s.heap.objs.size → H D = none → (∀ b u, s.heap.get? b = some u → t.heap.get? b = some u) → t.heap.objs.size = D + 1 → Inv X pins σ (upd H D (o D)) t → Q (.ref D) t) → wpAny (model X.prog X.w) X.A mk Q E s
/-- a comprehension: its constructor, its first clause's turns; what is done with an item is told by Body and act -/
theorem comp_any {Q : VK} {ce tg iter : Expr} {cs : List Expr} {rest : List Comprehension} {scope : Scope} {own : List (PySem.Str × Nat)} {pos : Pos} {wi : TI} {g : TG} {tt : TT} {mk : Sem Value} {o : Addr → HO} {use : Option (Value → Sem Unit)} {Qf : Value → Shared → Prop}
    {act : Value → Env → (Value → Shared → Prop) → (Shared → Prop) → Shared → Prop} {Body : Addr → (Hp → Prop) → L2.St → Hp → Prop}
    (hcl : clausesOf ce = ⟨tg, iter, cs, 0⟩ :: rest) (hmk : Makes X mk o) (goes : ∀ (it acc : Addr) (env : Env), Goes X.prog X.w X.A (.compLoop ce 0 (.ref it) (.ref acc) env) (.ref it) tg cs env (act (.ref acc) env))
    (start : ∀ (R : Result → Shared → Prop) (s : Shared) (it acc : Value) (env : Env), codeAny (model X.prog X.w) X.A (.compLoop ce 0 it acc env) R s →
      wpAny (model X.prog X.w) X.A (pyIter it) (fun it' t => codeAny (model X.prog X.w) X.A (.compLoop ce 0 it' acc env) R t) (notedBy (model X.prog X.w) X.A env fun x t => R (.error x) t) s → codeAny (model X.prog X.w) X.A (.compStart ce 0 it acc env) R s)
    (calm : X.calm = true) (nod : X.N.Nodup) (I : Inv X pins σ H s) (pit : PI X tg iter wi) (bk : BlkOk X.N X.env.scope scope own)
    (ptg : ∀ (s : Shared) (H : Hp) (C : Addr) (cl : List (PySem.Str × Addr)) (fp : List Addr), PG (X.blk s H scope (compEnvC scope cl C X.env) fp) tg g) (ptt : ∀ (s : Shared) (H : Hp) (C : Addr) (cl : List (PySem.Str × Addr)) (fp : List Addr), PTs (X.blk s H scope (compEnvC scope cl C X.env) fp) cs tt)
    (fold : ∀ x, foldedSetIterable iter X.env x = pure x)
    (rd : wi σ H fun J H1 => ∀ D, H1 D = none → ∃ W : Nat → Nat → Hp → Prop, (∃ m, W 0 m (upd H1 D (o D))) ∧ Rounds J g tt (wipe σ (own.map (·.2))) W (fun G => Q (.ref D) G) (fun σ => wipe σ (own.map (·.2))) (Body D))
    (acts : ∀ (s0 : Shared) (H0 : Hp) (C : Addr) (cl : List (PySem.Str × Addr)) (fp : List Addr) (D : Addr) (E : Value → Shared → Prop) (pins : List (Addr × Obj)) (s : Shared) (σ2 : L2.St) (G : Hp) (Nx : Hp → Prop) (next : Shared → Prop), Inv (X.blk s0 H0 scope (compEnvC scope cl C X.env) fp) pins σ2 G s →
      wipe σ2 (own.map (·.2)) = wipe σ (own.map (·.2)) → Body D Nx σ2 G →
      (∀ s' H' σ', Inv (X.blk s0 H0 scope (compEnvC scope cl C X.env) fp) pins σ' H' s' → (wipe σ (own.map (·.2))).length = σ'.length → (∀ (j : Nat) v, (wipe σ (own.map (·.2)))[j]? = some (some v) → σ'[j]? = some (some v)) → Nx H' → next s') → act (.ref D) (compEnvC scope cl C X.env) E next s)
    (back : ∀ D C t m G, Inv X pins σ G t → Q (.ref D) G → t.heap.Ns C m → FpOk X pins G C → compPost (model X.prog X.w) X.A X.xe use Qf (.ref D) C (.ok .next) t) :
    wpAny (model X.prog X.w) X.A (comprehension ce scope X.env pos mk false (eval iter X.env) use) Qf X.xe s := by
  have reach : ∀ y ∈ scope.names, y.2 = .free → ∃ c, X.env.cells.lookup y.1 = some c := fun y hy e => I.ok.has _ (bk.free y hy e)
  refine wpAny_comprehension_free (use := use) hcl fold (closure_ok reach) bk.kind (fun y hy e => (bk.uniq y hy).trans (congrArg some e)) (thn (pit.run pins s σ H _ I rd) fun _ _ h1 => thn h1 fun _ t2 h2 => ?_)
  obtain ⟨it, fp, tn, J, G2, rfl, I2, T, sT, fr, h⟩ := h2
  refine hmk pins σ G2 t2 _ _ I2 fun D t3 eD nD up size I3 => newEnv_comp ?_
  obtain ⟨W, ⟨m, w0⟩, rounds⟩ := h D nD
  have old : ∀ b ∈ fp, b < t2.heap.objs.size := fun b hb => let ⟨u, e, _⟩ := T.obj _ _ sT b hb; Heap.lt_size e
  have fr3 : ∀ b ∈ fp, FpOk X pins (upd G2 D (o D)) b ∧ b < t3.heap.objs.size := fun b hb => by
    have l := old b hb
    exact ⟨⟨(upd_ne (by rw [eD]; exact Nat.ne_of_lt l)).trans (fr b hb).1, (fr b hb).2⟩, by rw [size, eD]; exact Nat.lt_succ_of_lt l⟩
  have I4 := block_start I3 bk nod fr3
  have k4 : ∀ b u, t2.heap.get? b = some u → (pushCells (t3.heap.push { cls := .type "dict", data := .dict #[] }) scope.names).get? b = some u := fun b u e => pushCells_keeps _ _ _ _ (Heap.get?_push_of_some _ (up b u e))
  generalize ecl : cellsFrom (t3.heap.objs.size + 1) scope.names (cloFrom X.env.cells scope.names []) = cl at I4
  generalize eG : upd G2 D (o D) = G3 at I3 I4 w0 fr3
  generalize eC : t3.heap.objs.size = C at I4
  have lC : (compEnvC scope cl C X.env).locals = C := rfl
  refine start _ _ _ _ _ ?_ (T.self X.A 0 _ _ _ (T.keep _ _ _ sT fun b hb u e => k4 b u e) ?_)
  all_goals
    show codeAny _ _ (.compLoop ce 0 (.ref it) (.ref D) (compEnvC scope cl C X.env)) (compPost (model X.prog X.w) X.A X.xe use Qf (.ref D) C) _
    refine walk_clause (Y := X.blk t3 G3 scope (compEnvC scope cl C X.env) fp) (pins := []) (goes it D _) calm rfl T (ptg t3 G3 C cl fp) (ptt t3 G3 C cl fp) (fun τ G t J b hb hn => ⟨hn, (J.ok.exf b hb).1, J.ok.exfs b hb, .inl hb, fun x c e => (J.ok.exf b hb).2 x c e, fun p hp => absurd (show p ∈ ([] : List (Addr × Obj)) ++ [] from hp) (by simp)⟩)
      rounds (fun t G J q => ?_) (fun E h t σ2 G Nx next J e hb fin => acts t3 G3 C cl fp D E _ t σ2 G Nx next J e hb fin) I4 (T.keep _ _ _ sT fun b hb u e => k4 b u e) (fun b hb => (fr3 b hb).1.1) w0
    have K : Inv X pins σ G t := I3.call' (ch := fp) J.os J.base J.hok J.bare fun b hb => let ⟨_, f1, _, f3, f4, f5⟩ := (fr3 b hb).1; ⟨f3, f1, f4, f5⟩
    obtain ⟨mm, hn, _⟩ := J.loc
    exact back D C t mm G K q hn (I3.fpOk (Nat.le_of_eq eC) J.free)
end
end TS

set_option maxHeartbeats 2000000
/-! ### 7. set comprehensions of ints and texts, and how many there are -/
namespace TS
open PySem PySem.Spec PyProof.Rows L2 PpSet
section
variable {X : Cx}
theorem setK_fresh {P : Program} {w : World} {h : Heap} : (h.push { cls := .type "set", dict := none, data := .set #[] 0 (.fresh 0 0 (!w.params.followText "set-order")) }).SetOf (mixKind P w) h.objs.size (fun _ => false) 0 :=
  ⟨_, #[], 0, _, Heap.get?_push_size h rfl, ⟨rfl, rfl, rfl⟩, rfl, (fun e z => by simp at z), (fun k => by simp), (by decide), (by rfl), rfl⟩
theorem makes_set : Makes X (newSet (.type "set")) fun D => SetK X.prog X.w D (fun _ => false) 0 := fun pins σ H s Q E I q => by
  refine newSet_ok (q _ _ rfl (I.hok.fresh (Nat.le_refl _)) (fun b u e => Heap.get?_push_of_some _ e) (Heap.size_push ..) ?_)
  exact I.laid (t' := s.toks) (fun b u e => Heap.get?_push_of_some _ e) (Nat.le_refl _) (setK_new setK_fresh)
theorem addK_ok {pins : List (Addr × Obj)} {σ : L2.St} {H : Hp} {s : Shared} {E : Value → Shared → Prop} {D : Addr} {S : Key → Bool} {n : Nat} {k : Key} {u : Value} {Q : Value → Shared → Prop} (J : Inv X pins σ H s) (eD : H D = some (SetK X.prog X.w D S n)) (rk : RelV (kV k) u)
    (room : n + 1 < scanBound) (q : ∀ t, Inv X pins σ (upd H D (SetK X.prog X.w D (fun j => S j || decide (j = k)) (if S k = true then n else n + 1))) t → Q .none t) : wpAny (model X.prog X.w) X.A (call (.builtin "set.add") [.ref D, u]) Q E s := by
  refine call_set_add (kV_is rk) (key_scan rk) (setK_get J eD) room fun hp sb nw => ?_
  have there : ∃ v, hp.get? D = some v := let ⟨o, _, _, _, ho, _⟩ := nw; ⟨o, ho⟩
  exact q _ (J.write (e := D) (t' := s.toks + 1) (by rw [eD]; trivial) (.inl rfl) (fun b v hb hv => (sb.2 b hb).trans hv) there (setK_new nw))
/-- what is asked of an item that goes into the set D -/
def setBody (P : Program) (w : World) (te : TE) (D : Addr) (Nx : Hp → Prop) (σ2 : L2.St) (H3 : Hp) : Prop :=
  te σ2 H3 fun y H4 => ∃ (k : Key) (S : Key → Bool) (n : Nat), y = kV k ∧ H4 D = some (SetK P w D S n) ∧ n + 1 < scanBound ∧ Nx (upd H4 D (SetK P w D (fun j => S j || decide (j = k)) (if S k = true then n else n + 1)))
/-- {elt for target in iter if ..}, elt an int or a text: D the new set -/
def tScK (P : Program) (w : World) (wi : TI) (g : TG) (tt : TT) (te : TE) (vs : List Nat) : TE := fun σ H Q => wi σ H fun J H1 => ∀ D, H1 D = none → ∃ Wt : Nat → Nat → Hp → Prop, (∃ m, Wt 0 m (upd H1 D (SetK P w D (fun _ => false) 0))) ∧ ∀ i m H, Wt i m H →
  (J.stop i H ∧ Q (.ref D) H) ∨ (J.go i H ∧ ∃ Nx : Hp → Prop, (∀ G, Nx G → ∃ m', m' < m ∧ Wt (i + 1) m' G) ∧ ∀ x G, J.yld i H x G → g x (wipe σ vs) G fun σ2 H2 => wipe σ2 vs = wipe σ vs ∧ tt σ2 H2 fun b H3 =>
    if b = true then te σ2 H3 fun y H4 => ∃ (k : Key) (S : Key → Bool) (n : Nat), y = kV k ∧ H4 D = some (SetK P w D S n) ∧ n + 1 < scanBound ∧ Nx (upd H4 D (SetK P w D (fun j => S j || decide (j = k)) (if S k = true then n else n + 1))) else Nx H3)
/-- as a value -/
theorem pe_scK {elt tg iter : Expr} {ifs : List Expr} {scope : Scope} {own : List (PySem.Str × Nat)} {pos : Pos} {wi : TI} {g : TG} {tt : TT} {te : TE} (calm : X.calm = true) (nod : X.N.Nodup) (pit : PI X tg iter wi) (bk : BlkOk X.N X.env.scope scope own)
    (ptg : ∀ (s : Shared) (H : Hp) (C : Addr) (cl : List (PySem.Str × Addr)) (fps : List Addr), PG (X.blk s H scope (compEnvC scope cl C X.env) fps) tg g) (ptt : ∀ (s : Shared) (H : Hp) (C : Addr) (cl : List (PySem.Str × Addr)) (fps : List Addr), PTs (X.blk s H scope (compEnvC scope cl C X.env) fps) ifs tt)
    (pel : ∀ (s : Shared) (H : Hp) (C : Addr) (cl : List (PySem.Str × Addr)) (fps : List Addr), PE (X.blk s H scope (compEnvC scope cl C X.env) fps) elt te) (fold : ∀ x, foldedSetIterable iter X.env x = pure x := by intro _; rfl) :
    PE X (.SetComp elt [⟨tg, iter, ifs, 0⟩] scope pos) (tScK X.prog X.w wi g tt te (own.map (·.2))) := by
  refine ⟨fun pins s σ H Q I rd => ?_⟩
  rw [eval_SetComp]
  refine comp_any (rest := []) (Body := setBody X.prog X.w te) (act := fun acc env E next s => wpAny (model X.prog X.w) X.A (eval elt env) (fun v t => wpAny (model X.prog X.w) X.A (call (.builtin "set.add") [acc, v]) (fun _ t => next t) E t) E s) rfl makes_set
    (fun it acc env R I turn n s h => compLoopS_any I turn n h) (fun R s it acc env h0 h => codeAny_compStart_set h0 h) calm nod I pit bk ptg ptt fold rd (fun s0 H0 C cl fp D E pins s σ2 G Nx next J e hb fin => ?_)
    fun D C t m G J q hn f => ⟨m, hn, fun h2 sb => ?_⟩
  · refine thnF ((pel s0 H0 C cl fp).run _ s σ2 G _ J hb) fun v t h => ?_
    obtain ⟨y, G2, J2, ry, k, S, n, rfl, eD, room, nx⟩ := h
    refine addK_ok (X := X.blk s0 H0 scope (compEnvC scope cl C X.env) fp) J2 eD ry room fun t2 J3 => fin t2 _ σ2 J3 (by rw [← e, wipe_length]) (fun j x q => ?_) nx
    rw [← e] at q
    exact (wipe_some q).1
  · obtain ⟨f0, f1, _, f3, f4, f5⟩ := f
    exact ⟨.ref D, G, J.turned (t' := t.toks) (fun b o hb e => (sb.2 b hb).trans e) f0 f1 f3 f4 f5, rfl, q⟩
def rLenSet (P : Program) (w : World) : List V → Hp → VK → Prop := fun xs H Q => ∃ (a : Addr) (S : Key → Bool) (n : Nat), xs = [.ref a] ∧ H a = some (SetK P w a S n) ∧ n < 2 ^ 40 ∧ Q (.int n) H
theorem len_setK : CallR X (.builtin "len") (rLenSet X.prog X.w) := by
  intro pins s σ H xs us Q J r rd
  obtain ⟨a, S, n, rfl, ea, hn, q⟩ := rd
  obtain ⟨u, rfl, ra⟩ := vals1 r
  cases ra
  have ⟨o, es, ep, t, ho, hx, hd, h1, h2, h3, h4, h5⟩ := setK_get J ea
  subst h5
  exact call_len_set ho hx hd h4 (by have := hn; omega) ⟨.int es.size, H, J.kept fun _ _ z => z, ⟨_, rfl⟩, q⟩
end
end TS

set_option maxHeartbeats 2000000
/-! ### 8. enumerate over a tuple; readings by either of two ways -/
namespace PySem
open Sem (wp)
open AutoSeq1 (wpAny_loadPart')
theorem ts_enum_newT (l : Addr) (items : Array Value) (n : Nat) (dct : Option Addr) (sl : Array (Option Value)) :
    Meets (Builtin.«enumerate.__new__» ⟨[.type "enumerate", .ref l], []⟩) (fun _ R s => s.heap.get? l = some { cls := .type "tuple", dict := dct, data := .seq items n, slots := sl } ∧
      R (.ok (.ret (.ref (s.heap.push { cls := .type "tuple_iterator", data := .fields #[.ref l, .int 0 0] }).objs.size)))
        { s with heap := (s.heap.push { cls := .type "tuple_iterator", data := .fields #[.ref l, .int 0 0] }).push { cls := .type "enumerate", data := .fields #[.none, .bool false, .ref s.heap.objs.size, rawInt 0, .none, .none] } }) :=
  .of_wp fun prog w A R s h => by
    obtain ⟨hp, g, d, tk, os⟩ := s
    obtain ⟨there, rest⟩ := h
    have se := sub_enumerate
    have tup : Heap.IsTuple (Shared.heap ⟨hp, g, d, tk, os⟩) l items := ⟨_, there, rfl, n, rfl⟩
    wp_walk using wpAny_loadPart' there
    refine wpAny_stack_any fun st => wpAny_pure ?_
    split
    · rename_i c _ _ _ _ _
      cases (c == Value.type "enumerate")
      · wp_walk using wpAny_loadPart' there, wpAny_pyIter_tuple tup
        exact ⟨_, rfl, rest⟩
      · wp_walk using wpAny_loadPart' there, wpAny_pyIter_tuple tup
        exact ⟨_, rfl, rest⟩
    · wp_walk using wpAny_loadPart' there, wpAny_pyIter_tuple tup
      exact ⟨_, rfl, rest⟩
theorem ts_call_enumT {prog : Program} {w : World} {A : Around} {E : Value → Shared → Prop} {s : Shared} {l : Addr} {items : Array Value} {Q : Value → Shared → Prop} (tup : s.heap.IsTuple l items)
    (q : ∀ G, IsEnum G (s.heap.objs.size + 1) s.heap.objs.size 0 .none → G.IsTupleIter s.heap.objs.size l 0 → (∀ b o, s.heap.get? b = some o → G.get? b = some o) → Q (.ref (s.heap.objs.size + 1)) { s with heap := G }) :
    wpAny (model prog w) A (call (.type "enumerate") [.ref l]) Q E s := by
  obtain ⟨⟨c, dct, dt, sl⟩, there, ec, n, ed⟩ := tup
  replace ec : c = .type "tuple" := ec
  replace ed : dt = .seq items n := ed
  subst ec ed
  refine callType_new F.called_enumerate (by decide) (F.typeCall_enumerate_1 _) (F.newCall_enumerate_1 _) (fun z => F.args_object_init_2 z _) F.entry_enumerate_new (ts_enum_newT l items n dct sl) ⟨there, ?_⟩
  have sz : (s.heap.push { cls := .type "tuple_iterator", data := .fields #[.ref l, .int 0 0] }).objs.size = s.heap.objs.size + 1 := Heap.size_push ..
  show _ ∧ _
  rw [sz]
  have en : IsEnum ((s.heap.push { cls := .type "tuple_iterator", data := .fields #[.ref l, .int 0 0] }).push
      { cls := .type "enumerate", data := .fields #[.none, .bool false, .ref s.heap.objs.size, rawInt 0, .none, .none] }) (s.heap.objs.size + 1) s.heap.objs.size 0 .none := by
    have z := Heap.get?_push_size (s.heap.push { cls := .type "tuple_iterator", data := .fields #[.ref l, .int 0 0] })
      (o := { cls := .type "enumerate", data := .fields #[.none, .bool false, .ref s.heap.objs.size, rawInt 0, .none, .none] }) rfl
    rw [sz] at z; exact z
  exact ⟨⟨_, en, rfl⟩, q _ en ⟨_, Heap.get?_push_of_some _ (Heap.get?_push_size _ rfl), rfl, rfl⟩ fun b o x => Heap.get?_push_of_some _ (Heap.get?_push_of_some _ x)⟩
end PySem
namespace TS
open PySem PySem.Spec PyProof.Rows L2
/-- the tuple at a, the items in new pairs with their places -/
def IteT (K : PySem.W.Frag) (a : Addr) : It :=
  ⟨fun i H => ∃ (xs : List V) (x : V), SqT K H a xs ∧ xs[i]? = some x,
    fun i H v G => ∃ T x, v = .ref T ∧ H T = none ∧ G = upd H T (.tup [.int (i : Nat), x]) ∧ ∀ xs, SqT K H a xs → xs[i]? = some x,
    fun i H => ∃ xs : List V, SqT K H a xs ∧ xs.length ≤ i⟩
theorem turn_enumT {P : Program} {w : World} {K : PySem.W.Frag} {elts : List Expr} {kk : Nat} {tpos : Pos} (a e it : Addr) :
    Turn P w K (.Tuple elts kk tpos) (IteT K a) [e, it] e (fun i h => (∃ old, IsEnum h e it i old) ∧ h.IsTupleIter it a i ∧ e ≠ it) where
  mem := by simp
  obj := fun i h st b hb => by
    obtain ⟨⟨old, en⟩, ⟨o, ho, hc, hd⟩, _⟩ := st
    have e' : b = e ∨ b = it := by simpa using hb
    rcases e' with z | z
    · rw [z]; exact ⟨_, en, fun v q => nomatch q⟩
    · rw [z]; exact ⟨o, ho, fun v q => by rw [hd] at q; cases q⟩
  keep := fun i h G st k => let ⟨⟨old, en⟩, ti, ne⟩ := st; ⟨⟨old, k e (by simp) _ en⟩, ti.at fun o q => k it (by simp) o q, ne⟩
  item := by
    intro X hP hw hK hc i pins s σ H E J hf st hg
    subst hP hw hK
    obtain ⟨⟨old, en⟩, ti, ne⟩ := st
    obtain ⟨xs, x, hq, hx⟩ := hg
    obtain ⟨its, rv, p, hz⟩ := J.tuple hq
    obtain ⟨u, hu, ru⟩ := rv.get hx
    have p' : s.heap.IsTuple a its.toArray := p
    have lte : e < s.heap.objs.size := Heap.lt_size en
    have lti : it < s.heap.objs.size := by obtain ⟨_, q, _⟩ := ti; exact Heap.lt_size q
    have nai : a ≠ it := fun z => by
      obtain ⟨o, ho, hc1, hd1⟩ := ti
      obtain ⟨o2, ho2, hc2, _⟩ := p'
      rw [z, ho] at ho2
      cases ho2
      rw [hc1] at hc2
      exact absurd hc2 (by decide +kernel)
    have nae : e ≠ a := fun z => by
      obtain ⟨o2, ho2, hc2, _⟩ := p'
      rw [← z] at ho2
      have en' : s.heap.get? e = some _ := en
      rw [en'] at ho2
      cases ho2
      exact absurd (show Value.type "enumerate" = Value.type "tuple" from hc2) (by decide +kernel)
    have ui : its.toArray[i]? = some u := by simpa using hu
    have lt : i < its.toArray.size := by
      rcases Nat.lt_or_ge i its.toArray.size with z | z
      · exact z
      · rw [Array.getElem?_eq_none z] at ui; cases ui
    have hd := J.ok.hd hc
    refine wpAny_pyNext_enum_itemD (Draws.tuple (by exact hd) it a nai its.toArray) en ⟨ti, p'⟩ lt ne (by simp [ne, nae]) fun y G tk hy ho st' hT hsz hk => ?_
    rw [ui] at hy
    cases hy
    refine ⟨_, rfl, wpAny_letOwnedTupleGo_enum (s := { s with heap := G, toks := tk + 1 }) ho fun G2 en' sb => ?_⟩
    have hT2 : G2.get? s.heap.objs.size = some { cls := .type "tuple", data := .seq #[.int i tk, u] } := (sb.2 _ (Nat.ne_of_gt lte)).trans hT
    have new : ObjOk X.prog X.w (upd H s.heap.objs.size (.tup [.int (i : Nat), x])) G2 s.heap.objs.size (.tup [.int (i : Nat), x]) :=
      ⟨by show 2 ≤ sizeLine; decide, [.int i tk, u], .cons ⟨_, rfl⟩ (.cons ru .nil), ⟨_, hT2, rfl, _, rfl⟩⟩
    have J1 : Inv X pins σ (upd H s.heap.objs.size (.tup [.int (i : Nat), x])) { s with heap := G2, toks := tk + 1 } :=
      J.turnedNew (ch := [e, it]) (fun b ob hb q => (sb.2 b (fun z => hb (by simp [z]))).trans (hk b ob (fun z => hb (by simp [z])) (fun z => hb (by simp [z])) q)) hf (Nat.le_refl _) new
    refine ⟨.ref s.heap.objs.size, _, J1, rfl, ⟨_, x, rfl, J.hok.fresh (Nat.le_refl _), rfl, fun ys hy => by rw [J.tuple_inj hy hq]; exact hx⟩, ⟨⟨u, ?_⟩, st'.1.at fun o q => (sb.2 it (Ne.symm ne)).trans q, ne⟩, fun b hb => ?_⟩
    · have e1 : ((i + 1 : Nat) : Int) = (i : Int) + 1 := by omega
      rw [e1]; exact en'
    · have lb : b < s.heap.objs.size := by
        have e' : b = e ∨ b = it := by simpa using hb
        rcases e' with z | z
        · rw [z]; exact lte
        · rw [z]; exact lti
      rw [upd_ne (Nat.ne_of_lt lb)]
      exact (hf b hb).1
  done := by
    intro X hP hw hK hc i pins s σ H E J hf st hg
    subst hP hw hK
    obtain ⟨⟨old, en⟩, ti, ne⟩ := st
    obtain ⟨xs, hq, hx⟩ := hg
    obtain ⟨its, rv, p, hz⟩ := J.tuple hq
    obtain ⟨f0, f1, f2, f3, f4, f5⟩ := hf it (by simp)
    have hl := rv.length
    have p' : s.heap.IsTuple a its.toArray := p
    have hT : s.TypeIs (.ref e) "enumerate" := ⟨_, en, rfl⟩
    have hd := J.ok.hd hc
    unfold pyNext
    refine wpAny_bind (wpAny_attempt (wpAny_callSpecial?_slot (name := Str.ofString "__next__") hT F.slot_enumerate_next
      (wpAny_call_entry F.slot_enumerate_next hT F.entry_enumerate_next ?_ (F.args_enumerate_next_1 _))))
    show wpAny _ _ (field (.ref e) 2 >>= _) _ _ _
    refine wpAny_bind (wpAny_field en rfl (x := .ref it) rfl ?_)
    refine wpAny_bind (wpAny_nextOf_tuple_end (by exact hd) ti p' (by simp; omega) fun G x eb hx' => ?_)
    obtain ⟨o, ho, hco⟩ := hx'
    refine wpAny_bind (wpAny_isInstance (T := "StopIteration") (b := true) ⟨o, ho, hco⟩ isSubtype_stop ?_)
    exact wpAny_pure ⟨rfl, J.turned (t' := s.toks) (fun b o hb q => eb b o hb q) f0 f1 f3 f4 f5⟩
  self := fun A i s Q E st h => let ⟨⟨_, en⟩, _⟩ := st; wpAny_pyIter_enum en h
def iEnumT (K : PySem.W.Frag) (ta : TA) : TI := fun σ H R => ta σ H fun vs H1 => ∃ a xs, vs = [.ref a] ∧ SqT K H1 a xs ∧ R (IteT K a) H1
theorem pi_enumT {X : Cx} {K : PySem.W.Frag} {e : Expr} {ta : TA} {p pos tpos : Pos} {elts : List Expr} {kk : Nat} (hK : X.K = K) (hg : Gl X "enumerate") (hm : X.mg "enumerate" = none) (ha : PA X [e] ta) (hs : starEach [e] X.env = [(false, eval e X.env)] := by rfl) :
    PI X (.Tuple elts kk tpos) (.Call (.Name "enumerate" p) [e] [] pos) (iEnumT K ta) := by
  subst hK
  refine ⟨fun pins s σ H R J h => ?_⟩
  refine Call_ (ld_blt J hg hm boot_enumerate (PyProof.Rows.callWith_type1 (thn (ha.run pos pins s σ H _ J h) fun us t ⟨vs, H1, J1, r1, q1⟩ => ?_) hs rfl))
  obtain ⟨a, xs, ex, hq, q⟩ := q1
  subst ex
  obtain ⟨u, rfl, ra⟩ := vals1 r1
  cases ra
  obtain ⟨its, rv, p', hz⟩ := J1.tuple hq
  refine ts_call_enumT (show t.heap.IsTuple a its.toArray from p') fun G en ti hk => wpAny_pyIter_enum en ?_
  have J2 : Inv X pins σ H1 { t with heap := G } := J1.kept (t' := t.toks) hk
  refine ⟨t.heap.objs.size + 1, [t.heap.objs.size + 1, t.heap.objs.size], _, _, H1, rfl, J2, turn_enumT a (t.heap.objs.size + 1) t.heap.objs.size, ⟨⟨.none, en⟩, ti, Nat.succ_ne_self _⟩, fun b hb => ?_, q⟩
  have le : t.heap.objs.size ≤ b := by
    have e' : b = t.heap.objs.size + 1 ∨ b = t.heap.objs.size := by simpa using hb
    rcases e' with z | z <;> rw [z]
    · exact Nat.le_add_right _ _
    · exact Nat.le_refl _
  exact J1.fpOk le (J1.hok.fresh le)
theorem walk_enumT {K : PySem.W.Frag} {a : Addr} {xs : List V} : Walk (IteT K a) xs.length (fun H => SqT K H a xs) (YPair (fun i => some (.int (i : Nat))) (fun i => xs[i]?)) := by
  refine ⟨fun i _ hi q => ⟨xs, xs[i], q, by simp [hi]⟩, fun _ q => ⟨xs, q, Nat.le_refl _⟩, fun i H v G _ q y => ?_⟩
  obtain ⟨T, x, h1, h2, h3, h4⟩ := y
  exact ⟨T, .int (i : Nat), x, h1, h2, h3, rfl, h4 xs q⟩
/-! either of two readings -/
section
variable {X : Cx} {e tg : Expr} {t1 t2 : TE} {i1 i2 : TI}
theorem pe_either (h1 : PE X e t1) (h2 : PE X e t2) : PE X e (fun σ H Q => t1 σ H Q ∨ t2 σ H Q) := ⟨fun pins s σ H Q J h => h.elim (h1.run pins s σ H Q J) (h2.run pins s σ H Q J)⟩
theorem pi_either (h1 : PI X tg e i1) (h2 : PI X tg e i2) : PI X tg e (fun σ H R => i1 σ H R ∨ i2 σ H R) := ⟨fun pins s σ H R J h => h.elim (h1.run pins s σ H R J) (h2.run pins s σ H R J)⟩
end
end TS

set_option maxHeartbeats 2000000
/-! ### 9. defs that raise; own exceptions with one field; several except clauses -/
namespace TS
open PySem PySem.Spec PyProof.Rows L2
/-- a method's def at f -/
def DefM (K : PySem.W.Frag) (f : Addr) (m qual : Str) (st : Stmt) : Prop := ∃ fd, FunD K m qual (defArgs st) (defBody st) (defScope st) [] [] f fd
/-- a promise by the def's place -/
def PromA (CX : CXT) (P : Program) (w : World) (K : PySem.W.Frag) (mg : Str → Option Value) (base : Heap) (k : Nat) (f : Addr) (ps : List Str) (sp : Sp) : Prop := ∃ fd, FnOk P w K mg base CX k f fd ps sp ∧ Binds K fd ps []
/-- a def that may raise, by its name -/
def PromX (P : Program) (w : World) (K : PySem.W.Frag) (mg : Str → Option Value) (base : Heap) (k : Nat) (x : Str) (ps : List Str) (sp : Sp) : Prop :=
  ∃ f, PromA (L2.CX P w) P w K mg base k f ps sp ∧ mg x = some (.ref f) ∧ PySem.W.keepIn K (.ref f) = true
section
variable {P : Program} {w : World} {K : PySem.W.Frag} {mg : Str → Option Value} {base : Heap} {N ps : List Str} {k : Nat} {sp : Sp} {x m qual : Str} {st : Stmt} {f : Addr}
theorem meth_mk (D : DefM K f m qual st) (S : FnScope N ps (defScope st)) (len : ∀ vs H Q E, sp vs H Q E → vs.length = ps.length)
    (hb : ∀ (kV doc pm : Value) (an : Option Addr) (cdv ct : Value) (us : List Value), us.length = ps.length → bindArgs (PySem.W.fnOf m qual (defArgs st) (defBody st) (defScope st) .none kV doc pm an cdv ct) ⟨us, []⟩ = pure (ps.zip us))
    (body : ∀ (cdv : Value) (A : Around) (outer : List Env) (s : Shared) (H : Hp) (vs : List V) (Q : VK) (E : XK), Room k (A.deeper (envOfC qual (defScope st) s.heap.objs.size f cdv)) → sp vs H Q E →
      ∃ t, PSs (cxOf CX0 P w K mg base N qual (defScope st) f cdv A outer s H E).nox (defBody st) t ∧ t { nx := fun _ G => Q .non G, rt := Q } (start N vs) H) : PromA CX0 P w K mg base (k + 1) f ps sp := by
  obtain ⟨fd, F⟩ := D
  refine ⟨fd, F.ok S len fun cdv A outer s H vs Q E hr h => ?_, F.bindsN hb⟩
  obtain ⟨t, h1, h2⟩ := body cdv A outer s H vs Q E hr h
  exact ⟨t, h1.nox, h2⟩
theorem methX_mk (D : DefM K f m qual st) (S : FnScope N ps (defScope st)) (len : ∀ vs H Q E, sp vs H Q E → vs.length = ps.length)
    (hb : ∀ (kV doc pm : Value) (an : Option Addr) (cdv ct : Value) (us : List Value), us.length = ps.length → bindArgs (PySem.W.fnOf m qual (defArgs st) (defBody st) (defScope st) .none kV doc pm an cdv ct) ⟨us, []⟩ = pure (ps.zip us))
    (body : ∀ (cdv : Value) (A : Around) (outer : List Env) (s : Shared) (H : Hp) (vs : List V) (Q : VK) (E : XK), Room k (A.deeper (envOfC qual (defScope st) s.heap.objs.size f cdv)) → sp vs H Q E →
      ∃ t, PSs (cxOf (L2.CX P w) P w K mg base N qual (defScope st) f cdv A outer s H E) (defBody st) t ∧ t { nx := fun _ G => Q .non G, rt := Q } (start N vs) H) : PromA (L2.CX P w) P w K mg base (k + 1) f ps sp := by
  obtain ⟨fd, F⟩ := D
  exact ⟨fd, F.ok S len body, F.bindsN hb⟩
theorem promX_mk (D : Def K mg x st) (S : FnScope N ps (defScope st)) (len : ∀ vs H Q E, sp vs H Q E → vs.length = ps.length)
    (hb : ∀ (kV doc pm : Value) (an : Option Addr) (cdv ct : Value) (us : List Value), us.length = ps.length → bindArgs (PySem.W.fnOf x x (defArgs st) (defBody st) (defScope st) .none kV doc pm an cdv ct) ⟨us, []⟩ = pure (ps.zip us))
    (body : ∀ (f : Addr) (cdv : Value) (A : Around) (outer : List Env) (s : Shared) (H : Hp) (vs : List V) (Q : VK) (E : XK), Room k (A.deeper (envOfC x (defScope st) s.heap.objs.size f cdv)) → sp vs H Q E →
      ∃ t, PSs (cxOf (L2.CX P w) P w K mg base N x (defScope st) f cdv A outer s H E) (defBody st) t ∧ t { nx := fun _ G => Q .non G, rt := Q } (start N vs) H) : PromX P w K mg base (k + 1) x ps sp := by
  obtain ⟨f, fd, F, m⟩ := D
  exact ⟨f, ⟨fd, F.ok S len (body f), F.bindsN hb⟩, m, F.kp⟩
/-- in a def that may raise, what it lets out is taken -/
theorem takesF {E : XK} {qual : Str} {scope : Scope} {f : Addr} {cdv : Value} {A : Around} {outer : List Env} {s : Shared} {H : Hp} :
    Takes (cxOf (L2.CX P w) P w K mg base N qual scope f cdv A outer s H E) (fun cls d _ G => E cls d G) := takes_of rfl rfl rfl rfl
end
/-! calls of defs that may raise: what is let out goes to W -/
section
variable {X : Cx} {k : Nat} {f C : Addr} {ps : List Str} {sp : Sp} {W : WX} {x : Str} {p pos : Pos} {e : Expr} {es : List Expr} {t : TA}
theorem pe_pcX (pr : PromX X.prog X.w X.K X.mg X.base k x ps sp) (tk : Takes X W) (hr : Room k X.A) (hg : Gl X x) (ha : PA X (e :: es) t) (hdb : (x == ("__debug__" : Str)) = false := by decide)
    (he : starEach (e :: es) X.env = (false, eval e X.env) :: starEach es X.env := by rfl) (hpl : (backTo pos (starEach es X.env)).any (·.1) = false := by rfl) :
    PE X (.Call (.Name x p) (e :: es) [] pos) (tCallS sp (WE W) t) := by
  obtain ⟨f, ⟨fd, F, b⟩, m, kp⟩ := pr
  exact pe_callS F hr hg m kp b (fun σ => passAt tk σ) ha hdb he hpl
/-- C(e, ..) of an own class whose __init__ may raise -/
def tMakeS (C : Addr) (sp : Sp) (W : WX) (t : TA) : TE := fun σ H Q => t σ H fun vs H1 => ∀ x dx, H1 x = none → H1 dx = none → dx ≠ x →
  sp (.ref x :: vs) (upd (upd H1 dx (.own x)) x (.ins C dx [])) (fun v H2 => v = .non ∧ Q (.ref x) H2) (WE W σ)
theorem make_runS {fd : FuncData} {pins : List (Addr × Obj)} {σ : L2.St} {H : Hp} {s : Shared} {Q : VK} {us : List Value} {vs : List V} (M : Mk X.K C f) (F : FnOk X.prog X.w X.K X.mg X.base (L2.CX X.prog X.w) k f fd ps sp) (hr : Room (k + 1) X.A) (hb : Binds X.K fd ps [])
    (tk : Takes X W) (J : Inv X pins σ H s) (r : Vals vs us)
    (h : ∀ x dx, H x = none → H dx = none → dx ≠ x → sp (.ref x :: vs) (upd (upd H dx (.own x)) x (.ins C dx [])) (fun v H2 => v = .non ∧ Q (.ref x) H2) (WE W σ)) :
    wpAny (model X.prog X.w) X.A (call (.ref C) us) (EP X pins σ Q) X.xe s := by
  have q := h (s.heap.objs.size + 1) s.heap.objs.size (J.hok.fresh (Nat.le_succ _)) (J.hok.fresh (Nat.le_refl _)) (Nat.ne_of_lt (Nat.lt_succ_self _))
  have J2 := Inv.made (C := C) J
  have r2 : Vals (V.ref (s.heap.objs.size + 1) :: vs) (Value.ref (s.heap.objs.size + 1) :: us) := .cons rfl r
  have hl : (Value.ref (s.heap.objs.size + 1) :: us).length = ps.length := by rw [← r2.length]; exact F.len _ _ _ _ q
  have b := hb _ (Value.ref (s.heap.objs.size + 1) :: us) J2.kIn (by rw [List.append_nil]; exact hl)
  rw [List.append_nil] at b
  refine wpAny_call (make_map (f := f) J.kIn M.makes M.init (beq_iff_eq.mp M.fn) (codeAny_mono (F.run _ X.stack _ _ ⟨Value.ref (s.heap.objs.size + 1) :: us, []⟩ (Value.ref (s.heap.objs.size + 1) :: us) _ _ (WE W σ) (hr.make C us [])
    (J2.env0.make C us []) b r2 q) fun o t z => ?_))
  match o, z with
  | .error e, z => exact passAt tk σ pins _ _ e t J2 z
  | .ok (.ret u), z =>
    obtain ⟨v, G, J3, rv, ev, q3⟩ := J2.after z
    subst ev
    exact ⟨rv, ⟨V.ref (s.heap.objs.size + 1), G, J3, rfl, q3⟩⟩
theorem pe_makeS (M : Mk X.K C f) (pr : PromA (L2.CX X.prog X.w) X.prog X.w X.K X.mg X.base k f ps sp) (tk : Takes X W) (hr : Room (k + 1) X.A) (hg : Gl X x) (hm : X.mg x = some (.ref C)) (ha : PA X (e :: es) t) (hdb : (x == ("__debug__" : Str)) = false := by decide)
    (he : starEach (e :: es) X.env = (false, eval e X.env) :: starEach es X.env := by rfl) (hpl : (backTo pos (starEach es X.env)).any (·.1) = false := by rfl) :
    PE X (.Call (.Name x p) (e :: es) [] pos) (tMakeS C sp W t) := by
  obtain ⟨fd, F, b⟩ := pr
  refine ⟨fun pins s σ H Q J h => wpAny_Call_Name_kw (ld_glob J hg hm ?_ hdb)⟩
  exact PySem.W.callWith_K (h₀ := X.base) J.ok.mod.kin M.kp (thn (ha.run pos pins s σ H _ J h) fun us t ⟨vs, H1, J1, r, q⟩ => ⟨J1.kIn, make_runS M F hr b tk J1 r q⟩) he hpl
end
/-! len of an instance with its own __len__ -/
def rLenOwn (C : Addr) (sp : Sp) : List V → Hp → VK → Prop := fun xs H Q => ∃ a dx fs, xs = [.ref a] ∧ H a = some (.ins C dx fs) ∧ sp [.ref a] H (fun v G => ∃ n : Nat, v = .int n ∧ n < 2 ^ 40 ∧ Q (.int n) G) E0
theorem len_own {X : Cx} {k : Nat} {C f : Addr} {ps : List Str} {sp : Sp} (M : Meth X.K C "__len__" f) (pr : PromA CX0 X.prog X.w X.K X.mg X.base k f ps sp) (hr : Room (k + 1) X.A) : CallR X (.builtin "len") (rLenOwn C sp) := by
  intro pins s σ H xs us Q J r rd
  obtain ⟨a, dx, fs, rfl, ea, q⟩ := rd
  obtain ⟨u, rfl, ra⟩ := vals1 r
  cases ra
  obtain ⟨fd, F, hb⟩ := pr
  obtain ⟨mA, O, rr, _, _, _⟩ := ins_get J.hok ea
  obtain ⟨od, at_, _⟩ := O.look
  have b := hb s [.ref a] J.kIn (F.len _ _ _ _ q)
  refine Calls.call_function_entry PySem.kind_len PySem.plain_len PySem.entry_len (PySem.args_len1 _) ?_
  unfold Builtin.«len»
  refine wpAny_bind (m := oneArg "len" _) (wpAny_pure ?_)
  refine wpAny_bind (m := callSpecial? (.ref a) (Str.ofString "__len__")) (PySem.W.special_fn J.kIn at_ M.at_ (beq_iff_eq.mp M.fn) ?_)
  refine wpAny_call (codeAny_mono (F.run X.A.in1 X.stack s H ⟨[.ref a], []⟩ [.ref a] [.ref a] _ E0 hr.in1 J.env0.in1 b (.cons rfl .nil) q) fun o t z => ?_)
  match o, z with
  | .error e, z => exact pass0 pins σ H s e t J z
  | .ok (.ret u), z =>
    obtain ⟨v, G, J2, rv, n, rfl, hn, q2⟩ := J.after z
    obtain ⟨tk, rfl⟩ := rv
    show wpAny _ _ _ _ _ _
    refine wpAny_bind (wpAny_holding (wpAny_pure ?_))
    refine wpAny_bind (wpAny_letGo ?_)
    show wpAny _ _ (if ((n : Nat) : Int) < 0 then _ else _) _ _ _
    rw [if_neg (by omega)]
    show wpAny _ _ (if ((n : Nat) : Int) ≥ 2 ^ 63 then _ else _) _ _ _
    rw [if_neg (by omega)]
    exact wpAny_bind (wpAny_mkInt (wpAny_pure ⟨_, rfl, .int n, G, J2.kept fun _ _ z => z, ⟨_, rfl⟩, q2⟩))
end TS

set_option maxHeartbeats 2000000
namespace TS
open PySem PySem.Spec PyProof.Rows L2
/-- B is an own class over ValueError without an __init__ of its own -/
structure FamV (K : PySem.W.Frag) (B : Addr) : Prop where
  rd : ClX.CRead K B (.type "type")
  ini : PySem.W.findCls K (.ref B) (.type "type") "__init__" = some (.val (.builtin "ValueError.__init__"))
/-- C is an own class of exceptions over ValueError, with an __init__ of its own, and no other thing called f -/
structure OwnV (K : PySem.W.Frag) (C : Addr) (f : Str) : Prop where
  ox : OexC K C
  xf : XfC K C
  ini : PySem.W.findIn K (.ref C) "__init__" = some (some (.ref (He.ma K C "__init__")))
  fn : PySem.W.typeIn K (.ref (He.ma K C "__init__")) = some (.type "function")
  no : PySem.W.findIn K (.ref C) f = some none
section
variable {X : Cx} {B : Addr} {x : Str} {e : Expr} {es : List Expr} {ta : TA} {p1 p2 pos : Pos}
/-- B.__init__(self, ..) -/
theorem pe_famInit {pl : Sem Bool} (T : FamV X.K B) (hg : Gl X x) (hm : X.mg x = some (.ref B)) (ha : PA X (e :: es) ta) (hdb : (x == ("__debug__" : Str)) = false := by decide)
    (hc : eval (.Call (.Attribute (.Name x p1) "__init__" p2) (e :: es) [] pos) X.env = (do
      let ov ← eval (.Name x p1) X.env
      standAt p2.atName
      let (f, first) ← holding [ov] (getMethod ov "__init__" pl)
      callWith pos f first (backTo pos (starEach (e :: es) X.env)) (backToKw pos (keywordEach [] X.env))) := by rfl)
    (he : starEach (e :: es) X.env = (false, eval e X.env) :: starEach es X.env := by rfl) (hpl : (backTo pos (starEach es X.env)).any (·.1) = false := by rfl) :
    PE X (.Call (.Attribute (.Name x p1) "__init__" p2) (e :: es) [] pos) (tVeI X.K ta) := by
  refine ⟨fun pins s σ H Q J h => ?_⟩
  refine PySem.W.methodCall_KW (ld_glob J hg hm ?_ hdb) hc
  refine PySem.W.method_cls J.kIn T.rd.ga (PySem.W.cls_value J.kIn T.rd.rd T.ini rfl ?_)
  show wpAny _ _ (callWith pos (Value.builtin "ValueError.__init__") [] (backTo pos (starEach (e :: es) X.env)) []) _ _ _
  refine PyProof.Rows.callWith_method1 (thn (ha.run pos pins _ σ H _ (J.tok _) h) fun us t ⟨vs, H1, J1, r1, a, C, ws, ev, hl, O, ea, q⟩ => ?_) he hpl
  subst ev
  cases r1 with
  | @cons _ u0 _ ur ra rw' =>
    obtain rfl : u0 = Value.ref a := ra
    exact oinit_ok O J1 ea (by rw [← Paired.length rw', sizeLine_eq]; omega) fun t' J2 => ⟨.non, H1, J2, rfl, q⟩
end
/-- what the __init__ of such a class keeps -/
def spIni (C : Addr) (f : Str) : Sp := fun vs H Q _ => ∃ a v, vs = [.ref a, v] ∧ H a = some (exo a C none) ∧ ∀ dx, H dx = none → dx ≠ a → Q .non (upd (upd H dx (exd dx [(f, v)])) a (exo a C (some dx)))
/-- a reading, weakened -/
def tMono (te : TE) : TE := fun σ H Q => ∃ R : VK, te σ H R ∧ ∀ v G, R v G → Q v G
theorem pe_mono {X : Cx} {e : Expr} {te : TE} (he : PE X e te) : PE X e (tMono te) := ⟨fun pins s σ H Q J ⟨R, h, m⟩ => thn (he.run pins s σ H R J h) fun _ _ ⟨v, G, J1, r, q⟩ => ⟨v, G, J1, r, m v G q⟩⟩
/-- raise C(e) -/
def tRaise1 (C : Addr) (f : Str) (te : TE) (W : WX) : TS := fun _ σ H => te σ H fun v H1 => ∀ d, H1 d = none → W (.ref C) (some d) σ (upd H1 d (.xd [(f, v)]))
theorem upd_swap {H : Hp} {a d : Addr} {o u v w : HO} (h : d ≠ a) (n : H a = none) : upd (del (upd (upd (upd H a o) d u) a v) a) d w = upd H d w := by
  funext b
  by_cases hb : b = d
  · rw [hb, upd_same, upd_same]
  · rw [upd_ne hb, upd_ne hb]
    by_cases ha : b = a
    · rw [ha, del_same, n]
    · rw [del_ne ha, upd_ne ha, upd_ne hb, upd_ne ha]
section
variable {X : Cx} {C : Addr} {f x : Str} {k : Nat} {ps : List Str} {e : Expr} {te : TE} {W : WX} {p pos pos2 : Pos}
theorem ps_raise1 (T : OwnV X.K C f) (pr : PromA CX0 X.prog X.w X.K X.mg X.base k (He.ma X.K C "__init__") ps (spIni C f)) (hc : X.calm = true) (tk : Takes X W) (hr : Room (k + 1) X.A) (hg : Gl X x) (hm : X.mg x = some (.ref C)) (he : PE X e te)
    (hdb : (x == ("__debug__" : Str)) = false := by decide) (hs : starEach [e] X.env = (false, eval e X.env) :: starEach [] X.env := by rfl) (hpl : (backTo pos (starEach [] X.env)).any (·.1) = false := by rfl) :
    PS X (.Raise (some (.Call (.Name x p) [e] [] pos)) none pos2) (tRaise1 C f te W) := by
  obtain ⟨fd, F, b⟩ := pr
  have mk := pmk_oex (p := p) (pos := pos) (dvs := []) (ds := []) T.ox T.ini T.fn F hr b .nil pass0 hg hm (pa_cons (pe_mono he) pa_nil hs) hdb hs hpl
  refine ⟨fun pins s σ H D J h => (ps_raise hc tk mk).run pins s σ H D J ?_⟩
  refine ⟨_, h, fun v H1 q => ⟨by show 1 ≤ 1000; decide, fun a na => ⟨a, v, rfl, upd_same .., fun dx nd ne => ⟨rfl, dx, [(f, v)], upd_same .., ?_, ?_, ?_⟩⟩⟩⟩
  · rw [upd_ne ne, upd_same]
  · rw [upd_ne ne] at nd; exact nd
  · rw [upd_ne ne] at nd
    rw [upd_swap ne na]
    exact q dx nd
end
end TS

set_option maxHeartbeats 2000000
/-! ### 10. try with several clauses, named ones and others; what lies behind them is never reached -/
namespace TS
open PySem PySem.Spec PyProof.Rows L2
/-- behind a named clause its name is unbound -/
def Ends.drop (D : Ends) (i : Nat) : Ends := { nx := fun τ G => D.nx (τ.set i none) G, rt := D.rt, bk := fun τ G => D.bk (τ.set i none) G, ct := fun τ G => D.ct (τ.set i none) G }
abbrev Clause := Value × Option Nat × (Addr → Value → Option Addr → TS)
def wClauses (K : PySem.W.Frag) (D : Ends) : List Clause → WX
  | [] => fun _ _ _ _ => False
  | (c, some i, ts) :: r => fun cls d σ H => ∃ b, PySem.W.exmOne K cls c = some b ∧ (b = true → ∀ a, H a = none → ts a cls d (Ends.drop D i) (σ.set i (some (.ref a))) H) ∧ (b = false → wClauses K D r cls d σ H)
  | (c, none, ts) :: r => fun cls d σ H => ∃ b, PySem.W.exmOne K cls c = some b ∧ (b = true → ∀ a, H a = none → ts a cls d D σ H) ∧ (b = false → wClauses K D r cls d σ H)
abbrev SuiteOk (X : Cx) (st : List Stmt) (ts : Addr → Value → Option Addr → TS) : Prop :=
  ∀ (a : Addr) (oe : Obj) (cls : Value) (d : Option Addr) (pn : List (Addr × Obj)), Zc cls d oe → (∃ vs, oe.data = .fields vs) → PSs (X.suite a ((a, oe) :: pn)) st (ts a cls d)
inductive ClausesOk (X : Cx) : List ExceptHandler → List Clause → Prop
  | stop {l : List ExceptHandler} : ClausesOk X l []
  | as_ {x n : Str} {i : Nat} {c : Value} {ts : Addr → Value → Option Addr → TS} {b₀ : Stmt} {suite : List Stmt} {np pp : Pos} {l : List ExceptHandler} {r : List Clause} (hi : X.N[i]? = some n) (hln : X.env.kindOf n = some .local) (hc : Names X x c)
      (hsu : SuiteOk X (b₀ :: suite) ts) (t : ClausesOk X l r) : ClausesOk X (.ExceptHandler (some (.Name x np)) (some n) (b₀ :: suite) pp :: l) ((c, some i, ts) :: r)
  | only {x : Str} {c : Value} {ts : Addr → Value → Option Addr → TS} {b₀ : Stmt} {suite : List Stmt} {np pp : Pos} {l : List ExceptHandler} {r : List Clause} (hc : Names X x c)
      (hsu : SuiteOk X (b₀ :: suite) ts) (t : ClausesOk X l r) : ClausesOk X (.ExceptHandler (some (.Name x np)) none (b₀ :: suite) pp :: l) ((c, none, ts) :: r)
section
variable {X : Cx} {body : List Stmt} {h₀ : ExceptHandler} {hs' : List ExceptHandler} {cl : List Clause} {pos : Pos} {tb : WX → TS}
theorem ps_try (stk : X.stack = X.env :: X.outer) (frm : X.env.frame = some X.env.locals) (nod : X.N.Nodup)
    (bod : ∀ (W : WX) (pn : List (Addr × Obj)) (xe : Value → Shared → Prop), Takes (X.tr pn xe) W → PassesOwn (model X.prog X.w) X.A X.env xe → PSs (X.tr pn xe) body (tb W))
    (cls' : ClausesOk X (h₀ :: hs') cl) : PS X (.Try body (h₀ :: hs') [] [] pos) (fun D σ H => tb (wClauses X.K D cl) D σ H) := by
  refine ⟨fun pins s σ H D J rd => ?_⟩
  have xok := J.ok
  have afr : X.A.frames = some (X.env :: X.outer) := by rw [xok.frames, stk]
  refine wpAny_Try_except ?_
  refine wpAny_mono ((bod (wClauses X.K D cl) (X.pn ++ pins) (fun u t1 => wpAny (model X.prog X.w) X.A (noteFrame u X.env) (fun _ t2 => wpAny (model X.prog X.w) X.A (setFlight u none) (fun _ t3 =>
    wpAny (model X.prog X.w) X.A (handleBy u X.env (h₀ :: hs')) (SP X pins D) X.xe t3) X.xe t2) X.xe t1) (fun u t air => ?_) PassesOwn.looking).run [] s σ H D (J.toTry _) rd) (fun fl t1 sp => ?_) (fun u t1 z => z)
  · obtain ⟨a, gr, sA, pins', σ', H', cls, d, rfl, J', ngr, up, sky, na, os, ag, wish⟩ := air
    have J1 : Inv X pins σ' H' sA := J'.ofTry xok
    have sky1 : Sky gr (X.env :: X.outer) a (Zc cls d) X.env.locals t.heap := by rw [← stk]; exact sky
    show wpAny (model X.prog X.w) X.A (noteFrame (.ref a) X.env) _ _ _
    refine Sky.land Zc.steady afr frm sky1 fun h3 fl3 up3 => ?_
    have J3 : Inv X pins σ' H' { t with heap := h3 } := J1.landed ngr fl3.1 (up.trans up3) os ag
    obtain ⟨oe3, vs3, get3, zc3, dat3⟩ := fl3.there
    have off : ∀ {h : Heap} {o : Obj} {vs : Array Value}, h.FunFrames gr (X.env :: X.outer) → h.get? a = some o → o.data = .fields vs → a ∉ frs (X.env :: X.outer) := fun {h o vs} ff g dd m => by
      obtain ⟨_, o', g', nf⟩ := ff.mem m
      rw [g] at g'; cases g'
      exact nf _ dd
    have offA := off fl3.2.2.1 get3 dat3
    have neL : a ≠ X.env.locals := fun z => offA (List.mem_filterMap.mpr ⟨X.env, List.mem_cons_self, by rw [frm, z]⟩)
    have neF : a ∉ X.fs := fun m => by
      obtain ⟨en, me, q⟩ := List.mem_filterMap.mp m
      exact offA (List.mem_filterMap.mpr ⟨en, List.mem_cons_of_mem _ me, q⟩)
    have S3 := J3.suite get3 dat3 na neL neF
    have ld : ∀ {x : Str} {c : Value} {np : Pos}, Names X x c → ∀ {Q : Value → Shared → Prop} {E : Value → Shared → Prop}, Q c { t with heap := h3 } → wpAny (model X.prog X.w) (X.A.mark (some (.ref a))) (eval (.Name x np) X.env) Q E { t with heap := h3 } := fun {x c np} nm {Q E} q => by
      obtain ⟨g, db, m | ⟨m, v, nn⟩⟩ := nm
      · exact ld_glob (X := X.suite a ((a, oe3) :: (X.pn ++ pins))) S3 g m q db
      · exact ld_blt (X := X.suite a ((a, oe3) :: (X.pn ++ pins))) S3 g m v q nn db
    have LT : PySem.W.Looks (model X.prog X.w) h3 (typeOf (.ref a)) cls := fun A Q E s k q => wpAny_typeOf_ref (k _ _ get3) (by rw [zc3.1]; exact q)
    have go : ∀ {l : List ExceptHandler} {r : List Clause}, ClausesOk X l r → wClauses X.K D r cls d σ' H' → wpAny (model X.prog X.w) X.A (handleBy (.ref a) X.env l) (SP X pins D) X.xe { t with heap := h3 } := by
      intro l r ck
      induction ck with
      | stop => intro w; exact False.elim w
      | @as_ x n i c ts b₀ suite np pp l r hi hln hc hsu t2 ih =>
        intro w
        obtain ⟨b, eb, yes, no⟩ := w
        refine wpAny_handleBy_cons (codeAny_handlers_test ?_) (by intro q; cases q)
        refine ld hc ((PySem.W.exm_one (M := model X.prog X.w) J3.kIn LT eb).here ?_)
        cases b with
        | false =>
          show wpAny _ X.A (handleBy (.ref a) X.env l) _ _ _
          exact ih (no rfl)
        | true =>
          refine codeAny_handlers_suite_as ?_
          refine HandSPX.lands_againZ fl3 fun h4 fl4 up4 => ?_
          have J4 : Inv X pins σ' H' { t with heap := h4 } := J1.landed ngr fl4.1 ((up.trans up3).trans up4) os ag
          obtain ⟨oe4, vs4, get4, zc4, dat4⟩ := fl4.there
          have S4 := J4.suite get4 dat4 na neL neF
          refine store_ok (X := X.suite a ((a, oe4) :: (X.pn ++ pins))) (v := .ref a) S4 nod hi (.inl hln) rfl (fun t5 S5 => ?_) (.inr hln)
          refine wpAny_mono ((hsu a oe4 cls d (X.pn ++ pins) zc4 ⟨_, dat4⟩).run [] t5 _ H' _ S5 (yes rfl a na)) (fun fl t6 sp => ?_) (fun _ _ z => False.elim z)
          have un : ∀ {σ6 : L2.St} {H6 : Hp} {Q : Shared → Prop}, Inv (X.suite a ((a, oe4) :: (X.pn ++ pins))) [] σ6 H6 t6 → (∀ t7, Inv X pins (σ6.set i none) H6 t7 → Q t7) →
              wpAny (model X.prog X.w) X.A (do bindName X.env n .none; unbindBehindTheSuite X.env n pp) (fun _ t7 => Q t7) X.xe t6 := fun {σ6 H6 Q} S6 q => gone_ok (S6.unsuite xok) nod hi hln q
          cases fl with
          | next => exact let ⟨_, _, S6, q6⟩ := sp; un S6 fun t7 J7 => ⟨_, _, J7, q6⟩
          | brk => exact let ⟨_, _, S6, q6⟩ := sp; un S6 fun t7 J7 => ⟨_, _, J7, q6⟩
          | cont => exact let ⟨_, _, S6, q6⟩ := sp; un S6 fun t7 J7 => ⟨_, _, J7, q6⟩
          | ret u => exact let ⟨_, _, _, S6, r6, q6⟩ := sp; un S6 fun t7 J7 => ⟨_, _, _, J7, r6, q6⟩
      | @only x c ts b₀ suite np pp l r hc hsu t2 ih =>
        intro w
        obtain ⟨b, eb, yes, no⟩ := w
        refine wpAny_handleBy_cons (codeAny_handlers_test ?_) (by intro q; cases q)
        refine ld hc ((PySem.W.exm_one (M := model X.prog X.w) J3.kIn LT eb).here ?_)
        cases b with
        | false =>
          show wpAny _ X.A (handleBy (.ref a) X.env l) _ _ _
          exact ih (no rfl)
        | true =>
          refine codeAny_handlers_suite ?_
          refine HandSPX.lands_againZ fl3 fun h4 fl4 up4 => ?_
          have J4 : Inv X pins σ' H' { t with heap := h4 } := J1.landed ngr fl4.1 ((up.trans up3).trans up4) os ag
          obtain ⟨oe4, vs4, get4, zc4, dat4⟩ := fl4.there
          have S4 := J4.suite get4 dat4 na neL neF
          refine wpAny_mono ((hsu a oe4 cls d (X.pn ++ pins) zc4 ⟨_, dat4⟩).run [] _ _ H' _ S4 (yes rfl a na)) (fun fl t6 sp => ?_) (fun _ _ z => False.elim z)
          cases fl with
          | next => exact let ⟨_, _, S6, q6⟩ := sp; ⟨_, _, S6.unsuite xok, q6⟩
          | brk => exact let ⟨_, _, S6, q6⟩ := sp; ⟨_, _, S6.unsuite xok, q6⟩
          | cont => exact let ⟨_, _, S6, q6⟩ := sp; ⟨_, _, S6.unsuite xok, q6⟩
          | ret u => exact let ⟨_, _, _, S6, r6, q6⟩ := sp; ⟨_, _, _, S6.unsuite xok, r6, q6⟩
    exact go cls' wish
  · cases fl with
    | next => exact let ⟨σ', H', J', q⟩ := sp; wpAny_execs_nil ⟨σ', H', J'.ofTry xok, q⟩
    | brk => exact let ⟨σ', H', J', q⟩ := sp; ⟨σ', H', J'.ofTry xok, q⟩
    | cont => exact let ⟨σ', H', J', q⟩ := sp; ⟨σ', H', J'.ofTry xok, q⟩
    | ret u => exact let ⟨v, σ', H', J', r, q⟩ := sp; ⟨v, σ', H', J'.ofTry xok, r, q⟩
end
end TS

/-! ### 11. data: kinds, sizes -/
namespace TS
open PySem PySem.Spec PyProof.Rows L2
def tyN : PyData → String
  | .none => "NoneType"
  | .bool _ => "bool"
  | .int _ => "int"
  | .str _ => "str"
  | .list _ => "list"
  | .tuple _ => "tuple"
  | .dict _ => "dict"
theorem Dt.ty {K : PySem.W.Frag} {H : Hp} : ∀ {v : V} {d : PyData}, Dt K H v d → TyX K H v (.type (tyN d))
  | _, _, .non => .base .non
  | _, _, .bl b => .base (.bl b)
  | _, _, .int i => .base (.int i)
  | _, _, .str x => .base (.str x)
  | _, _, .lst h _ => by
    rcases h with (h | ⟨o, h⟩) | ⟨o, its, n, hk, hc, _⟩
    · exact .base (.lst h)
    · exact .base (.frz h)
    · exact .kList hk hc
  | _, _, .tup h _ => by
    rcases h with (h | ⟨o, h⟩) | ⟨o, its, n, hk, hc, _⟩
    · exact .base (.tup h)
    · exact .fTuple h
    · exact .kTuple hk hc
  | _, _, .dct h _ _ => .base (.dK h)
/-- isinstance of data -/
def isD (c : String) (d : PyData) : Bool := kitB (tyN d) c == some true
def kinds : List String := ["NoneType", "bool", "int", "str", "list", "tuple", "dict"]
theorem tyN_mem (d : PyData) : tyN d ∈ kinds := by cases d <;> simp [tyN, kinds]
section
variable {K : PySem.W.Frag} {d : PyData}
theorem isi_str : PySem.W.kitOne K (.type (tyN d)) (.type "str") = some (isD "str" d) := kit_ty ((by decide +kernel : ∀ n ∈ kinds, kitB n "str" = some (kitB n "str" == some true)) _ (tyN_mem d))
theorem isi_int : PySem.W.kitOne K (.type (tyN d)) (.type "int") = some (isD "int" d) := kit_ty ((by decide +kernel : ∀ n ∈ kinds, kitB n "int" = some (kitB n "int" == some true)) _ (tyN_mem d))
theorem isi_bool : PySem.W.kitOne K (.type (tyN d)) (.type "bool") = some (isD "bool" d) := kit_ty ((by decide +kernel : ∀ n ∈ kinds, kitB n "bool" = some (kitB n "bool" == some true)) _ (tyN_mem d))
theorem isi_list : PySem.W.kitOne K (.type (tyN d)) (.type "list") = some (isD "list" d) := kit_ty ((by decide +kernel : ∀ n ∈ kinds, kitB n "list" = some (kitB n "list" == some true)) _ (tyN_mem d))
theorem isi_tuple : PySem.W.kitOne K (.type (tyN d)) (.type "tuple") = some (isD "tuple" d) := kit_ty ((by decide +kernel : ∀ n ∈ kinds, kitB n "tuple" = some (kitB n "tuple" == some true)) _ (tyN_mem d))
theorem isi_dict : PySem.W.kitOne K (.type (tyN d)) (.type "dict") = some (isD "dict" d) := kit_ty ((by decide +kernel : ∀ n ∈ kinds, kitB n "dict" = some (kitB n "dict" == some true)) _ (tyN_mem d))
theorem isi_lt : PySem.W.kitAny K (.type (tyN d)) [.type "list", .type "tuple"] = some (isD "list" d || isD "tuple" d) :=
  kitAny_cons isi_list (fun h1 => kitAny_cons isi_tuple (fun h => by rw [h1, h]; rfl) (fun h => by rw [h, Bool.or_true])) (fun h => by rw [h, Bool.true_or])
theorem isD_str (h : isD "str" d = true) : ∃ z, d = .str z := by
  have e := (by decide +kernel : ∀ n ∈ kinds, (kitB n "str" == some true) = true → n = "str") _ (tyN_mem d) h
  cases d <;> first | exact ⟨_, rfl⟩ | exact absurd e (by simp [tyN])
theorem isD_int (h : isD "int" d = true) : (∃ i, d = .int i) ∨ ∃ b, d = .bool b := by
  have e := (by decide +kernel : ∀ n ∈ kinds, (kitB n "int" == some true) = true → n = "int" ∨ n = "bool") _ (tyN_mem d) h
  cases d <;> first | exact .inl ⟨_, rfl⟩ | exact .inr ⟨_, rfl⟩ | exact absurd e (by simp [tyN])
theorem isD_bool (h : isD "bool" d = true) : ∃ b, d = .bool b := by
  have e := (by decide +kernel : ∀ n ∈ kinds, (kitB n "bool" == some true) = true → n = "bool") _ (tyN_mem d) h
  cases d <;> first | exact ⟨_, rfl⟩ | exact absurd e (by simp [tyN])
theorem isD_list (h : isD "list" d = true) : ∃ l, d = .list l := by
  have e := (by decide +kernel : ∀ n ∈ kinds, (kitB n "list" == some true) = true → n = "list") _ (tyN_mem d) h
  cases d <;> first | exact ⟨_, rfl⟩ | exact absurd e (by simp [tyN])
theorem isD_tuple (h : isD "tuple" d = true) : ∃ l, d = .tuple l := by
  have e := (by decide +kernel : ∀ n ∈ kinds, (kitB n "tuple" == some true) = true → n = "tuple") _ (tyN_mem d) h
  cases d <;> first | exact ⟨_, rfl⟩ | exact absurd e (by simp [tyN])
theorem isD_dict (h : isD "dict" d = true) : ∃ l, d = .dict l := by
  have e := (by decide +kernel : ∀ n ∈ kinds, (kitB n "dict" == some true) = true → n = "dict") _ (tyN_mem d) h
  cases d <;> first | exact ⟨_, rfl⟩ | exact absurd e (by simp [tyN])
theorem isD_strs (z : Str) : isD "str" (.str z) = true := by show (kitB "str" "str" == some true) = true; decide +kernel
theorem isD_lists (l : List PyData) : isD "list" (.list l) = true := by show (kitB "list" "list" == some true) = true; decide +kernel
theorem isD_tuples (l : List PyData) : isD "tuple" (.tuple l) = true := by show (kitB "tuple" "tuple" == some true) = true; decide +kernel
theorem isD_ints (i : Int) : isD "int" (.int i) = true := by show (kitB "int" "int" == some true) = true; decide +kernel
theorem isD_intb (i : Int) : isD "bool" (.int i) = false := by show (kitB "int" "bool" == some true) = false; decide +kernel
theorem isD_bools (i : Bool) : isD "bool" (.bool i) = true := by show (kitB "bool" "bool" == some true) = true; decide +kernel
theorem isD_boolt (i : Bool) : isD "int" (.bool i) = true := by show (kitB "bool" "int" == some true) = true; decide +kernel
end
/-! values of data by their kind -/
section
variable {K : PySem.W.Frag} {H : Hp} {v : V}
theorem Dt.str_inv {z : Str} (h : Dt K H v (.str z)) : v = .str z := by cases h; rfl
theorem Dt.int_inv {i : Int} (h : Dt K H v (.int i)) : v = .int i := by cases h; rfl
theorem Dt.bool_inv {i : Bool} (h : Dt K H v (.bool i)) : v = .bl i := by cases h; rfl
theorem Dt.list_inv {l : List PyData} (h : Dt K H v (.list l)) : ∃ a xs, v = .ref a ∧ SqL K H a xs ∧ DtAll K H xs l := by cases h with | lst a b => exact ⟨_, _, rfl, a, b⟩
theorem Dt.tup_inv {l : List PyData} (h : Dt K H v (.tuple l)) : ∃ a xs, v = .ref a ∧ SqT K H a xs ∧ DtAll K H xs l := by cases h with | tup a b => exact ⟨_, _, rfl, a, b⟩
theorem DtAll.get : ∀ {xs : List V} {ds : List PyData} {i : Nat} {x : V}, DtAll K H xs ds → xs[i]? = some x → ∃ d, ds[i]? = some d ∧ Dt K H x d
  | _, _, 0, _, .cons h _, e => by cases e; exact ⟨_, rfl, h⟩
  | _ :: _, _ :: _, i + 1, _, .cons _ t, e => DtAll.get (i := i) t (by simpa using e)
  | _, _, _, _, .nil, e => by simp at e
theorem DtAll.getD : ∀ {xs : List V} {ds : List PyData} {i : Nat} {d : PyData}, DtAll K H xs ds → ds[i]? = some d → ∃ x, xs[i]? = some x ∧ Dt K H x d
  | _, _, 0, _, .cons h _, e => by cases e; exact ⟨_, rfl, h⟩
  | _ :: _, _ :: _, i + 1, _, .cons _ t, e => DtAll.getD (i := i) t (by simpa using e)
  | _, _, _, _, .nil, e => by simp at e
theorem DtAll.append : ∀ {xs ys : List V} {ds es : List PyData}, DtAll K H xs ds → DtAll K H ys es → DtAll K H (xs ++ ys) (ds ++ es)
  | _, _, _, _, .nil, b => b
  | _, _, _, _, .cons h t, b => .cons h (DtAll.append t b)
theorem DtAll.set : ∀ {xs : List V} {ds : List PyData} {i : Nat} {x : V} {d : PyData}, DtAll K H xs ds → Dt K H x d → DtAll K H (xs.set i x) (ds.set i d)
  | _, _, _, _, _, .nil, _ => .nil
  | _, _, 0, _, _, .cons _ t, h => .cons h t
  | _, _, i + 1, _, _, .cons a t, h => .cons a (DtAll.set t h)
theorem DtAll.of : ∀ {xs : List V} {ds : List PyData}, xs.length = ds.length → (∀ (i : Nat) (x : V) (d : PyData), xs[i]? = some x → ds[i]? = some d → Dt K H x d) → DtAll K H xs ds
  | [], [], _, _ => .nil
  | x :: xs, d :: ds, h, q => .cons (q 0 x d rfl rfl) (DtAll.of (by simpa using h) fun i y e a b => q (i + 1) y e a b)
end
/-! ### sizes: what may be shown -/
structure Shows (d : PyData) : Prop where
  ok : d.showable = true
  deep : d.depth ≤ 40
  size : d.shown.length ≤ sizeLine
def smB (k n : Nat) (d : PyData) : Bool := d.showable && decide (d.depth ≤ k) && d.leavesShort 40 && decide (d.weight ≤ n)
def Sm (k n : Nat) (d : PyData) : Prop := smB k n d = true
theorem Sm.of {k n : Nat} {d : PyData} (a : d.showable = true) (b : d.depth ≤ k) (c : d.leavesShort 40 = true) (e : d.weight ≤ n) : Sm k n d := by
  unfold Sm smB
  rw [a, decide_eq_true b, c, decide_eq_true e]; rfl
theorem Sm.to {k n : Nat} {d : PyData} (h : Sm k n d) : d.showable = true ∧ d.depth ≤ k ∧ d.leavesShort 40 = true ∧ d.weight ≤ n := by
  unfold Sm smB at h
  simp only [Bool.and_eq_true, decide_eq_true_eq] at h
  exact ⟨h.1.1.1, h.1.1.2, h.1.2, h.2⟩
theorem Sm.mono {k n k' n' : Nat} {d : PyData} (h : Sm k n d) (hk : k ≤ k') (hn : n ≤ n') : Sm k' n' d := let ⟨a, b, c, e⟩ := h.to; .of a (by omega) c (by omega)
theorem Sm.shows {k n : Nat} {d : PyData} (h : Sm k n d) (hk : k ≤ 40 := by decide) (hn : n ≤ 300000 := by decide) : Shows d := by
  obtain ⟨a, b, c, e⟩ := h.to
  refine ⟨a, by omega, Nat.le_trans (PyData.shown_le 40 (by decide) d c) ?_⟩
  rw [sizeLine_eq]
  omega
theorem Sm.str {z : Str} {k n : Nat} (hc : ∀ c ∈ z.cps.toList, c < 16 ^ 8) (h : z.length ≤ n) : Sm k n (.str z) := by
  refine .of rfl (Nat.zero_le _) ?_ h
  unfold PyData.leavesShort
  rw [List.all_eq_true]
  exact fun c m => decide_eq_true (hc c m)
section
variable {k n : Nat}
theorem all_show : ∀ {ds : List PyData}, (∀ d ∈ ds, d.showable = true) → PyData.showableAll ds = true
  | [], _ => rfl
  | d :: r, h => by unfold PyData.showableAll; rw [h d (by simp), all_show fun x m => h x (List.mem_cons_of_mem _ m)]; rfl
theorem all_deep : ∀ {ds : List PyData}, (∀ d ∈ ds, d.depth ≤ k) → PyData.depthAll ds ≤ k
  | [], _ => Nat.zero_le _
  | d :: r, h => by
    unfold PyData.depthAll
    have a := h d (by simp)
    have b := all_deep fun x m => h x (List.mem_cons_of_mem d m)
    omega
theorem all_short : ∀ {ds : List PyData}, (∀ d ∈ ds, d.leavesShort 40 = true) → PyData.leavesShortAll 40 ds = true
  | [], _ => rfl
  | d :: r, h => by unfold PyData.leavesShortAll; rw [h d (by simp), all_short fun x m => h x (List.mem_cons_of_mem _ m)]; rfl
theorem all_weight : ∀ {ds : List PyData}, (∀ d ∈ ds, d.weight ≤ n) → PyData.weightAll ds ≤ ds.length * (n + 1)
  | [], _ => Nat.zero_le _
  | d :: r, h => by
    unfold PyData.weightAll
    have a := h d (by simp)
    have b := all_weight fun x m => h x (List.mem_cons_of_mem d m)
    rw [List.length_cons, Nat.succ_mul]
    omega
theorem Sm.list {ds : List PyData} {m : Nat} (h : ∀ d ∈ ds, Sm k n d) (hl : ds.length ≤ m) : Sm (k + 1) (m * (n + 1)) (.list ds) := by
  refine .of (by unfold PyData.showable; exact all_show fun d m => (h d m).to.1) (by unfold PyData.depth; have := all_deep fun d m => (h d m).to.2.1; omega) (by unfold PyData.leavesShort; exact all_short fun d m => (h d m).to.2.2.1) ?_
  unfold PyData.weight
  exact Nat.le_trans (all_weight fun d m => (h d m).to.2.2.2) (Nat.mul_le_mul_right _ hl)
theorem Sm.tuple {ds : List PyData} {m : Nat} (h : ∀ d ∈ ds, Sm k n d) (hl : ds.length ≤ m) : Sm (k + 1) (m * (n + 1)) (.tuple ds) := by
  refine .of (by unfold PyData.showable; exact all_show fun d m => (h d m).to.1) (by unfold PyData.depth; have := all_deep fun d m => (h d m).to.2.1; omega) (by unfold PyData.leavesShort; exact all_short fun d m => (h d m).to.2.2.1) ?_
  unfold PyData.weight
  exact Nat.le_trans (all_weight fun d m => (h d m).to.2.2.2) (Nat.mul_le_mul_right _ hl)
end
/-! small numbers -/
theorem Sm.int {i : Int} {k : Nat} (h0 : -100 ≤ i) (h1 : i ≤ 150) : Sm k 10 (.int i) := by
  have all : ∀ j ∈ (List.range 251).map (fun n : Nat => (n : Int) - 100), smB 0 10 (.int j) = true := by decide +kernel
  have m : i ∈ (List.range 251).map (fun n : Nat => (n : Int) - 100) := List.mem_map.mpr ⟨(i + 100).toNat, List.mem_range.mpr (by omega), by omega⟩
  exact Sm.mono (k := 0) (all i m) (Nat.zero_le _) (Nat.le_refl _)
theorem Sm.bool {b : Bool} {k n : Nat} : Sm k n (.bool b) := .of rfl (Nat.zero_le _) rfl (Nat.zero_le _)
theorem Sm.none {k n : Nat} : Sm k n .none := .of rfl (Nat.zero_le _) rfl (Nat.zero_le _)
end TS

/-! ### 12. walks over lists or tuples; comprehensions whose turns only add to the heap -/
namespace TS
open PySem PySem.Spec PyProof.Rows L2
theorem yes {σ : L2.St} {H : Hp} {C : Bool → Hp → Prop} (h : C true H) : tYes σ H C := h
/-- a list or a tuple -/
def Sq (K : PySem.W.Frag) (H : Hp) (a : Addr) (xs : List V) : Prop := SqL K H a xs ∨ SqT K H a xs
theorem Sq.same {K : PySem.W.Frag} {H H' : Hp} {a : Addr} {xs : List V} (e : Same H H') (h : Sq K H a xs) : Sq K H' a xs := h.imp (fun q => e.seq q) (fun q => SqT.same e q)
theorem Sq.len {K : PySem.W.Frag} {H : Hp} {a : Addr} {xs : List V} (h : Sq K H a xs) : LenV K (.ref a) H xs.length := h.imp (fun q => ⟨xs, q, rfl⟩) (fun q => ⟨xs, q, rfl⟩)
theorem seq_it {K : PySem.W.Frag} {H : Hp} {a : Addr} {xs : List V} {i : Nat} {σ : L2.St} {R : It → Hp → Prop} (hv : σ[i]? = some (some (.ref a))) (h : Sq K H a xs)
    (k : ∀ (J : It) (G : Hp → Prop), Walk J xs.length G (YAt xs) → (∀ H', Same H H' → G H') → R J H) : iList K (tVar i) σ H R ∨ iTup K (tVar i) σ H R := by
  rcases h with h | h
  · exact .inl ⟨_, hv, a, rfl, ⟨xs, h⟩, k _ _ walk_list fun _ e => e.seq h⟩
  · exact .inr ⟨_, hv, a, rfl, ⟨xs, h⟩, k _ _ walk_tup fun _ e => SqT.same e h⟩
theorem seq_it0 {K : PySem.W.Frag} {H0 H : Hp} {a : Addr} {xs : List V} {i : Nat} {σ : L2.St} {R : It → Hp → Prop} (hv : σ[i]? = some (some (.ref a))) (h : Sq K H0 a xs) (s : Same H0 H)
    (k : ∀ (J : It) (G : Hp → Prop), Walk J xs.length G (YAt xs) → (∀ H', Same H0 H' → G H') → R J H) : iList K (tVar i) σ H R ∨ iTup K (tVar i) σ H R := by
  rcases h with h | h
  · exact .inl ⟨_, hv, a, rfl, ⟨xs, s.seq h⟩, k _ _ walk_list fun _ e => e.seq h⟩
  · exact .inr ⟨_, hv, a, rfl, ⟨xs, SqT.same s h⟩, k _ _ walk_tup fun _ e => SqT.same e h⟩
section
variable {J : It} {n : Nat} {G : Hp → Prop} {Y : Nat → Hp → V → Hp → Prop}
theorem scK_it {P : Program} {w : World} (wk : Walk J n G Y) {g : TG} {tt : TT} {te : TE} {vs : List Nat} {σ : L2.St} {H1 : Hp} {D : Addr} {Qd : Hp → Prop} (Pv : Nat → Hp → Prop) (h0 : Pv 0 (upd H1 D (SetK P w D (fun _ => false) 0))) (hG : ∀ i H, i ≤ n → Pv i H → G H)
    (hs : ∀ i x H H', i < n → Pv i H → Y i H x H' → g x (wipe σ vs) H' fun σ2 H2 => wipe σ2 vs = wipe σ vs ∧ tt σ2 H2 fun b H3 =>
      if b = true then te σ2 H3 fun y H4 => ∃ (k : Key) (S : Key → Bool) (m : Nat), y = kV k ∧ H4 D = some (SetK P w D S m) ∧ m + 1 < scanBound ∧ Pv (i + 1) (upd H4 D (SetK P w D (fun j => S j || decide (j = k)) (if S k = true then m else m + 1))) else Pv (i + 1) H3) (hd : ∀ H, Pv n H → Qd H) :
    ∃ W : Nat → Nat → Hp → Prop, (∃ m, W 0 m (upd H1 D (SetK P w D (fun _ => false) 0))) ∧ ∀ i m H, W i m H →
      (J.stop i H ∧ Qd H) ∨ (J.go i H ∧ ∃ Nx : Hp → Prop, (∀ H', Nx H' → ∃ m', m' < m ∧ W (i + 1) m' H') ∧ ∀ x H', J.yld i H x H' → g x (wipe σ vs) H' fun σ2 H2 => wipe σ2 vs = wipe σ vs ∧ tt σ2 H2 fun b H3 =>
        if b = true then te σ2 H3 fun y H4 => ∃ (k : Key) (S : Key → Bool) (m : Nat), y = kV k ∧ H4 D = some (SetK P w D S m) ∧ m + 1 < scanBound ∧ Nx (upd H4 D (SetK P w D (fun j => S j || decide (j = k)) (if S k = true then m else m + 1))) else Nx H3) := by
  refine ⟨fun i m H => m = n - i ∧ i ≤ n ∧ Pv i H, ⟨n, by simp, Nat.zero_le _, h0⟩, ?_⟩
  rintro i m H ⟨rfl, hi, p⟩
  have q := hG i H hi p
  rcases Nat.lt_or_ge i n with hlt | hge
  · exact .inr ⟨wk.goes i H hlt q, Pv (i + 1), fun G' p' => ⟨n - (i + 1), by omega, rfl, hlt, p'⟩, fun x G' y => hs i x H G' hlt p (wk.yields i H x G' hlt q y)⟩
  · obtain rfl : i = n := by omega
    exact .inl ⟨wk.stops H q, hd H p⟩
theorem dc_it (wk : Walk J n G Y) {g : TG} {tt : TT} {tk tv : TE} {vs : List Nat} {σ : L2.St} {H1 : Hp} {D : Addr} {Qd : Hp → Prop} (Pv : Nat → Hp → Prop) (h0 : Pv 0 (upd H1 D (.dK []))) (hG : ∀ i H, i ≤ n → Pv i H → G H)
    (hs : ∀ i x H H', i < n → Pv i H → Y i H x H' → g x (wipe σ vs) H' fun σ2 H2 => wipe σ2 vs = wipe σ vs ∧ tt σ2 H2 fun b H3 =>
      if b = true then tk σ2 H3 fun y H4 => tv σ2 H4 fun z H5 => ∃ kvs k, y = kV k ∧ H5 D = some (.dK kvs) ∧ kvs.length < sizeLine ∧ Pv (i + 1) (upd H5 D (.dK (putK kvs k z))) else Pv (i + 1) H3) (hd : ∀ H, Pv n H → Qd H) :
    ∃ W : Nat → Nat → Hp → Prop, (∃ m, W 0 m (upd H1 D (.dK []))) ∧ ∀ i m H, W i m H →
      (J.stop i H ∧ Qd H) ∨ (J.go i H ∧ ∃ Nx : Hp → Prop, (∀ H', Nx H' → ∃ m', m' < m ∧ W (i + 1) m' H') ∧ ∀ x H', J.yld i H x H' → g x (wipe σ vs) H' fun σ2 H2 => wipe σ2 vs = wipe σ vs ∧ tt σ2 H2 fun b H3 =>
        if b = true then tk σ2 H3 fun y H4 => tv σ2 H4 fun z H5 => ∃ kvs k, y = kV k ∧ H5 D = some (.dK kvs) ∧ kvs.length < sizeLine ∧ Nx (upd H5 D (.dK (putK kvs k z))) else Nx H3) := by
  refine ⟨fun i m H => m = n - i ∧ i ≤ n ∧ Pv i H, ⟨n, by simp, Nat.zero_le _, h0⟩, ?_⟩
  rintro i m H ⟨rfl, hi, p⟩
  have q := hG i H hi p
  rcases Nat.lt_or_ge i n with hlt | hge
  · exact .inr ⟨wk.goes i H hlt q, Pv (i + 1), fun G' p' => ⟨n - (i + 1), by omega, rfl, hlt, p'⟩, fun x G' y => hs i x H G' hlt p (wk.yields i H x G' hlt q y)⟩
  · obtain rfl : i = n := by omega
    exact .inl ⟨wk.stops H q, hd H p⟩
end
/-- a list comprehension without tests, each turn adding to the heap alone: the i-th value is f i -/
theorem lc_same {J : It} {G : Hp → Prop} {xs : List V} (wk : Walk J xs.length G (YAt xs)) {H H1 : Hp} {te : TE} {vs : List Nat} {j : Nat} {σ : L2.St} {D : Addr} {Qd : Hp → Prop} (hG : ∀ H', Same H H' → G H') (hl : xs.length ≤ 100000) (s1 : Same H H1) (hD : H1 D = none) (f : Nat → V)
    (hw : ∀ x, wipe ((wipe σ vs).set j (some x)) vs = wipe σ vs)
    (step : ∀ i x H2 (C : VK), xs[i]? = some x → Same H H2 → (∀ H4, Same H2 H4 → C (f i) H4) → te ((wipe σ vs).set j (some x)) H2 C)
    (fin : ∀ H2, Same H1 H2 → H2 D = some (.lst ((List.range xs.length).map f)) → Qd H2) :
    ∃ W : Nat → Nat → Hp → Prop, (∃ m, W 0 m (upd H1 D (.lst []))) ∧ ∀ i m H, W i m H →
      (J.stop i H ∧ Qd H) ∨ (J.go i H ∧ ∃ Nx : Hp → Prop, (∀ H', Nx H' → ∃ m', m' < m ∧ W (i + 1) m' H') ∧ ∀ x H', J.yld i H x H' → gName j x (wipe σ vs) H' fun σ2 H2 => wipe σ2 vs = wipe σ vs ∧ tYes σ2 H2 fun b H3 =>
        if b = true then te σ2 H3 fun y H4 => ∃ acc, H4 D = some (.lst acc) ∧ acc.length < sizeLine ∧ Nx (upd H4 D (.lst (acc ++ [y]))) else Nx H3) := by
  refine lc_it wk (fun i G' => Same H1 G' ∧ G' D = some (.lst ((List.range i).map f))) ⟨Same.new (Same.refl _) hD, upd_same ..⟩ (fun i G' _ p => hG G' (s1.trans p.1)) ?_ (fun G' p => fin G' p.1 p.2)
  rintro i x H2 H3 hi ⟨p1, p2⟩ ⟨rfl, hx⟩
  refine ⟨hw x, ?_⟩
  unfold tYes
  dsimp only
  rw [if_pos rfl]
  refine step i x _ _ hx (s1.trans p1) fun H4 s4 => ⟨_, s4 _ _ p2, ?_, ?_, ?_⟩
  · rw [List.length_map, List.length_range]
    exact Nat.lt_of_lt_of_le hi (Nat.le_trans hl (by decide))
  · intro a o e
    rw [upd_ne (ne_of_none e hD)]
    exact s4 _ _ (p1 _ _ e)
  · rw [upd_same, List.range_succ, List.map_append]
    rfl
theorem pg_tupK {X : Cx} {K : PySem.W.Frag} {es : List Expr} {k : Nat} {t : TGs} {n : Nat} {pos : Pos} (hK : X.K = K) (hc : X.calm = true) (h : PGs X es t)
    (hn : (assignEach es X.env).length = n := by rfl) (hst : (assignEach es X.env).findIdx? (·.1) = none := by rfl) : PG X (.Tuple es k pos) (gTup K n t) := by subst hK; exact pg_tup hc h hn hst
/-- enumerate over a list or a tuple -/
theorem enum_it {K : PySem.W.Frag} {H : Hp} {a : Addr} {xs : List V} {i : Nat} {σ : L2.St} {R : It → Hp → Prop} (hv : σ[i]? = some (some (.ref a))) (h : Sq K H a xs)
    (k : ∀ (J : It) (G : Hp → Prop), Walk J xs.length G (YPair (fun i => some (.int (i : Nat))) (fun i => xs[i]?)) → (∀ H', Same H H' → G H') → R J H) : iEnum K (tCons (tVar i) tNil) σ H R ∨ iEnumT K (tCons (tVar i) tNil) σ H R := by
  rcases h with h | h
  · exact .inl ⟨_, hv, a, xs, rfl, h, k _ _ walk_enum fun _ e => e.seq h⟩
  · exact .inr ⟨_, hv, a, xs, rfl, h, k _ _ walk_enumT fun _ e => SqT.same e h⟩
end TS

/-! ### 13. draws: what a def of a bag gives back; comprehensions and loops that draw -/
namespace TS
open PySem PySem.Spec PyProof.Rows L2
theorem atI_in {α : Type} {xs : List α} {i : Int} (h0 : 0 ≤ i) (h1 : i < xs.length) : ∃ v, atI xs i = some v ∧ v ∈ xs := by
  have hj : i.toNat < xs.length := by omega
  refine ⟨xs[i.toNat], ?_, List.getElem_mem _⟩
  have e : ((i.toNat : Nat) : Int) = i := by omega
  have h := atI_nat (xs := xs) (List.getElem?_eq_getElem hj)
  rw [e] at h
  exact h
/-- the bag b drawn of (n draws left at least), all else as it was -/
structure Dr (b : Addr) (n : Nat) (H H' : Hp) : Prop where
  fx : Fx b H H'
  bag : ∃ o, H' b = some o ∧ Bag n o
theorem Dr.trans {b : Addr} {m n : Nat} {H H1 H2 : Hp} (x : Dr b m H H1) (y : Dr b n H1 H2) : Dr b n H H2 := ⟨x.fx.trans y.fx, y.bag⟩
theorem Dr.refl {b : Addr} {n : Nat} {H : Hp} (h : ∃ o, H b = some o ∧ Bag n o) : Dr b n H H := ⟨Fx.refl b H, h⟩
theorem Dr.mono {b : Addr} {m n : Nat} {H H' : Hp} (x : Dr b m H H') (h : n ≤ m) : Dr b n H H' := ⟨x.fx, let ⟨o, e, g⟩ := x.bag; ⟨o, e, g.mono h⟩⟩
theorem Dr.same {b : Addr} {n : Nat} {H H' : Hp} (e : Same H H') (h : ∃ o, H b = some o ∧ Bag n o) : Dr b n H H' := ⟨Fx.of e, let ⟨o, q, g⟩ := h; ⟨o, e _ _ q, g⟩⟩
theorem Dr.draw {b : Addr} {n : Nat} {H : Hp} {o : HO} (g : Bag n o) : Dr b n H (upd H b o) := ⟨(Fx.refl b H).upd, o, upd_same .., g⟩
theorem Dr.new {b p : Addr} {n : Nat} {H H' : Hp} {o : HO} (x : Dr b n H H') (h : H' p = none) : Dr b n H (upd H' p o) := x.trans (.same (Same.new (Same.refl _) h) x.bag)
theorem Dr.ne {b p : Addr} {n : Nat} {H H' : Hp} (x : Dr b n H H') (h : H' p = none) : p ≠ b := fun e => by
  obtain ⟨o, q, _⟩ := x.bag
  rw [e, q] at h
  cases h
theorem Dr.at {b a : Addr} {n : Nat} {H H' : Hp} {o : HO} (x : Dr b n H H') (h : a ≠ b) (e : H a = some o) : H' a = some o := x.fx a o h e
theorem Dr.hide {b : Addr} {n : Nat} {H H' : Hp} (x : Dr b n H H') : Same (hide H b) (hide H' b) := x.fx.hide
theorem Dr.free {b p : Addr} {n : Nat} {H H' : Hp} (x : Dr b n H H') (h : H' p = none) : H p = none := by
  cases e : H p with
  | none => rfl
  | some o =>
    have := x.fx p o (x.ne h) e
    rw [h] at this
    cases this
/-- a draw, by spTake -/
theorem take_of {b : Addr} {n : Nat} {H : Hp} {many : Int} {Q : VK} {E : XK} (h : ∃ o, H b = some o ∧ Bag (n + 1) o) (m0 : 0 < many) (m1 : many < 2 ^ 200) (q : ∀ (d : Int) (H' : Hp), 0 ≤ d → d < many → Dr b n H H' → Q (.int d) H') : spTake [.ref b, .int many] H Q E := by
  obtain ⟨o, e, g⟩ := h
  exact ⟨b, o, n, many, rfl, e, g, m0, m1, fun d o' h0 h1 g' => q d _ h0 h1 (.draw g')⟩
/-- the heap without the bag and the list that is being made -/
abbrev hide2 (H : Hp) (b D : Addr) : Hp := hide (hide H b) D
theorem hide2_at {H : Hp} {b D p : Addr} {o : HO} (h1 : p ≠ b) (h2 : p ≠ D) (e : H p = some o) : hide2 H b D p = some o := by show hide (hide H b) D p = some o; rw [hide_ne h2, hide_ne h1]; exact e
theorem hide2_fx {H H' : Hp} {b D : Addr} (h : ∀ a o, a ≠ b → a ≠ D → H a = some o → H' a = some o) : Same (hide2 H b D) (hide2 H' b D) := fun a o e => by
  show hide (hide H' b) D a = some o
  replace e : hide (hide H b) D a = some o := e
  have h2 : a ≠ D := fun z => by rw [z, hide_self] at e; cases e
  rw [hide_ne h2] at e ⊢
  have h1 : a ≠ b := fun z => by rw [z, hide_self] at e; cases e
  rw [hide_ne h1] at e ⊢
  exact h a o h1 h2 e
/-- a comprehension without tests, each turn drawing at most k times -/
theorem lc_draw {J : It} {m : Nat} {G : Hp → Prop} {f : Nat → V} (wk : Walk J m G (YFn f)) {b : Addr} {k N : Nat} {H1 : Hp} {te : TE} {vs : List Nat} {j : Nat} {σ : L2.St} {D : Addr} {Qd : Hp → Prop} (F : Nat → Hp → V → Prop)
    (hF : ∀ i H H' v, Same H H' → F i H v → F i H' v) (hG : ∀ H', Fx b H1 H' → G H') (hm : m ≤ 100000) (hD : H1 D = none) (hb : ∃ o, H1 b = some o ∧ Bag (N + k * m) o) (hw : ∀ x, wipe ((wipe σ vs).set j (some x)) vs = wipe σ vs)
    (step : ∀ (i n : Nat) (H2 : Hp) (C : VK), i < m → Fx b H1 H2 → (∃ o, H2 b = some o ∧ Bag (n + k) o) → (∃ o, H2 D = some o) → (∀ v H4, F i (hide2 H4 b D) v → Dr b n H2 H4 → C v H4) → te ((wipe σ vs).set j (some (f i))) H2 C)
    (fin : ∀ H2 (xs : List V), Dr b N H1 H2 → xs.length = m → (∀ (i : Nat) (v : V), xs[i]? = some v → F i (hide2 H2 b D) v) → H2 D = some (.lst xs) → D ≠ b → Qd H2) :
    ∃ W : Nat → Nat → Hp → Prop, (∃ m, W 0 m (upd H1 D (.lst []))) ∧ ∀ i m H, W i m H →
      (J.stop i H ∧ Qd H) ∨ (J.go i H ∧ ∃ Nx : Hp → Prop, (∀ H', Nx H' → ∃ m', m' < m ∧ W (i + 1) m' H') ∧ ∀ x H', J.yld i H x H' → gName j x (wipe σ vs) H' fun σ2 H2 => wipe σ2 vs = wipe σ vs ∧ tYes σ2 H2 fun b H3 =>
        if b = true then te σ2 H3 fun y H4 => ∃ acc, H4 D = some (.lst acc) ∧ acc.length < sizeLine ∧ Nx (upd H4 D (.lst (acc ++ [y]))) else Nx H3) := by
  have neD : D ≠ b := fun e => by
    obtain ⟨o, q, _⟩ := hb
    rw [e, q] at hD
    cases hD
  refine lc_it wk (fun i G' => Dr b (N + k * (m - i)) H1 G' ∧ ∃ xs : List V, xs.length = i ∧ (∀ (i : Nat) (v : V), xs[i]? = some v → F i (hide2 G' b D) v) ∧ G' D = some (.lst xs)) ⟨.same (Same.new (Same.refl _) hD) hb, [], rfl, fun i v e => by simp at e, upd_same ..⟩ (fun i G' _ p => hG G' p.1.fx) ?_ ?_
  · rintro i x H2 H3 hi ⟨dr, xs, hl, hx, eD⟩ ⟨rfl, rfl⟩
    refine ⟨hw _, yes (iteT ?_)⟩
    have ek : N + k * (m - (i + 1)) + k = N + k * (m - i) := by
      have : m - i = m - (i + 1) + 1 := by omega
      rw [this, Nat.mul_add, Nat.mul_one, Nat.add_assoc]
    refine step i (N + k * (m - (i + 1))) _ _ hi dr.fx (by rw [ek]; exact dr.bag) ⟨_, eD⟩ fun v H4 hv d4 => ⟨xs, d4.at neD eD, by rw [hl]; exact Nat.lt_of_lt_of_le hi (Nat.le_trans hm (by decide)), ⟨fun a o ha e => ?_, ?_⟩, xs ++ [v], by simp [hl], fun i2 v2 e2 => ?_, upd_same ..⟩
    · rw [upd_ne (ne_of_none e hD)]
      exact (dr.trans d4).fx a o ha e
    · obtain ⟨o, q, g⟩ := d4.bag
      exact ⟨o, by rw [upd_ne neD.symm]; exact q, g⟩
    · have s5 : Same (hide2 H4 b D) (hide2 (upd H4 D (.lst (xs ++ [v]))) b D) := hide2_fx fun a o _ h e => by rw [upd_ne h]; exact e
      rcases Nat.lt_or_ge i2 i with z | z
      · rw [List.getElem?_append_left (by omega)] at e2
        exact hF _ _ _ _ ((hide2_fx fun a o h _ e => d4.fx a o h e).trans s5) (hx i2 v2 e2)
      · rw [List.getElem?_append_right (by omega)] at e2
        have e3 : i2 = i := by
          rcases Nat.lt_or_ge i i2 with y | y
          · rw [List.getElem?_eq_none (by simp; omega)] at e2
            cases e2
          · omega
        rw [e3, hl, Nat.sub_self] at e2
        cases e2
        rw [e3]
        exact hF _ _ _ _ s5 hv
  · rintro G' ⟨dr, xs, hl, hx, eD⟩
    exact fin G' xs (by rw [Nat.sub_self] at dr; exact dr) hl hx eD neD
/-- a comprehension without tests that only adds to the heap, by any walk -/
theorem lc_sameF {J : It} {n : Nat} {G : Hp → Prop} {g : Nat → V} (wk : Walk J n G (YFn g)) {H : Hp} {te : TE} {vs : List Nat} {j : Nat} {σ : L2.St} {D : Addr} {Qd : Hp → Prop} (hG : ∀ H', Same H H' → G H') (hl : n ≤ 100000) (hD : H D = none) (f : Nat → V)
    (hw : ∀ x, wipe ((wipe σ vs).set j (some x)) vs = wipe σ vs)
    (step : ∀ i H2 (C : VK), i < n → Same H H2 → (∀ H4, Same H2 H4 → C (f i) H4) → te ((wipe σ vs).set j (some (g i))) H2 C)
    (fin : ∀ H2, Same H H2 → H2 D = some (.lst ((List.range n).map f)) → Qd H2) :
    ∃ W : Nat → Nat → Hp → Prop, (∃ m, W 0 m (upd H D (.lst []))) ∧ ∀ i m H, W i m H →
      (J.stop i H ∧ Qd H) ∨ (J.go i H ∧ ∃ Nx : Hp → Prop, (∀ H', Nx H' → ∃ m', m' < m ∧ W (i + 1) m' H') ∧ ∀ x H', J.yld i H x H' → gName j x (wipe σ vs) H' fun σ2 H2 => wipe σ2 vs = wipe σ vs ∧ tYes σ2 H2 fun b H3 =>
        if b = true then te σ2 H3 fun y H4 => ∃ acc, H4 D = some (.lst acc) ∧ acc.length < sizeLine ∧ Nx (upd H4 D (.lst (acc ++ [y]))) else Nx H3) := by
  refine lc_it wk (fun i G' => Same H G' ∧ G' D = some (.lst ((List.range i).map f))) ⟨Same.new (Same.refl _) hD, upd_same ..⟩ (fun i G' _ p => hG G' p.1) ?_ (fun G' p => fin G' p.1 p.2)
  rintro i x H2 H3 hi ⟨p1, p2⟩ ⟨rfl, rfl⟩
  refine ⟨hw _, yes (iteT (step i _ _ hi p1 fun H4 s4 => ⟨_, s4 _ _ p2, ?_, ?_, ?_⟩))⟩
  · rw [List.length_map, List.length_range]
    exact Nat.lt_of_lt_of_le hi (Nat.le_trans hl (by decide))
  · intro a o e
    rw [upd_ne (ne_of_none e hD)]
    exact s4 _ _ (p1 _ _ e)
  · rw [upd_same, List.range_succ, List.map_append]
    rfl
theorem walk_at {J : It} {n : Nat} {G : Hp → Prop} {xs : List V} (w : Walk J n G (YAt xs)) : Walk J n G (YFn fun i => xs.getD i .non) :=
  w.mono (fun _ h => h) fun i H x H' _ _ y => ⟨y.1, by show x = xs.getD i .non; rw [List.getD_eq_getElem?_getD, y.2]; rfl⟩
theorem same_of {H G : Hp} {p : Addr} {o : HO} (h : L2.upd H p o = G) (hp : H p = none) : Same H G := h ▸ Same.new (Same.refl _) hp
theorem at_of {H G : Hp} {p : Addr} {o : HO} (h : L2.upd H p o = G) : G p = some o := h ▸ upd_same ..
theorem dr_of {H G : Hp} {b : Addr} {n : Nat} {o : HO} (h : L2.upd H b o = G) (g : Bag n o) : Dr b n H G := h ▸ Dr.draw g
/-- list == [] -/
def rEqNil (K : PySem.W.Frag) : R2 := fun x y H Q => ∃ a p xs, x = .ref a ∧ y = .ref p ∧ SqL K H a xs ∧ SqL K H p [] ∧ Q (.bl xs.isEmpty) H
theorem op_eqNil {X : Cx} {K : PySem.W.Frag} (hu : X.A.units + 64 < cLine) (hK : X.K = K := by rfl) : OpR X (compareOp .Eq) (rEqNil K) := by
  subst hK
  intro pins s σ H x y v u Q J rx ry h
  obtain ⟨a, p, xs, rfl, rfl, ha, hp, q⟩ := h
  cases rx
  cases ry
  obtain ⟨its, rv, l1, _⟩ := J.list ha
  obtain ⟨its2, rv2, l2, _⟩ := J.list hp
  cases rv2
  have hl := rv.length
  cases xs with
  | nil =>
    cases rv
    exact SeqAt.eq_listAt (e := fun _ => true) l1.isList l2.isList rfl (by omega) (fun i h => by simp at h) ⟨.bl true, H, J.kept fun _ _ z => z, rfl, q⟩
  | cons x r =>
    exact SeqAt.eq_list_lengthsAt l1.isList l2.isList (by simp; intro z; rw [z] at hl; simp at hl) (by omega) ⟨.bl false, H, J.kept fun _ _ z => z, rfl, q⟩
end TS

/-! ### what the head tells of classes -/
namespace TS
open PySem PySem.Spec PyProof.Rows L2
/-- a method's datum -/
def methD (C m q : Str) (st : Stmt) : He.DefD := ⟨(C, some m), m, q, defArgs st, defBody st, defScope st, [], []⟩
theorem meth_of {K : PySem.W.Frag} {fn : List He.DefD} (c1 : fn.all (fun d => d.ok K) = true) (c2 : fn.map (fun d => He.fnW K d.at_) = fn.map He.DefD.val)
    {C m q : Str} {st : Stmt} (i : Nat) (hi : fn[i]? = some (methD C m q st)) : DefM K (He.ma K (He.ga K C) m) m q st := by
  have e1 : He.fnW K (methD C m q st).at_ = (methD C m q st).val := by
    have h1 := congrArg (·[i]?) c2
    simp only [List.getElem?_map, hi, Option.map_some] at h1
    exact Option.some.inj h1
  obtain ⟨fd, F⟩ := He.DefD.funD e1 (List.all_eq_true.mp c1 _ (List.mem_of_getElem? hi))
  exact ⟨fd, F⟩
def famB (K : PySem.W.Frag) (x : Str) : Bool := (PySem.W.readsIn K (He.ga K x) (.type "type") && He.eqO (PySem.W.specialIn K (.ref (He.ga K x)) "__getattribute__") (some (some (.builtin "type.__getattribute__")))) &&
  (match PySem.W.findCls K (.ref (He.ga K x)) (.type "type") "__init__" with
    | some (.val (.builtin s)) => decide (s = "ValueError.__init__")
    | _ => false)
theorem famB_ok {K : PySem.W.Frag} {x : Str} (h : famB K x = true) : FamV K (He.ga K x) := by
  obtain ⟨h1, h2⟩ := He.ba h
  obtain ⟨h3, h4⟩ := He.ba h1
  refine ⟨⟨h3, He.eqO_ok h4⟩, ?_⟩
  split at h2
  · rename_i s e
    rw [e, of_decide_eq_true h2]
  · cases h2
def oexB (K : PySem.W.Frag) (C : Addr) : Bool := match K.lookup C with
  | some ⟨c, dd, .cls cd, sl⟩ => (match cd.mro, sl.toList with
    | .ref C' :: bm, [k0, k1, k2, k3, some (.builtin n), k5] => decide (c = .type "type") && (decide (C' = C) && (decide (n = "ValueError.__new__") && (cd.hasDict && (!cd.hasDel && PySem.HandSPX.refsVE bm))))
    | _, _ => false)
  | _ => false
theorem oexB_ok {K : PySem.W.Frag} {C : Addr} (h : oexB K C = true) : ∃ nm q N bs bm sn sub ab col dd k0 k1 k2 k3 k5, K.lookup C = some (excClassObj nm q C N bs bm true sn sub ab col dd k0 k1 k2 k3 k5 "ValueError.__new__") ∧ PySem.HandSPX.refsVE bm = true := by
  unfold oexB at h
  split at h
  · rename_i c dd cd sl ho
    split at h
    · rename_i C' bm k0 k1 k2 k3 n k5 hm hs
      obtain ⟨a1, h⟩ := He.ba h
      obtain ⟨a2, h⟩ := He.ba h
      obtain ⟨a3, h⟩ := He.ba h
      obtain ⟨a4, h⟩ := He.ba h
      obtain ⟨a5, a6⟩ := He.ba h
      have a1 := of_decide_eq_true a1
      have a2 := of_decide_eq_true a2
      have a3 := of_decide_eq_true a3
      obtain ⟨nm, bs, mro, ns, qn, hd, sn, sb, ab, col, del⟩ := cd
      dsimp only at hm a4 a5
      have a5 : del = false := by simpa using a5
      subst a1 a2 a3 hm a4 a5
      have hsl : sl = #[k0, k1, k2, k3, some (.builtin "ValueError.__new__"), k5] := by
        obtain ⟨l⟩ := sl
        simp only at hs
        rw [hs]
      subst hsl
      exact ⟨nm, qn, ns, bs, bm, sn, sb, ab, col, dd, k0, k1, k2, k3, k5, ho, a6⟩
    · cases h
  · cases h
def ownB (K : PySem.W.Frag) (x f : Str) : Bool := (oexB K (He.ga K x) && (He.eqO (PySem.W.findIn K (.ref (He.ga K x)) "__setattr__") (some (some (.builtin "object.__setattr__"))) && (decide (PySem.W.subIn K (.ref (He.ga K x)) (.type "BaseException") = some true) &&
  (decide (PySem.W.typeIn K (.ref (He.ga K x)) = some (.type "type")) && PySem.W.keepIn K (.ref (He.ga K x)))))) && ((xfB K (He.ga K x) && He.eqO (PySem.W.findIn K (.ref (He.ga K x)) "__init__") (some (some (.ref (He.ma K (He.ga K x) "__init__"))))) &&
  (decide (PySem.W.typeIn K (.ref (He.ma K (He.ga K x) "__init__")) = some (.type "function")) && He.eqO (PySem.W.findIn K (.ref (He.ga K x)) f) (some none)))
theorem ownB_ok {K : PySem.W.Frag} {x f : Str} (h : ownB K x f = true) : OwnV K (He.ga K x) f := by
  obtain ⟨h1, h⟩ := He.ba h
  obtain ⟨a1, h1⟩ := He.ba h1
  obtain ⟨a2, h1⟩ := He.ba h1
  obtain ⟨a3, h1⟩ := He.ba h1
  obtain ⟨a4, a5⟩ := He.ba h1
  obtain ⟨h2, h⟩ := He.ba h
  obtain ⟨b1, b2⟩ := He.ba h2
  obtain ⟨b3, b4⟩ := He.ba h
  exact ⟨⟨oexB_ok a1, He.eqO_ok a2, of_decide_eq_true a3, of_decide_eq_true a4, a5⟩, xfB_ok b1, He.eqO_ok b2, of_decide_eq_true b3, He.eqO_ok b4⟩
end TS

/-! ### 14. keyword-only parameters with defaults, no other defaults -/
namespace TS
open PySem PySem.Spec PyProof.Rows L2
def DefK (K : PySem.W.Frag) (mg : Str → Option Value) (x : Str) (st : Stmt) (kws : List (Str × V)) : Prop := ∃ f fd, FunD K x x (defArgs st) (defBody st) (defScope st) [] kws f fd ∧ mg x = some (.ref f)
/-- a call with n positional values and the keywords ks keeps sp, the lacking ones being ms -/
def PromK (P : Program) (w : World) (K : PySem.W.Frag) (mg : Str → Option Value) (base : Heap) (k : Nat) (x : Str) (ps : List Str) (sp : Sp) (n : Nat) (ks : List Str) (gV : List V → List V → List V) : Prop :=
  ∃ f fd g, FnOk P w K mg base CX0 k f fd ps sp ∧ mg x = some (.ref f) ∧ PySem.W.keepIn K (.ref f) = true ∧ KBn K fd ps n ks g gV
theorem kbinds0 {K : PySem.W.Frag} {x qual : Str} {params : Arguments} {body : List Stmt} {scope : Scope} {kws : List (Str × V)} {f : Addr} {fd : FuncData} {ps : List Str} (F : FunD K x qual params body scope [] kws f fd) (n : Nat) (ks : List Str) (ms : List (Str × V))
    (g : {α : Type} → List α → List α → List α → List α) (hk : kws ≠ []) (hms : ∀ q ∈ ms, q ∈ kws) (hrel : ∀ {vs mz zs : List V} {us mv ws : List Value}, Vals vs us → Vals mz mv → Vals zs ws → Vals (g vs mz zs) (g us mv ws))
    (h : ∀ (D : Addr) (doc pm : Value) (an : Option Addr) (cdv ct : Value) (us mv ws : List Value), us.length = n → mv.length = ms.length → ws.length = ks.length →
      KwChain D ((ms.map (·.1)).zip mv) (bindArgs (PySem.W.fnOf x qual params body scope .none (.ref D) doc pm an cdv ct) ⟨us, ks.zip ws⟩) (ps.zip (g us mv ws))) :
    ∃ mv : List Value, KBn K fd ps n ks (fun us ws => g us mv ws) (fun vs zs => g vs (ms.map (·.2)) zs) := by
  obtain ⟨oc, od, dV, kV, doc, pm, an, cdv, ct, osl, rfl, lk, hcd, dd, kk⟩ := F.ex
  rcases dd with ⟨_, rfl⟩ | ⟨e, _⟩
  · rcases kk with e | ⟨D, rfl, hq⟩
    · exact absurd e hk
    · obtain ⟨mv, l, r, a⟩ := kwd_vals (ms := ms) fun q m => hq q (hms q m)
      exact ⟨mv, ⟨fun s us ws X l1 l2 => BindsTo.of_looks fun M => KwChain.looks X a (h D doc pm an cdv ct us mv ws l1 l l2), fun r1 r2 => hrel r1 r r2⟩⟩
  · exact absurd rfl e
section
variable {X : Cx} {k n : Nat} {ps ks : List Str} {sp : Sp} {x : Str} {p pos : Pos} {e : Expr} {es : List Expr} {kws : List Keyword} {t tk : TA} {gV : List V → List V → List V}
theorem pe_pcK (pr : PromK X.prog X.w X.K X.mg X.base k x ps sp n ks gV) (hr : Room k X.A) (hg : Gl X x) (ha : PA X (e :: es) t) (hkw : PK X kws tk) (hall : (backToKw pos (keywordEach kws X.env)).all (·.1.isSome) = true := by rfl)
    (hks : (backToKw pos (keywordEach kws X.env)).filterMap (·.1) = ks := by rfl) (hdb : (x == ("__debug__" : Str)) = false := by decide) (he : starEach (e :: es) X.env = (false, eval e X.env) :: starEach es X.env := by rfl)
    (hpl : ((backTo pos (starEach (e :: es) X.env)).any (·.1) || (backToKw pos (keywordEach kws X.env)).any (·.1.isNone)) = false := by rfl) :
    PE X (.Call (.Name x p) (e :: es) kws pos) (tCallN n ks.length sp gV E0 t tk) := by
  obtain ⟨f, fd, g, F, m, kp, b⟩ := pr
  exact pe_callN F hr hg m kp b pass0 ha hkw hall hks hdb he hpl
end
section
variable {P : Program} {w : World} {K : PySem.W.Frag} {mg : Str → Option Value} {base : Heap} {N ps ks : List Str} {k n : Nat} {sp : Sp} {x : Str} {st : Stmt} {kws ms : List (Str × V)}
theorem promK_mk (D : DefK K mg x st kws) (S : FnScope N ps (defScope st)) (len : ∀ vs H Q E, sp vs H Q E → vs.length = ps.length) (ms : List (Str × V)) (g : {α : Type} → List α → List α → List α → List α) (hk : kws ≠ []) (hms : ∀ q ∈ ms, q ∈ kws)
    (hrel : ∀ {vs mz zs : List V} {us mv ws : List Value}, Vals vs us → Vals mz mv → Vals zs ws → Vals (g vs mz zs) (g us mv ws))
    (h : ∀ (D : Addr) (doc pm : Value) (an : Option Addr) (cdv ct : Value) (us mv ws : List Value), us.length = n → mv.length = ms.length → ws.length = ks.length →
      KwChain D ((ms.map (·.1)).zip mv) (bindArgs (PySem.W.fnOf x x (defArgs st) (defBody st) (defScope st) .none (.ref D) doc pm an cdv ct) ⟨us, ks.zip ws⟩) (ps.zip (g us mv ws)))
    (body : ∀ (f : Addr) (cdv : Value) (A : Around) (outer : List Env) (s : Shared) (H : Hp) (vs : List V) (Q : VK) (E : XK), Room k (A.deeper (envOfC x (defScope st) s.heap.objs.size f cdv)) → sp vs H Q E →
      ∃ t, PSs (cxOf CX0 P w K mg base N x (defScope st) f cdv A outer s H E).nox (defBody st) t ∧ t { nx := fun _ H' => Q .non H', rt := Q } (start N vs) H) : PromK P w K mg base (k + 1) x ps sp n ks (fun vs zs => g vs (ms.map (·.2)) zs) := by
  obtain ⟨f, fd, F, m⟩ := D
  obtain ⟨mv, b⟩ := kbinds0 F n ks ms g hk hms hrel h
  refine ⟨f, fd, _, F.ok S len fun cdv A outer s H vs Q E hr h => ?_, m, F.kp, b⟩
  obtain ⟨t, h1, h2⟩ := body f cdv A outer s H vs Q E hr h
  exact ⟨t, h1.nox, h2⟩
end
/-- its datum -/
def defKD (x : Str) (st : Stmt) (kwd : List (Str × He.Dv)) : He.DefD := ⟨(x, none), x, x, defArgs st, defBody st, defScope st, [], kwd⟩
theorem defK_of {K : PySem.W.Frag} {h : Heap} {mg : Str → Option Value} {fn : List He.DefD} (X : K.In h) (G : h.Ns mainGlobals mg) (c1 : fn.all (fun d => d.ok K) = true) (c2 : fn.map (fun d => He.fnW K d.at_) = fn.map He.DefD.val)
    {x : Str} {st : Stmt} {kwd : List (Str × He.Dv)} (i : Nat) (hi : fn[i]? = some (defKD x st kwd)) (hg : (He.Fa.glo x).ok K = true) : DefK K mg x st (kwd.map fun q => (q.1, q.2.v K)) := by
  have e1 : He.fnW K (defKD x st kwd).at_ = (defKD x st kwd).val := by
    have h1 := congrArg (·[i]?) c2
    simp only [List.getElem?_map, hi, Option.map_some] at h1
    exact Option.some.inj h1
  obtain ⟨fd, F⟩ := He.DefD.funD e1 (List.all_eq_true.mp c1 _ (List.mem_of_getElem? hi))
  exact ⟨He.ga K x, fd, F, He.glo_ok X G hg⟩
end TS

/-! ### 15. C(e, .., k = v, ..) of an own class whose __init__ may raise -/
namespace TS
open PySem PySem.Spec PyProof.Rows L2
/-- a method with keyword-only parameters, called with n positional values (self among them) and the keywords ks -/
def PromAK (P : Program) (w : World) (K : PySem.W.Frag) (mg : Str → Option Value) (base : Heap) (k : Nat) (f : Addr) (ps : List Str) (sp : Sp) (n : Nat) (ks : List Str) (gV : List V → List V → List V) : Prop :=
  ∃ fd g, FnOk P w K mg base (L2.CX P w) k f fd ps sp ∧ KBn K fd ps n ks g gV
def tMakeSK (C : Addr) (n m : Nat) (sp : Sp) (gV : List V → List V → List V) (W : WX) (t tk : TA) : TE := fun σ H Q => t σ H fun vs H1 => tk σ H1 fun zs H2 => vs.length = n ∧ zs.length = m ∧ ∀ x dx, H2 x = none → H2 dx = none → dx ≠ x →
  sp (gV (.ref x :: vs) zs) (upd (upd H2 dx (.own x)) x (.ins C dx [])) (fun v H3 => v = .non ∧ Q (.ref x) H3) (WE W σ)
section
variable {X : Cx} {k n : Nat} {f C : Addr} {ps ks : List Str} {sp : Sp} {W : WX} {x : Str} {p pos : Pos} {e : Expr} {es : List Expr} {kws : List Keyword} {t tk : TA} {gV : List V → List V → List V}
theorem make_runSK {fd : FuncData} {g : List Value → List Value → List Value} {pins : List (Addr × Obj)} {σ : L2.St} {H : Hp} {s : Shared} {Q : VK} {us ws : List Value} {vs zs : List V} (M : Mk X.K C f) (F : FnOk X.prog X.w X.K X.mg X.base (L2.CX X.prog X.w) k f fd ps sp)
    (hr : Room (k + 1) X.A) (hb : KBn X.K fd ps (n + 1) ks g gV) (tkn : Takes X W) (J : Inv X pins σ H s) (r : Vals vs us) (rz : Vals zs ws) (l1 : vs.length = n) (l2 : zs.length = ks.length)
    (h : ∀ x dx, H x = none → H dx = none → dx ≠ x → sp (gV (.ref x :: vs) zs) (upd (upd H dx (.own x)) x (.ins C dx [])) (fun v H2 => v = .non ∧ Q (.ref x) H2) (WE W σ)) :
    wpAny (model X.prog X.w) X.A (call (.ref C) us (ks.zip ws)) (EP X pins σ Q) X.xe s := by
  have q := h (s.heap.objs.size + 1) s.heap.objs.size (J.hok.fresh (Nat.le_succ _)) (J.hok.fresh (Nat.le_refl _)) (Nat.ne_of_lt (Nat.lt_succ_self _))
  have J2 := Inv.made (C := C) J
  have r1 : Vals (V.ref (s.heap.objs.size + 1) :: vs) (Value.ref (s.heap.objs.size + 1) :: us) := .cons rfl r
  have n1 : (Value.ref (s.heap.objs.size + 1) :: us).length = n + 1 := by rw [List.length_cons, ← r.length, l1]
  refine wpAny_call (make_map (f := f) J.kIn M.makes M.init (beq_iff_eq.mp M.fn) (codeAny_mono (F.run _ X.stack _ _ ⟨Value.ref (s.heap.objs.size + 1) :: us, ks.zip ws⟩ (g (Value.ref (s.heap.objs.size + 1) :: us) ws) _ _ (WE W σ) (hr.make C us (ks.zip ws))
    (J2.env0.make C us (ks.zip ws)) (hb.to _ (Value.ref (s.heap.objs.size + 1) :: us) ws J2.kIn n1 (rz.length.symm.trans l2)) (hb.rel r1 rz) q) fun o t z => ?_))
  match o, z with
  | .error e, z => exact passAt tkn σ pins _ _ e t J2 z
  | .ok (.ret u), z =>
    obtain ⟨v, G, J3, rv, ev, q3⟩ := J2.after z
    subst ev
    exact ⟨rv, ⟨V.ref (s.heap.objs.size + 1), G, J3, rfl, q3⟩⟩
theorem pe_makeSK (M : Mk X.K C f) (pr : PromAK X.prog X.w X.K X.mg X.base k f ps sp (n + 1) ks gV) (tkn : Takes X W) (hr : Room (k + 1) X.A) (hg : Gl X x) (hm : X.mg x = some (.ref C)) (ha : PA X (e :: es) t) (hkw : PK X kws tk)
    (hall : (backToKw pos (keywordEach kws X.env)).all (·.1.isSome) = true := by rfl) (hks : (backToKw pos (keywordEach kws X.env)).filterMap (·.1) = ks := by rfl) (hdb : (x == ("__debug__" : Str)) = false := by decide)
    (he : starEach (e :: es) X.env = (false, eval e X.env) :: starEach es X.env := by rfl) (hpl : ((backTo pos (starEach (e :: es) X.env)).any (·.1) || (backToKw pos (keywordEach kws X.env)).any (·.1.isNone)) = false := by rfl) :
    PE X (.Call (.Name x p) (e :: es) kws pos) (tMakeSK C n ks.length sp gV W t tk) := by
  obtain ⟨fd, g, F, b⟩ := pr
  refine ⟨fun pins s σ H Q J h => wpAny_Call_Name_kw (ld_glob J hg hm ?_ hdb)⟩
  refine PySem.W.callWith_KW (h₀ := X.base) J.ok.mod.kin M.kp hall (thn (ha.run pos pins s σ H _ J h) fun us s1 ⟨vs, H1, J1, r, q⟩ => ?_) hpl he
  refine thn (hkw.run pos pins s1 σ H1 _ J1 q) fun ws s2 ⟨zs, H2, J2, rz, l1, l2, q2⟩ => ⟨J2.kIn, ?_⟩
  rw [hks]
  exact make_runSK M F hr b tkn J2 r rz l1 l2 q2
end
theorem units1 {k : Nat} {A : Around} (r : Room k A) : A.units + 1 < cLine := by
  have := r.units
  omega
/-! methods by their promises -/
section
variable {X : Cx} {k : Nat} {f C : Addr} {ps : List Str} {sp : Sp} {m : Str} {pos apos : Pos} {e o : Expr} {es : List Expr} {ta : TE} {t : TA}
theorem pe_pm {pl : Sem Bool} (c : Cls X.K C) (hm : Meth X.K C m f) (pr : PromA CX0 X.prog X.w X.K X.mg X.base k f ps sp) (hr : Room k X.A) (he : PE X o ta) (ha : PA X (e :: es) t)
    (hst : starEach (e :: es) X.env = (false, eval e X.env) :: starEach es X.env := by rfl) (hpl : (backTo pos (starEach es X.env)).any (·.1) = false := by rfl)
    (ht : eval (.Call (.Attribute o m apos) (e :: es) [] pos) X.env = (do
      let ov ← eval o X.env
      standAt apos.atName
      let (f, first) ← holding [ov] (getMethod ov m pl)
      callWith pos f first (backTo pos (starEach (e :: es) X.env)) (backToKw pos (keywordEach [] X.env))) := by rfl) : PE X (.Call (.Attribute o m apos) (e :: es) [] pos) (tMeth C m sp [] E0 ta t) := by
  obtain ⟨fd, F, b⟩ := pr
  exact pe_meth he c hm F hr b .nil pass0 ha hst hpl ht
theorem pe_pm0 {pl : Sem Bool} (c : Cls X.K C) (hm : Meth X.K C m f) (pr : PromA CX0 X.prog X.w X.K X.mg X.base k f ps sp) (hr : Room k X.A) (he : PE X o ta)
    (ht : eval (.Call (.Attribute o m apos) [] [] pos) X.env = (do
      let ov ← eval o X.env
      standAt apos.atName
      let (f, first) ← holding [ov] (getMethod ov m pl)
      callWith pos f first (backTo pos (starEach [] X.env)) (backToKw pos (keywordEach [] X.env))) := by rfl) : PE X (.Call (.Attribute o m apos) [] [] pos) (tMeth C m sp [] E0 ta tNil) := by
  obtain ⟨fd, F, b⟩ := pr
  exact pe_meth0 he c hm F hr b .nil pass0 ht
end
end TS

/-! ### 16. isinstance by an own class -/
namespace TS
open PySem PySem.Spec PyProof.Rows L2
structure IsC (K : PySem.W.Frag) (C : Addr) : Prop where
  cl : Cls K C
  ha : PySem.W.findIn K (.ref C) "__class__" = some (some (.builtin "object.__class__"))
  hn : PySem.W.specialIn K (.builtin "object.__class__") "__get__" = some (some (.builtin "getset_descriptor.__get__"))
  ht : PySem.W.takesIn K (.builtin "object.__class__") = some true
  hm : PySem.W.mroIn K C (.type "object") = some true
  yes : PySem.W.kitOne K (.ref C) (.ref C) = some true
  no : ∀ n ∈ kinds, PySem.W.kitOne K (.type n) (.ref C) = some false
def isCB (K : PySem.W.Frag) (C : Addr) : Bool := (He.eqO (PySem.W.findIn K (.ref C) "__class__") (some (some (.builtin "object.__class__"))) && (He.eqO (PySem.W.specialIn K (.builtin "object.__class__") "__get__") (some (some (.builtin "getset_descriptor.__get__"))) &&
  (decide (PySem.W.takesIn K (.builtin "object.__class__") = some true) && decide (PySem.W.mroIn K C (.type "object") = some true)))) && (decide (PySem.W.kitOne K (.ref C) (.ref C) = some true) && kinds.all fun n => decide (PySem.W.kitOne K (.type n) (.ref C) = some false))
theorem isCB_ok {K : PySem.W.Frag} {C : Addr} (c : Cls K C) (h : isCB K C = true) : IsC K C := by
  obtain ⟨h1, h2⟩ := He.ba h
  obtain ⟨a1, h1⟩ := He.ba h1
  obtain ⟨a2, h1⟩ := He.ba h1
  obtain ⟨a3, a4⟩ := He.ba h1
  obtain ⟨b1, b2⟩ := He.ba h2
  exact ⟨c, He.eqO_ok a1, He.eqO_ok a2, of_decide_eq_true a3, of_decide_eq_true a4, of_decide_eq_true b1, fun n m => of_decide_eq_true (List.all_eq_true.mp b2 n m)⟩
theorem IsC.ty {K : PySem.W.Frag} {C : Addr} (T : IsC K C) {H : Hp} {a dx : Addr} {fs : List (Str × V)} (e : H a = some (.ins C dx fs)) : TyX K H (.ref a) (.ref C) := .base (.ins e T.cl T.ha T.hn T.ht T.hm)
theorem IsC.data {K : PySem.W.Frag} {C : Addr} (T : IsC K C) (d : PyData) : PySem.W.kitOne K (.type (tyN d)) (.ref C) = some false := T.no _ (tyN_mem d)
end TS

/-! ### 17. terms as trees: signs in reading order, where parts end -/
namespace TS
open PySem
mutual
inductive Tm where
  | mk (s : Str) (ts : Fs)
inductive Fs where
  | nil
  | cons (t : Tm) (r : Fs)
end
def Fs.len : Fs → Nat
  | .nil => 0
  | .cons _ r => r.len + 1
mutual
def Tm.size : Tm → Nat
  | .mk _ ts => ts.size + 1
def Fs.size : Fs → Nat
  | .nil => 0
  | .cons t r => t.size + r.size
end
mutual
def Tm.flat : Tm → List Str
  | .mk s ts => s :: ts.flat
def Fs.flat : Fs → List Str
  | .nil => []
  | .cons t r => t.flat ++ r.flat
end
/-! each sign with its places -/
mutual
def Tm.wf (pl : Str → Option Nat) : Tm → Prop
  | .mk s ts => pl s = some ts.len ∧ ts.wf pl
def Fs.wf (pl : Str → Option Nat) : Fs → Prop
  | .nil => True
  | .cons t r => t.wf pl ∧ r.wf pl
end
/-! where each part ends, from the place o on -/
mutual
def Tm.ends (o : Nat) : Tm → List Nat
  | .mk s ts => (o + ts.size + 1) :: ts.ends (o + 1)
def Fs.ends (o : Nat) : Fs → List Nat
  | .nil => []
  | .cons t r => t.ends o ++ r.ends (o + t.size)
end
mutual
theorem Tm.flat_len : ∀ t : Tm, t.flat.length = t.size
  | .mk s ts => by
    unfold Tm.flat Tm.size
    rw [List.length_cons, Fs.flat_len ts]
theorem Fs.flat_len : ∀ r : Fs, r.flat.length = r.size
  | .nil => rfl
  | .cons t r => by
    unfold Fs.flat Fs.size
    rw [List.length_append, Tm.flat_len t, Fs.flat_len r]
end
mutual
theorem Tm.ends_len : ∀ (t : Tm) (o : Nat), (t.ends o).length = t.size
  | .mk s ts, o => by
    unfold Tm.ends Tm.size
    rw [List.length_cons, Fs.ends_len ts]
theorem Fs.ends_len : ∀ (r : Fs) (o : Nat), (r.ends o).length = r.size
  | .nil, _ => rfl
  | .cons t r, o => by
    unfold Fs.ends Fs.size
    rw [List.length_append, Tm.ends_len t, Fs.ends_len r]
end
theorem Tm.size_pos (t : Tm) : 0 < t.size := by
  cases t with
  | mk s ts => unfold Tm.size; omega
/-! how a list of signs is read: k parts lack -/
/-- what is lacking behind the signs; none: a sign that is none, or a sign behind the end -/
def lacks (pl : Str → Option Nat) : Nat → List Str → Option Nat
  | k, [] => some k
  | 0, _ :: _ => none
  | k + 1, z :: r => (pl z).bind fun p => lacks pl (k + p) r
def Fs.app : Fs → Fs → Fs
  | .nil, b => b
  | .cons t r, b => .cons t (r.app b)
theorem Fs.split : ∀ (r : Fs) (p k : Nat), r.len = k + p → ∃ a b : Fs, r = a.app b ∧ a.len = p ∧ b.len = k
  | r, 0, k, h => ⟨.nil, r, rfl, rfl, by simpa using h⟩
  | .nil, p + 1, k, h => by simp [Fs.len] at h
  | .cons t r, p + 1, k, h => by
    obtain ⟨a, b, e, ha, hb⟩ := Fs.split r p k (by simp only [Fs.len] at h; omega)
    exact ⟨.cons t a, b, by rw [e]; rfl, by simp only [Fs.len]; omega, hb⟩
theorem Fs.flat_app : ∀ a b : Fs, (a.app b).flat = a.flat ++ b.flat
  | .nil, b => rfl
  | .cons t r, b => by
    show t.flat ++ (r.app b).flat = (t.flat ++ r.flat) ++ b.flat
    rw [Fs.flat_app r b, List.append_assoc]
theorem Fs.wf_app {pl : Str → Option Nat} : ∀ {a b : Fs}, (a.app b).wf pl → a.wf pl ∧ b.wf pl
  | .nil, b, h => ⟨by simp [Fs.wf], h⟩
  | .cons t r, b, h => by
    have h' : t.wf pl ∧ (r.app b).wf pl := h
    obtain ⟨h1, h2⟩ := Fs.wf_app h'.2
    exact ⟨⟨h'.1, h1⟩, h2⟩
/-- signs that are read to their end are k trees -/
theorem parse {pl : Str → Option Nat} : ∀ (zs : List Str) (k : Nat), lacks pl k zs = some 0 → ∃ r : Fs, r.flat = zs ∧ r.wf pl ∧ r.len = k
  | [], k, h => by
    have e : k = 0 := by simpa [lacks] using h
    subst e
    exact ⟨.nil, rfl, by simp [Fs.wf], rfl⟩
  | z :: r, 0, h => by simp [lacks] at h
  | z :: r, k + 1, h => by
    cases hp : pl z with
    | none => simp [lacks, hp] at h
    | some p =>
      have h' : lacks pl (k + p) r = some 0 := by simpa [lacks, hp] using h
      obtain ⟨f, hf, hw, hl⟩ := parse r (k + p) h'
      obtain ⟨a, b, rfl, ha, hb⟩ := f.split p k hl
      obtain ⟨w1, w2⟩ := Fs.wf_app hw
      refine ⟨.cons (.mk z a) b, ?_, ⟨⟨by rw [ha]; exact hp, w1⟩, w2⟩, by simp only [Fs.len]; omega⟩
      show (z :: a.flat) ++ b.flat = z :: r
      rw [← hf, Fs.flat_app]
      rfl
/-! jumps from part to part -/
def jump (E : List Nat) : Nat → Nat → Option Nat
  | 0, s => some s
  | n + 1, s => (E[s]?).bind (jump E n)
theorem Tm.ends_head (t : Tm) (o : Nat) : (t.ends o)[0]? = some (o + t.size) := by
  cases t with
  | mk s ts =>
    unfold Tm.ends Tm.size
    rw [List.getElem?_cons_zero, Nat.add_assoc]
theorem Fs.jumps : ∀ (r : Fs) (o : Nat) (E : List Nat), (∀ i, i < r.size → E[o + i]? = (r.ends o)[i]?) → jump E r.len o = some (o + r.size)
  | .nil, o, E, _ => by simp [Fs.len, Fs.size, jump]
  | .cons t r, o, E, h => by
    have tp := t.size_pos
    have h0 : E[o]? = some (o + t.size) := by
      have := h 0 (by unfold Fs.size; omega)
      rw [Nat.add_zero] at this
      rw [this]
      show (t.ends o ++ r.ends (o + t.size))[0]? = _
      rw [List.getElem?_append_left (by rw [Tm.ends_len]; exact tp), Tm.ends_head]
    show (E[o]?).bind (jump E r.len) = _
    rw [h0]
    show jump E r.len (o + t.size) = _
    rw [Fs.jumps r (o + t.size) E fun i hi => ?_]
    · show _ = some (o + (t.size + r.size))
      rw [Nat.add_assoc]
    · have := h (t.size + i) (by unfold Fs.size; omega)
      rw [← Nat.add_assoc] at this
      rw [this]
      show (t.ends o ++ r.ends (o + t.size))[t.size + i]? = _
      rw [List.getElem?_append_right (by rw [Tm.ends_len]; omega), Tm.ends_len, Nat.add_sub_cancel_left]
/-- what stands at a place: its sign, its parts behind it, where it ends -/
structure NodeAt (pl : Str → Option Nat) (flat : List Str) (ends : List Nat) (o i : Nat) (s : Str) (ts : Fs) : Prop where
  sign : flat[i]? = some s
  wf : ts.wf pl
  many : pl s = some ts.len
  stop : ends[i]? = some (o + i + 1 + ts.size)
  in_ : i + ts.size < flat.length
  kids : ∀ j, j < ts.size → ends[i + 1 + j]? = (ts.ends (o + i + 1))[j]?
mutual
theorem Tm.node {pl : Str → Option Nat} : ∀ (t : Tm) (o i : Nat), t.wf pl → i < t.size → ∃ s ts, NodeAt pl t.flat (t.ends o) o i s ts
  | .mk s ts, o, 0, hw, _ => by
    have hw' : pl s = some ts.len ∧ ts.wf pl := hw
    refine ⟨s, ts, rfl, hw'.2, hw'.1, ?_, ?_, fun j hj => ?_⟩
    · show some (o + ts.size + 1) = _
      congr 1
      omega
    · rw [Tm.flat_len]
      show 0 + ts.size < ts.size + 1
      omega
    · show ((o + ts.size + 1) :: ts.ends (o + 1))[0 + 1 + j]? = _
      rw [show 0 + 1 + j = j + 1 by omega, List.getElem?_cons_succ]
  | .mk s ts, o, i + 1, hw, hi => by
    have hw' : pl s = some ts.len ∧ ts.wf pl := hw
    obtain ⟨s2, ts2, n⟩ := Fs.node ts (o + 1) i hw'.2 (by unfold Tm.size at hi; omega)
    refine ⟨s2, ts2, ?_, n.wf, n.many, ?_, ?_, fun j hj => ?_⟩
    · show (s :: ts.flat)[i + 1]? = _
      rw [List.getElem?_cons_succ]; exact n.sign
    · show ((o + ts.size + 1) :: ts.ends (o + 1))[i + 1]? = _
      rw [List.getElem?_cons_succ, n.stop]
      congr 1
      omega
    · have := n.in_
      rw [Fs.flat_len] at this
      rw [Tm.flat_len]
      show i + 1 + ts2.size < ts.size + 1
      omega
    · show ((o + ts.size + 1) :: ts.ends (o + 1))[i + 1 + 1 + j]? = _
      rw [show i + 1 + 1 + j = (i + 1 + j) + 1 by omega, List.getElem?_cons_succ, n.kids j hj, show o + 1 + i + 1 = o + (i + 1) + 1 by omega]
theorem Fs.node {pl : Str → Option Nat} : ∀ (r : Fs) (o i : Nat), r.wf pl → i < r.size → ∃ s ts, NodeAt pl r.flat (r.ends o) o i s ts
  | .nil, o, i, _, hi => absurd hi (by unfold Fs.size; omega)
  | .cons t r, o, i, hw, hi => by
    have hw' : t.wf pl ∧ r.wf pl := hw
    by_cases h : i < t.size
    · obtain ⟨s, ts, n⟩ := Tm.node t o i hw'.1 h
      have ni := n.in_
      rw [Tm.flat_len] at ni
      refine ⟨s, ts, ?_, n.wf, n.many, ?_, ?_, fun j hj => ?_⟩
      · show (t.flat ++ r.flat)[i]? = _
        rw [List.getElem?_append_left (by rw [Tm.flat_len]; exact h)]; exact n.sign
      · show (t.ends o ++ r.ends (o + t.size))[i]? = _
        rw [List.getElem?_append_left (by rw [Tm.ends_len]; exact h)]; exact n.stop
      · rw [Fs.flat_len]
        show i + ts.size < t.size + r.size
        omega
      · show (t.ends o ++ r.ends (o + t.size))[i + 1 + j]? = _
        rw [List.getElem?_append_left (by rw [Tm.ends_len]; omega)]; exact n.kids j hj
    · have hi2 : i - t.size < r.size := by unfold Fs.size at hi; omega
      obtain ⟨s, ts, n⟩ := Fs.node r (o + t.size) (i - t.size) hw'.2 hi2
      have ni := n.in_
      rw [Fs.flat_len] at ni
      refine ⟨s, ts, ?_, n.wf, n.many, ?_, ?_, fun j hj => ?_⟩
      · show (t.flat ++ r.flat)[i]? = _
        rw [List.getElem?_append_right (by rw [Tm.flat_len]; omega), Tm.flat_len]; exact n.sign
      · show (t.ends o ++ r.ends (o + t.size))[i]? = _
        rw [List.getElem?_append_right (by rw [Tm.ends_len]; omega), Tm.ends_len, n.stop]
        congr 1
        omega
      · rw [Fs.flat_len]
        show i + ts.size < t.size + r.size
        omega
      · show (t.ends o ++ r.ends (o + t.size))[i + 1 + j]? = _
        rw [List.getElem?_append_right (by rw [Tm.ends_len]; omega), Tm.ends_len, show i + 1 + j - t.size = i - t.size + 1 + j by omega, n.kids j hj, show o + t.size + (i - t.size) + 1 = o + i + 1 by omega]
end
theorem Fs.len_size : ∀ r : Fs, r.len ≤ r.size
  | .nil => Nat.le_refl _
  | .cons t r => by
    have h1 := t.size_pos
    have h2 := Fs.len_size r
    show r.len + 1 ≤ t.size + r.size
    omega
end TS

/-! ### 18. methods with keyword-only parameters -/
namespace TS
open PySem PySem.Spec PyProof.Rows L2
def DefMK (K : PySem.W.Frag) (f : Addr) (m qual : Str) (st : Stmt) (kws : List (Str × V)) : Prop := ∃ fd, FunD K m qual (defArgs st) (defBody st) (defScope st) [] kws f fd
section
variable {P : Program} {w : World} {K : PySem.W.Frag} {mg : Str → Option Value} {base : Heap} {N ps ks : List Str} {k n : Nat} {sp : Sp} {m qual : Str} {st : Stmt} {f : Addr} {kws : List (Str × V)}
theorem methXK_mk (D : DefMK K f m qual st kws) (S : FnScope N ps (defScope st)) (len : ∀ vs H Q E, sp vs H Q E → vs.length = ps.length)
    (body : ∀ (cdv : Value) (A : Around) (outer : List Env) (s : Shared) (H : Hp) (vs : List V) (Q : VK) (E : XK), Room k (A.deeper (envOfC qual (defScope st) s.heap.objs.size f cdv)) → sp vs H Q E →
      ∃ t, PSs (cxOf (L2.CX P w) P w K mg base N qual (defScope st) f cdv A outer s H E) (defBody st) t ∧ t { nx := fun _ G => Q .non G, rt := Q } (start N vs) H) :
    ∃ fd, FunD K m qual (defArgs st) (defBody st) (defScope st) [] kws f fd ∧ FnOk P w K mg base (L2.CX P w) (k + 1) f fd ps sp := by
  obtain ⟨fd, F⟩ := D
  exact ⟨fd, F, F.ok S len body⟩
theorem promAK_of (h : ∃ fd, FunD K m qual (defArgs st) (defBody st) (defScope st) [] kws f fd ∧ FnOk P w K mg base (L2.CX P w) k f fd ps sp) (n : Nat) (ks : List Str) (ms : List (Str × V)) (g : {α : Type} → List α → List α → List α → List α) (hk : kws ≠ []) (hms : ∀ q ∈ ms, q ∈ kws)
    (hrel : ∀ {vs mz zs : List V} {us mv ws : List Value}, Vals vs us → Vals mz mv → Vals zs ws → Vals (g vs mz zs) (g us mv ws))
    (hb : ∀ (D : Addr) (doc pm : Value) (an : Option Addr) (cdv ct : Value) (us mv ws : List Value), us.length = n → mv.length = ms.length → ws.length = ks.length →
      KwChain D ((ms.map (·.1)).zip mv) (bindArgs (PySem.W.fnOf m qual (defArgs st) (defBody st) (defScope st) .none (.ref D) doc pm an cdv ct) ⟨us, ks.zip ws⟩) (ps.zip (g us mv ws))) :
    PromAK P w K mg base k f ps sp n ks (fun vs zs => g vs (ms.map (·.2)) zs) := by
  obtain ⟨fd, F, ok⟩ := h
  obtain ⟨mv, b⟩ := kbinds0 F n ks ms g hk hms hrel hb
  exact ⟨fd, _, ok, b⟩
end
def methKD (C m q : Str) (st : Stmt) (kwd : List (Str × He.Dv)) : He.DefD := ⟨(C, some m), m, q, defArgs st, defBody st, defScope st, [], kwd⟩
theorem methK_of {K : PySem.W.Frag} {fn : List He.DefD} (c1 : fn.all (fun d => d.ok K) = true) (c2 : fn.map (fun d => He.fnW K d.at_) = fn.map He.DefD.val)
    {C m q : Str} {st : Stmt} {kwd : List (Str × He.Dv)} (i : Nat) (hi : fn[i]? = some (methKD C m q st kwd)) : DefMK K (He.ma K (He.ga K C) m) m q st (kwd.map fun q => (q.1, q.2.v K)) := by
  have e1 : He.fnW K (methKD C m q st kwd).at_ = (methKD C m q st kwd).val := by
    have h1 := congrArg (·[i]?) c2
    simp only [List.getElem?_map, hi, Option.map_some] at h1
    exact Option.some.inj h1
  obtain ⟨fd, F⟩ := He.DefD.funD e1 (List.all_eq_true.mp c1 _ (List.mem_of_getElem? hi))
  exact ⟨fd, F⟩
section
variable {X : Cx} {k : Nat} {ps : List Str} {sp : Sp} {x : Str} {p pos : Pos}
/-- a guarded def called with nothing -/
theorem pe_pcG0 (pr : PromG X.prog X.w X.K X.mg X.base k x ps sp) (hgd : X.A.guards = some []) (hr : Room k X.A) (hg : Gl X x) (hdb : (x == ("__debug__" : Str)) = false := by decide) :
    PE X (.Call (.Name x p) [] [] pos) (tCall sp [] E0 tNil) := by
  obtain ⟨f, fd, F, m, kp, b⟩ := pr
  refine ⟨fun pins s σ H Q I h => wpAny_Call_Name_kw (ld_glob I hg m ?_ hdb)⟩
  exact PySem.W.callWith_K0 I.kIn kp (run_G (us := []) F hgd hr b .nil pass0 I .nil h)
end
end TS

/-! ### 23. x == y by an own __eq__, both of one own class -/
namespace TS
open PySem PySem.Spec PyProof.Rows L2
def rEqOwn (C : Addr) (sp : Sp) : R2 := fun x y H Q => ∃ a b dx dy fs gs, x = .ref a ∧ y = .ref b ∧ H a = some (.ins C dx fs) ∧ H b = some (.ins C dy gs) ∧ sp [.ref a, .ref b] H (fun v G => ∃ c, v = .bl c ∧ Q (.bl c) G) E0
theorem op_eqOwn {X : Cx} {k : Nat} {C f : Addr} {ps : List Str} {sp : Sp} (M : Meth X.K C "__eq__" f) (pr : PromA CX0 X.prog X.w X.K X.mg X.base k f ps sp) (hr : Room k X.A) : OpR X (compareOp .Eq) (rEqOwn C sp) := by
  intro pins s σ H x y v u Q J rx ry rd
  obtain ⟨a, b, dx, dy, fs, gs, rfl, rfl, ha, hb, q⟩ := rd
  cases rx
  cases ry
  obtain ⟨fd, F, bn⟩ := pr
  obtain ⟨mA, O, _⟩ := ins_get J.hok ha
  obtain ⟨mB, O2, _⟩ := ins_get J.hok hb
  obtain ⟨od, look, _⟩ := O.look
  obtain ⟨od2, look2, _⟩ := O2.look
  obtain ⟨m, hF⟩ := J.fr
  show wpAny (model X.prog X.w) X.A (richCompare .Eq (.ref a) (.ref b)) (EP X pins σ Q) X.xe s
  refine PySem.W.cmp_K (op := .Eq) (tb := .ref C) hr.units0 hF J.ok.mod.kin look look2.type (by simp [PySem.W.notFirst]) M.at_ M.fn ?_
  have r2 : Vals [V.ref a, V.ref b] [Value.ref a, Value.ref b] := .cons rfl (.cons rfl .nil)
  have bd := bn s [.ref a, .ref b] J.kIn (by rw [List.append_nil]; exact F.len _ _ _ _ q)
  rw [List.append_nil] at bd
  refine wpAny_call (codeAny_mono (F.run X.A X.stack s H ⟨[.ref a, .ref b], []⟩ [.ref a, .ref b] [.ref a, .ref b] _ E0 hr J.env0 bd r2 q) fun o t z => ?_)
  match o, z with
  | .error e, z => exact pass0 pins σ H s e t J z
  | .ok (.ret u), z =>
    obtain ⟨v, G, J2, rv, c, rfl, q2⟩ := J.after z
    cases rv
    exact ⟨.bl c, G, J2, rfl, q2⟩
end TS

/-! ### C(k = v, ..) of an own class whose __init__ may raise, no positional values -/
namespace TS
open PySem PySem.Spec PyProof.Rows L2
section
variable {X : Cx} {k : Nat} {f C : Addr} {ps ks : List Str} {sp : Sp} {W : WX} {x : Str} {p pos : Pos} {kws : List Keyword} {tk : TA} {gV : List V → List V → List V}
theorem pe_makeSK0 (M : Mk X.K C f) (pr : PromAK X.prog X.w X.K X.mg X.base k f ps sp 1 ks gV) (tkn : Takes X W) (hr : Room (k + 1) X.A) (hg : Gl X x) (hm : X.mg x = some (.ref C)) (hkw : PK X kws tk)
    (hall : (backToKw pos (keywordEach kws X.env)).all (·.1.isSome) = true := by rfl) (hks : (backToKw pos (keywordEach kws X.env)).filterMap (·.1) = ks := by rfl) (hdb : (x == ("__debug__" : Str)) = false := by decide)
    (hpl : ((backTo pos (starEach [] X.env)).any (·.1) || (backToKw pos (keywordEach kws X.env)).any (·.1.isNone)) = false := by rfl) :
    PE X (.Call (.Name x p) [] kws pos) (tMakeSK C 0 ks.length sp gV W tNil tk) := by
  obtain ⟨fd, g, F, b⟩ := pr
  refine ⟨fun pins s σ H Q J h => wpAny_Call_Name_kw (ld_glob J hg hm ?_ hdb)⟩
  refine PySem.W.callWith_KW0 (h₀ := X.base) J.ok.mod.kin M.kp hall ?_ hpl
  refine thn (hkw.run pos pins s σ H _ J h) fun ws s2 ⟨zs, H2, J2, rz, l1, l2, q2⟩ => ⟨J2.kIn, ?_⟩
  rw [hks]
  exact make_runSK (us := []) (vs := []) M F hr b tkn J2 .nil rz rfl l2 q2
end
end TS

/-! ### 25. x != y by an own __eq__, both of one own class: object.__ne__ turns the answer about -/
namespace TS
open PySem PySem.Spec PyProof.Rows L2
theorem ne_bind (self : Value) : bindSpecial (.builtin "object.__ne__") self = pure (.builtin "object.__ne__", [self]) :=
  (Slot.of (T := "object") (name := "__ne__") (owner := "object") (n := "__ne__") (by rw [typeLookup_type, builtinLookup_eq_fast]; kernel_rfl) (by decide +kernel) (by decide +kernel) (by decide +kernel)
    (.inl (by decide +kernel)) (by rw [isSubtype_type]; kernel_rfl)).bind self
def neB (K : PySem.W.Frag) (C : Addr) : Bool := PySem.W.findIn K (.ref C) "__ne__" == some (some (.builtin "object.__ne__")) && PySem.W.mroIn K C (.type "object") == some true
structure NeC (K : PySem.W.Frag) (C : Addr) : Prop where
  at_ : PySem.W.findIn K (.ref C) "__ne__" = some (some (.builtin "object.__ne__"))
  top : PySem.W.mroIn K C (.type "object") = some true
theorem neB_ok {K : PySem.W.Frag} {C : Addr} (h : neB K C = true) : NeC K C := by
  obtain ⟨a, b⟩ := He.ba h
  exact ⟨beq_iff_eq.mp a, beq_iff_eq.mp b⟩
section
variable {prog : Program} {w : World} {A : Around} {E : Value → Shared → Prop} {s : Shared} {K : PySem.W.Frag} {x C L f : Addr} {h₀ : Heap} {m : Str → Option Value} {ox : Obj} {od : Option Obj} {b tb : Value}
theorem ne_slotK {Q : Option Value → Shared → Prop} (hu : A.units + 1 < cLine) (X : K.In s.heap) (I : PySem.W.InstAt s.heap x ox C od) (N : NeC K C) (hs : PySem.W.findIn K (.ref C) "__eq__" = some (some (.ref f))) (hf : PySem.W.isFn K (.ref f) = true)
    (h : wpAny (model prog w) A.in1 (call (.ref f) [.ref x, b]) (fun v s' => ∃ c, v = .bool c ∧ Q (some (.bool (!c))) s') E s) : wpAny (model prog w) A (callSpecialIfBound? (.ref x) "__ne__" [b]) Q E s := by
  have body : wpAny (model prog w) A (call (.builtin "object.__ne__") [.ref x, b]) (fun v => Q (some v)) E s := by
    refine wpAny_call (codeAny_call_builtin (by decide +kernel) F.cmpEntry_ne (PySem.W.check_slot F.cmpKind_ne F.cmpSplit_ne (I.type.andThen (PySem.W.looks_subIn X N.top)) (F.cmpArgs_ne _ _) ?_))
    unfold Builtin.«object.__ne__»
    refine wpAny_bind (wpAny_of_eq rfl ?_)
    show wpAny _ _ (cRoomFor "comparison" [.ref x, b] >>= _) _ _ _
    refine wpAny_bind (wpAny_cRoomFor hu ?_)
    refine wpAny_bind (PySem.W.ifBound_K X I hs hf (wpAny_mono h (fun v s' hv => ?_) fun _ _ e => e))
    obtain ⟨c, rfl, q⟩ := hv
    refine wpAny_bind (wpAny_truthy_bool ?_)
    exact wpAny_pure q
  simp only [callSpecialIfBound?, bindSpecialIfBound?]
  refine wpAny_holding (wpAny_bind (wpAny_bind (wpAny_bind (I.type.here ((PySem.W.looks_findIn X N.at_).here ?_)))))
  refine wpAny_bind (wpAny_askSetting (wpAny_ite ?_))
  have fin : wpAny (model prog w) A (call (.builtin "object.__ne__") ([.ref x] ++ [b]) >>= fun v => pure (some v)) Q E s := wpAny_bind (wpAny_mono body (fun v s' h' => wpAny_pure h') fun _ _ h' => h')
  split
  · exact wpAny_bind (wpAny_of_eq (ne_bind _) (wpAny_pure (by exact fin)))
  · exact wpAny_tryCatch (wpAny_bind (wpAny_of_eq (ne_bind _) (wpAny_pure (by exact fin))))
theorem cmp_neK {Q : Value → Shared → Prop} (hu : A.units + 1 < cLine) (F : Fr h₀ L s.heap m) (X₀ : K.In h₀) (I : PySem.W.InstAt s.heap x ox C od) (hb : PySem.W.Looks (model prog w) s.heap (typeOf b) tb) (hn : PySem.W.notFirst K C tb = true)
    (N : NeC K C) (hs : PySem.W.findIn K (.ref C) "__eq__" = some (some (.ref f))) (hf : PySem.W.isFn K (.ref f) = true)
    (h : wpAny (model prog w) A.in1 (call (.ref f) [.ref x, b]) (fun v s' => ∃ c, v = .bool c ∧ Q (.bool (!c)) s') E s) : wpAny (model prog w) A (richCompare .NotEq (.ref x) b) Q E s := by
  have X := X₀.keeps F.keep
  have one : wpAny (model prog w) A (tryCompare (.ref x) (cmpInfo .NotEq).2.1 b) (fun r s' => ∃ v, r = some v ∧ Q v s') E s := by
    unfold tryCompare
    refine wpAny_bind (ne_slotK hu X I N hs hf (wpAny_mono h (fun v s' hv => ?_) fun _ _ e => e))
    obtain ⟨c, rfl, q⟩ := hv
    exact ⟨c, rfl, wpAny_pure ⟨_, rfl, q⟩⟩
  unfold richCompare
  simp only [oneThing_ref]
  refine wpAny_holding (wpAny_bind (wpAny_cRoomFor (Nat.lt_of_succ_lt hu) ?_))
  refine wpAny_bind (I.type.here (wpAny_bind (hb.here ?_)))
  split
  · rename_i q
    have e : PySem.W.subIn K tb (.ref C) = some false := by
      rcases Bool.or_eq_true_iff.mp hn with e | e
      · rw [beq_iff_eq.mp e] at q; simp at q
      · exact beq_iff_eq.mp e
    refine wpAny_bind ((PySem.W.looks_subIn X e).here ?_)
    simp only [Bool.false_eq_true, if_false]
    refine wpAny_bind (wpAny_mono one (fun r s' z => ?_) fun _ _ e => e)
    obtain ⟨v, rfl, hq⟩ := z
    exact wpAny_pure hq
  · refine wpAny_bind (wpAny_pure ?_)
    simp only [Bool.false_eq_true, if_false]
    refine wpAny_bind (wpAny_mono one (fun r s' z => ?_) fun _ _ e => e)
    obtain ⟨v, rfl, hq⟩ := z
    exact wpAny_pure hq
end
def rNeOwn (C : Addr) (sp : Sp) : R2 := fun x y H Q => ∃ a b dx dy fs gs, x = .ref a ∧ y = .ref b ∧ H a = some (.ins C dx fs) ∧ H b = some (.ins C dy gs) ∧ sp [.ref a, .ref b] H (fun v G => ∃ c, v = .bl c ∧ Q (.bl (!c)) G) E0
theorem op_neOwn {X : Cx} {k : Nat} {C f : Addr} {ps : List Str} {sp : Sp} (M : Meth X.K C "__eq__" f) (N : NeC X.K C) (pr : PromA CX0 X.prog X.w X.K X.mg X.base k f ps sp) (hr : Room (k + 1) X.A) : OpR X (compareOp .NotEq) (rNeOwn C sp) := by
  intro pins s σ H x y v u Q J rx ry rd
  obtain ⟨a, b, dx, dy, fs, gs, rfl, rfl, ha, hb, q⟩ := rd
  cases rx
  cases ry
  obtain ⟨fd, F, bn⟩ := pr
  obtain ⟨mA, O, _⟩ := ins_get J.hok ha
  obtain ⟨mB, O2, _⟩ := ins_get J.hok hb
  obtain ⟨od, look, _⟩ := O.look
  obtain ⟨od2, look2, _⟩ := O2.look
  obtain ⟨m, hF⟩ := J.fr
  show wpAny (model X.prog X.w) X.A (richCompare .NotEq (.ref a) (.ref b)) (EP X pins σ Q) X.xe s
  have hu := hr.units
  refine cmp_neK (tb := .ref C) (by omega) hF J.ok.mod.kin look look2.type (by simp [PySem.W.notFirst]) N M.at_ M.fn ?_
  have r2 : Vals [V.ref a, V.ref b] [Value.ref a, Value.ref b] := .cons rfl (.cons rfl .nil)
  have bd := bn s [.ref a, .ref b] J.kIn (by rw [List.append_nil]; exact F.len _ _ _ _ q)
  rw [List.append_nil] at bd
  have e0 : Env0 X.prog X.w X.K X.mg X.base X.A.in1 X.stack s H := J.env0.in1
  refine wpAny_call (codeAny_mono (F.run X.A.in1 X.stack s H ⟨[.ref a, .ref b], []⟩ [.ref a, .ref b] [.ref a, .ref b] _ E0 hr.in1 e0 bd r2 q) fun o t z => ?_)
  match o, z with
  | .error e, z => exact pass0 pins σ H s e t J z
  | .ok (.ret u), z =>
    obtain ⟨v, G, J2, rv, c, rfl, q2⟩ := J.after z
    cases rv
    exact ⟨c, rfl, .bl (!c), G, J2, rfl, q2⟩
end TS

/-! ### 27. x == y, x != y, x in [..] by an own __eq__, where one of both is data or of another own class -/
namespace TS
open PySem PySem.Spec PyProof.Rows L2
/-- an own class stands apart from the kinds of data -/
structure ApK (K : PySem.W.Frag) (C : Addr) : Prop where
  l : ∀ n ∈ kinds, PySem.W.subIn K (.type n) (.ref C) = some false
  r : ∀ n ∈ kinds, PySem.W.subIn K (.ref C) (.type n) = some false
def apKB (K : PySem.W.Frag) (C : Addr) : Bool := kinds.all fun n => decide (PySem.W.subIn K (.type n) (.ref C) = some false) && decide (PySem.W.subIn K (.ref C) (.type n) = some false)
theorem apKB_ok {K : PySem.W.Frag} {C : Addr} (h : apKB K C = true) : ApK K C :=
  ⟨fun n m => of_decide_eq_true (He.ba (List.all_eq_true.mp h n m)).1, fun n m => of_decide_eq_true (He.ba (List.all_eq_true.mp h n m)).2⟩
/-! what the built-in __eq__ of data says to an instance -/
section
variable {prog : Program} {w : World} {A : Around} {E : Value → Shared → Prop} {s : Shared} {K : PySem.W.Frag} {x C dx : Addr} {Q : Value → Shared → Prop}
open SeqAt AutoSeq1 MeetsSeq in
theorem dec_int (b : Int) (u : Tok) (e : s.heap.get? x = some (PySem.W.instObj C dx)) (q : Q .notImplemented s) : wpAny (model prog w) A (call (.builtin "int.__eq__") [.int b u, .ref x]) Q E s := by
  have m : Meets (Builtin.«int.__eq__» ⟨[.int b u, .ref x], []⟩) (fun _ R s => s.heap.get? x = some (PySem.W.instObj C dx) ∧ R (.ok (.ret .notImplemented)) s) :=
    .of_wp fun prog w A R t z => by obtain ⟨h0, g, d, k, os⟩ := t; obtain ⟨hl, z⟩ := z; wp_walk using wpAny_loadPart' hl, wpAny_load hl; exact ⟨_, rfl, z⟩
  exact call_meets F.slot_int_eq rfl F.entry_int_eq (F.args_int_eq_2 _ _) m ⟨e, q⟩
open SeqAt AutoSeq1 MeetsSeq in
theorem dec_bool (b : Bool) (e : s.heap.get? x = some (PySem.W.instObj C dx)) (q : Q .notImplemented s) : wpAny (model prog w) A (call (.builtin "int.__eq__") [.bool b, .ref x]) Q E s := by
  have m : Meets (Builtin.«int.__eq__» ⟨[.bool b, .ref x], []⟩) (fun _ R s => s.heap.get? x = some (PySem.W.instObj C dx) ∧ R (.ok (.ret .notImplemented)) s) :=
    .of_wp fun prog w A R t z => by obtain ⟨h0, g, d, k, os⟩ := t; obtain ⟨hl, z⟩ := z; wp_walk using wpAny_loadPart' hl, wpAny_load hl; exact ⟨_, rfl, z⟩
  exact call_meets F.slot_bool_eq rfl F.entry_int_eq (F.args_int_eq_2 _ _) m ⟨e, q⟩
open SeqAt AutoSeq1 MeetsSeq in
theorem dec_str (b : Str) (u : Tok) (e : s.heap.get? x = some (PySem.W.instObj C dx)) (q : Q .notImplemented s) : wpAny (model prog w) A (call (.builtin "str.__eq__") [.str b u, .ref x]) Q E s := by
  have m : Meets (Builtin.«str.__eq__» ⟨[.str b u, .ref x], []⟩) (fun _ R s => s.heap.get? x = some (PySem.W.instObj C dx) ∧ R (.ok (.ret .notImplemented)) s) :=
    .of_wp fun prog w A R t z => by obtain ⟨h0, g, d, k, os⟩ := t; obtain ⟨hl, z⟩ := z; wp_walk using wpAny_loadPart' hl, wpAny_load hl; exact ⟨_, rfl, z⟩
  exact call_meets F.slot_str_eq rfl F.entry_str_eq (F.args_str_eq_2 _ _) m ⟨e, q⟩

open SeqAt in
theorem dec_non (x : Addr) (q : Q .notImplemented s) : wpAny (model prog w) A (call (.builtin "NoneType.__eq__") [.none, .ref x]) Q E s :=
  call_gives F.slot_NoneType_eq rfl F.entry_NoneType_eq (F.args_NoneType_eq_2 _ _) (NoneType___eq___none_ref_0 x) q
theorem dec_list {l : Addr} (hT : s.TypeIs (.ref l) "list") (sub : PySem.W.Looks (model prog w) s.heap (isInstance (.ref x) (.type "list")) false) (q : Q .notImplemented s) : wpAny (model prog w) A (call (.builtin "list.__eq__") [.ref l, .ref x]) Q E s := by
  refine call_meetsIn (S := fun _ R t => t = s ∧ R (.ok (.ret .notImplemented)) t) F.slot_list_eq hT F.entry_list_eq (F.args_list_eq_2 _ _) (fun A R t z => ?_) ⟨rfl, q⟩
  obtain ⟨rfl, z⟩ := z
  refine wpAny_bind (wpAny_of_eq rfl ?_)
  refine wpAny_bind (sub.here ?_)
  exact wpAny_pure z
theorem dec_tuple {l : Addr} (hT : s.TypeIs (.ref l) "tuple") (sub : PySem.W.Looks (model prog w) s.heap (isInstance (.ref x) (.type "tuple")) false) (q : Q .notImplemented s) : wpAny (model prog w) A (call (.builtin "tuple.__eq__") [.ref l, .ref x]) Q E s := by
  refine call_meetsIn (S := fun _ R t => t = s ∧ R (.ok (.ret .notImplemented)) t) F.slot_tuple_eq hT F.entry_tuple_eq (F.args_tuple_eq_2 _ _) (fun A R t z => ?_) ⟨rfl, q⟩
  obtain ⟨rfl, z⟩ := z
  refine wpAny_bind (wpAny_of_eq rfl ?_)
  refine wpAny_bind (sub.here ?_)
  exact wpAny_pure z
theorem dec_dict {l : Addr} (hT : s.TypeIs (.ref l) "dict") (sub : PySem.W.Looks (model prog w) s.heap (isInstance (.ref x) (.type "dict")) false) (q : Q .notImplemented s) : wpAny (model prog w) A (call (.builtin "dict.__eq__") [.ref l, .ref x]) Q E s := by
  refine call_meetsIn (S := fun _ R t => t = s ∧ R (.ok (.ret .notImplemented)) t) F.slot_dict_eq hT F.entry_dict_eq (F.args_dict_eq_2 _ _) (fun A R t z => ?_) ⟨rfl, q⟩
  obtain ⟨rfl, z⟩ := z
  refine wpAny_bind (wpAny_of_eq rfl ?_)
  refine wpAny_bind (sub.here ?_)
  exact wpAny_bind (wpAny_rule (wpAny_pure z))
end

section
variable {X : Cx} {pins : List (Addr × Obj)} {σ : L2.St} {H : Hp} {s : Shared} {v : V} {d : PyData} {u : Value}
theorem Dt.typ (J : Inv X pins σ H s) (h : Dt X.K H v d) (r : RelV v u) : s.TypeIs u (tyN d) := by
  cases h with
  | non => cases r; rfl
  | bl b => cases r; rfl
  | int i => obtain ⟨t, rfl⟩ := r; rfl
  | str z => obtain ⟨t, rfl⟩ := r; rfl
  | lst a b =>
    cases r
    obtain ⟨its, rv, ⟨o, n, ho, hc, _⟩, _⟩ := J.list a
    exact ⟨o, ho, hc⟩
  | tup a b =>
    cases r
    obtain ⟨its, rv, ⟨o, ho, hc, _⟩, _⟩ := J.tuple a
    exact ⟨o, ho, hc⟩
  | @dct a ks xs ds h l ha =>
    cases r
    obtain ⟨hz, hS, vs, rk, o, es, ep, ho, hx, _⟩ := (show ObjOk X.prog X.w H s.heap a (.dK (ks.zip xs)) from J.hok a _ h)
    exact ⟨o, ho, hx.1⟩
theorem Dt.looks (J : Inv X pins σ H s) (h : Dt X.K H v d) (r : RelV v u) : PySem.W.Looks (model X.prog X.w) s.heap (typeOf u) (.type (tyN d)) := by
  cases h with
  | non => cases r; exact .now
  | bl b => cases r; exact .now
  | int i => obtain ⟨t, rfl⟩ := r; exact .now
  | str z => obtain ⟨t, rfl⟩ := r; exact .now
  | lst a b =>
    cases r
    obtain ⟨its, rv, ⟨o, n, ho, hc, _⟩, _⟩ := J.list a
    exact fun A Q E s k q => wpAny_typeOf_ref (k _ _ ho) (by rw [hc]; exact q)
  | tup a b =>
    cases r
    obtain ⟨its, rv, ⟨o, ho, hc, _⟩, _⟩ := J.tuple a
    exact fun A Q E s k q => wpAny_typeOf_ref (k _ _ ho) (by rw [hc]; exact q)
  | @dct a ks xs ds h l ha =>
    cases r
    obtain ⟨hz, hS, vs, rk, o, es, ep, ho, hx, _⟩ := (show ObjOk X.prog X.w H s.heap a (.dK (ks.zip xs)) from J.hok a _ h)
    exact fun A Q E s k q => wpAny_typeOf_ref (k _ _ ho) (by rw [hx.1]; exact q)
theorem Dt.declines (J : Inv X pins σ H s) (h : Dt X.K H v d) (r : RelV v u) {x C dx : Addr} {fs : List (Str × V)} (e : H x = some (.ins C dx fs)) (ap : ApK X.K C) :
    ∃ id, Slot (tyN d) (cmpInfo .Eq).2.1 id ∧ ∀ (A : Around) (E : Value → Shared → Prop) (Q : Value → Shared → Prop), Q .notImplemented s → wpAny (model X.prog X.w) A (call (.builtin id) [u, .ref x]) Q E s := by
  have ty := Dt.typ J h r
  obtain ⟨mA, O, _⟩ := ins_get J.hok e
  obtain ⟨od, look, _⟩ := O.look
  have no : ∀ n ∈ kinds, PySem.W.Looks (model X.prog X.w) s.heap (isInstance (.ref x) (.type n)) false := fun n m => look.type.andThen (PySem.W.looks_subIn J.kIn (ap.r n m))
  have ob : s.heap.get? x = some (PySem.W.instObj C dx) := (show ObjOk X.prog X.w H s.heap x (.ins C dx fs) from J.hok x _ e).2.2.2.1
  cases h with
  | non => cases r; exact ⟨_, F.slot_NoneType_eq, fun A E Q q => dec_non x q⟩
  | bl b => cases r; exact ⟨_, F.slot_bool_eq, fun A E Q q => dec_bool b ob q⟩
  | int i => obtain ⟨t, rfl⟩ := r; exact ⟨_, F.slot_int_eq, fun A E Q q => dec_int i t ob q⟩
  | str z => obtain ⟨t, rfl⟩ := r; exact ⟨_, F.slot_str_eq, fun A E Q q => dec_str z t ob q⟩
  | lst a b => cases r; exact ⟨_, F.slot_list_eq, fun A E Q q => dec_list ty (no "list" (by decide)) q⟩
  | tup a b => cases r; exact ⟨_, F.slot_tuple_eq, fun A E Q q => dec_tuple ty (no "tuple" (by decide)) q⟩
  | dct a b c => cases r; exact ⟨_, F.slot_dict_eq, fun A E Q q => dec_dict ty (no "dict" (by decide)) q⟩
end
section
variable {prog : Program} {w : World} {A : Around} {E : Value → Shared → Prop} {s : Shared} {K : PySem.W.Frag} {x C L f : Addr} {h₀ : Heap} {m : Str → Option Value} {ox : Obj} {od : Option Obj} {a : Value}
/-- data == x: the built-in one declines, the own one is asked -/
theorem cmp_right {n id : String} {Q : Value → Shared → Prop} (hu : A.units < cLine) (Fm : Fr h₀ L s.heap m) (X₀ : K.In h₀) (I : PySem.W.InstAt s.heap x ox C od) (ha : s.TypeIs a n) (sl : Slot n (cmpInfo .Eq).2.1 id) (hr : PySem.W.subIn K (.ref C) (.type n) = some false)
    (dec : ∀ Q' : Value → Shared → Prop, Q' .notImplemented s → wpAny (model prog w) A (call (.builtin id) [a, .ref x]) Q' E s) (hs : PySem.W.findIn K (.ref C) "__eq__" = some (some (.ref f))) (hf : PySem.W.isFn K (.ref f) = true)
    (h : wpAny (model prog w) A (call (.ref f) [.ref x, a]) (PySem.W.CmpBack Q) E s) : wpAny (model prog w) A (richCompare .Eq a (.ref x)) Q E s := by
  have X := X₀.keeps Fm.keep
  have two : wpAny (model prog w) A (tryCompare (.ref x) (cmpInfo .Eq).2.2 a) (fun r s' => ∃ v, r = some v ∧ Q v s') E s := by
    unfold tryCompare
    refine wpAny_bind (PySem.W.ifBound_K X I hs hf (wpAny_mono h (fun v s' hv => ?_) fun _ _ e => e))
    cases v <;> first | exact hv.elim | exact wpAny_pure ⟨_, rfl, hv⟩
  rcases hi : cmpInfo CmpOp.Eq with ⟨sym, f1, r1⟩
  rw [hi] at sl two
  simp only [richCompare, hi, ha.oneThing_none]
  refine wpAny_holding (wpAny_bind (wpAny_cRoomFor hu ?_))
  refine wpAny_bind (wpAny_typeOf ha (wpAny_bind (I.type.here ?_)))
  have ne : (Value.type n != Value.ref C) = true := by simp
  simp only [ne, if_true]
  refine wpAny_bind ((PySem.W.looks_subIn X hr).here ?_)
  simp only [Bool.false_eq_true, if_false, Bool.not_false, if_true]
  refine wpAny_bind (m := tryCompare a _ _) (wpAny_tryCompare_declines ha sl (dec _ ⟨rfl, ?_⟩))
  refine wpAny_bind (m := tryCompare (.ref x) _ _) (wpAny_mono two (fun r s' z => ?_) fun _ _ e => e)
  obtain ⟨v, rfl, hq⟩ := z
  exact wpAny_pure hq
end
/-- y beside an instance of C: data, or an instance that C's own look is asked of first -/
def Beside (K : PySem.W.Frag) (C : Addr) (H : Hp) (y : V) : Prop := (∃ d, Dt K H y d) ∨ ∃ b C2 dy gs, y = .ref b ∧ H b = some (.ins C2 dy gs) ∧ (C2 = C ∨ PySem.W.subIn K (.ref C2) (.ref C) = some false)
/-- a place where the defs may be called -/
structure Plc (X : Cx) (k : Nat) (A : Around) : Prop where
  room : Room k A
  env : ∀ {pins : List (Addr × Obj)} {σ : L2.St} {H : Hp} {s : Shared}, Inv X pins σ H s → Env0 X.prog X.w X.K X.mg X.base A X.stack s H
theorem Plc.own {X : Cx} {k : Nat} (h : Room k X.A) : Plc X k X.A := ⟨h, fun J => J.env0⟩
theorem Plc.in1 {X : Cx} {k : Nat} {A : Around} (h : Plc X (k + 1) A) : Plc X k A.in1 := ⟨h.room.in1, fun J => (h.env J).in1⟩
/-- what a rule of == says at a place -/
def EqP (X : Cx) (A : Around) (r : R2) : Prop := ∀ (pins : List (Addr × Obj)) (s : Shared) (σ : L2.St) (H : Hp) (x y : V) (v u : Value) (Q : VK), Inv X pins σ H s → RelV x v → RelV y u → r x y H Q → wpAny (model X.prog X.w) A (richCompare .Eq v u) (EP X pins σ Q) X.xe s
theorem EqP.or {X : Cx} {A : Around} {r r' : R2} (a : EqP X A r) (b : EqP X A r') : EqP X A (fun x y H Q => r x y H Q ∨ r' x y H Q) := fun pins s σ H x y v u Q J rx ry h => h.elim (a pins s σ H x y v u Q J rx ry) (b pins s σ H x y v u Q J rx ry)
theorem EqP.op {X : Cx} {r : R2} (h : EqP X X.A r) : OpR X (compareOp .Eq) r := fun {pins s σ H x y v u Q} J rx ry rd => h pins s σ H x y v u Q J rx ry rd
def rEqL (K : PySem.W.Frag) (C : Addr) (sp : Sp) : R2 := fun x y H Q => ∃ a dx fs, x = .ref a ∧ H a = some (.ins C dx fs) ∧ Beside K C H y ∧ sp [.ref a, y] H (fun v G => ∃ c, v = .bl c ∧ Q (.bl c) G) E0
def rEqR (K : PySem.W.Frag) (C : Addr) (sp : Sp) : R2 := fun x y H Q => ∃ d a dx fs, Dt K H x d ∧ y = .ref a ∧ H a = some (.ins C dx fs) ∧ sp [.ref a, x] H (fun v G => ∃ c, v = .bl c ∧ Q (.bl c) G) E0
def rNeL (K : PySem.W.Frag) (C : Addr) (sp : Sp) : R2 := fun x y H Q => ∃ a dx fs, x = .ref a ∧ H a = some (.ins C dx fs) ∧ Beside K C H y ∧ sp [.ref a, y] H (fun v G => ∃ c, v = .bl c ∧ Q (.bl (!c)) G) E0
section
variable {X : Cx} {A : Around} {k : Nat} {C f : Addr} {ps : List Str} {sp : Sp}
theorem Beside.looks {pins : List (Addr × Obj)} {σ : L2.St} {H : Hp} {s : Shared} {y : V} {u : Value} (ap : ApK X.K C) (J : Inv X pins σ H s) (h : Beside X.K C H y) (r : RelV y u) : ∃ tb, PySem.W.Looks (model X.prog X.w) s.heap (typeOf u) tb ∧ PySem.W.notFirst X.K C tb = true := by
  rcases h with ⟨d, h⟩ | ⟨b, C2, dy, gs, rfl, e, h⟩
  · exact ⟨_, Dt.looks J h r, by unfold PySem.W.notFirst; rw [ap.l _ (tyN_mem d)]; simp⟩
  · cases r
    obtain ⟨mA, O, _⟩ := ins_get J.hok e
    obtain ⟨od, look, _⟩ := O.look
    refine ⟨_, look.type, ?_⟩
    unfold PySem.W.notFirst
    rcases h with rfl | h
    · simp
    · rw [h]; simp
theorem call_own2 {pins : List (Addr × Obj)} {σ : L2.St} {H : Hp} {s : Shared} {a : Addr} {y : V} {u : Value} {R : VK} (p : Plc X k A) (pr : PromA CX0 X.prog X.w X.K X.mg X.base k f ps sp) (J : Inv X pins σ H s) (ry : RelV y u) (q : sp [.ref a, y] H R E0) :
    wpAny (model X.prog X.w) A (call (.ref f) [.ref a, u]) (EP X pins σ R) X.xe s := by
  obtain ⟨fd, Fn, bn⟩ := pr
  have r2 : Vals [V.ref a, y] [Value.ref a, u] := .cons rfl (.cons ry .nil)
  have bd := bn s [.ref a, u] J.kIn (by rw [List.append_nil]; exact r2.length.symm.trans (Fn.len _ _ _ _ q))
  rw [List.append_nil] at bd
  refine wpAny_call (codeAny_mono (Fn.run A X.stack s H ⟨[.ref a, u], []⟩ [.ref a, u] [.ref a, y] _ E0 p.room (p.env J) bd r2 q) fun o t z => ?_)
  match o, z with
  | .error e, z => exact pass0 pins σ H s e t J z
  | .ok (.ret u), z => exact J.after z
theorem eq_left (M : Meth X.K C "__eq__" f) (ap : ApK X.K C) (pr : PromA CX0 X.prog X.w X.K X.mg X.base k f ps sp) (p : Plc X k A) : EqP X A (rEqL X.K C sp) := by
  intro pins s σ H x y v u Q J rx ry rd
  obtain ⟨a, dx, fs, rfl, ha, bs, q⟩ := rd
  cases rx
  obtain ⟨mA, O, _⟩ := ins_get J.hok ha
  obtain ⟨od, look, _⟩ := O.look
  obtain ⟨m, hF⟩ := J.fr
  obtain ⟨tb, lk, nf⟩ := bs.looks ap J ry
  refine PySem.W.cmp_K (op := .Eq) (tb := tb) p.room.units0 hF J.ok.mod.kin look lk nf M.at_ M.fn (wpAny_mono (call_own2 p pr J ry q) (fun v s' z => ?_) fun _ _ z => z)
  obtain ⟨y1, G, J2, rv, c, rfl, q2⟩ := z
  cases rv
  exact ⟨.bl c, G, J2, rfl, q2⟩
theorem eq_right (M : Meth X.K C "__eq__" f) (ap : ApK X.K C) (pr : PromA CX0 X.prog X.w X.K X.mg X.base k f ps sp) (p : Plc X k A) : EqP X A (rEqR X.K C sp) := by
  intro pins s σ H x y v u Q J rx ry rd
  obtain ⟨d, a, dx, fs, hd, rfl, ha, q⟩ := rd
  cases ry
  obtain ⟨mA, O, _⟩ := ins_get J.hok ha
  obtain ⟨od, look, _⟩ := O.look
  obtain ⟨m, hF⟩ := J.fr
  obtain ⟨id, sl, dec⟩ := Dt.declines J hd rx ha ap
  refine cmp_right p.room.units0 hF J.ok.mod.kin look (Dt.typ J hd rx) sl (ap.r _ (tyN_mem d)) (fun Q' q' => dec A _ Q' q') M.at_ M.fn (wpAny_mono (call_own2 p pr J rx q) (fun v s' z => ?_) fun _ _ z => z)
  obtain ⟨y1, G, J2, rv, c, rfl, q2⟩ := z
  cases rv
  exact ⟨.bl c, G, J2, rfl, q2⟩
theorem op_neL (M : Meth X.K C "__eq__" f) (N : NeC X.K C) (ap : ApK X.K C) (pr : PromA CX0 X.prog X.w X.K X.mg X.base k f ps sp) (hr : Room (k + 1) X.A) : OpR X (compareOp .NotEq) (rNeL X.K C sp) := by
  intro pins s σ H x y v u Q J rx ry rd
  obtain ⟨a, dx, fs, rfl, ha, bs, q⟩ := rd
  cases rx
  obtain ⟨mA, O, _⟩ := ins_get J.hok ha
  obtain ⟨od, look, _⟩ := O.look
  obtain ⟨m, hF⟩ := J.fr
  obtain ⟨tb, lk, nf⟩ := bs.looks ap J ry
  have hu := hr.units
  show wpAny (model X.prog X.w) X.A (richCompare .NotEq (.ref a) u) (EP X pins σ Q) X.xe s
  refine cmp_neK (tb := tb) (by omega) hF J.ok.mod.kin look lk nf N M.at_ M.fn (wpAny_mono (call_own2 (Plc.own hr).in1 pr J ry q) (fun v s' z => ?_) fun _ _ z => z)
  obtain ⟨y1, G, J2, rv, c, rfl, q2⟩ := z
  cases rv
  exact ⟨c, rfl, .bl (!c), G, J2, rfl, q2⟩
end
end TS

/-! ### 28. str(x), repr(x) by an own __str__, __repr__ -/
namespace TS
open PySem PySem.Spec PyProof.Rows L2
def rTxtOwn (C : Addr) (sp : Sp) : List V → Hp → VK → Prop := fun xs H Q => ∃ a dx fs, xs = [.ref a] ∧ H a = some (.ins C dx fs) ∧ sp [.ref a] H (fun v G => ∃ z, v = .str z ∧ Q (.str z) G) E0
section
variable {X : Cx} {A : Around} {k : Nat} {C f : Addr} {ps : List Str} {sp : Sp}
theorem call_own1 {pins : List (Addr × Obj)} {σ : L2.St} {H : Hp} {s : Shared} {a : Addr} {R : VK} (p : Plc X k A) (pr : PromA CX0 X.prog X.w X.K X.mg X.base k f ps sp) (J : Inv X pins σ H s) (q : sp [.ref a] H R E0) :
    wpAny (model X.prog X.w) A (call (.ref f) [.ref a]) (EP X pins σ R) X.xe s := by
  obtain ⟨fd, Fn, bn⟩ := pr
  have r2 : Vals [V.ref a] [Value.ref a] := .cons rfl .nil
  have bd := bn s [.ref a] J.kIn (by rw [List.append_nil]; exact r2.length.symm.trans (Fn.len _ _ _ _ q))
  rw [List.append_nil] at bd
  refine wpAny_call (codeAny_mono (Fn.run A X.stack s H ⟨[.ref a], []⟩ [.ref a] [.ref a] _ E0 p.room (p.env J) bd r2 q) fun o t z => ?_)
  match o, z with
  | .error e, z => exact pass0 pins σ H s e t J z
  | .ok (.ret u), z => exact J.after z
theorem str_own (M : Meth X.K C "__str__" f) (pr : PromA CX0 X.prog X.w X.K X.mg X.base k f ps sp) (hr : Room (k + 2) X.A) : CallR X (.type "str") (rTxtOwn C sp) := by
  intro pins s σ H xs us Q J r rd
  obtain ⟨a, dx, fs, rfl, ea, q⟩ := rd
  obtain ⟨u, rfl, ra⟩ := vals1 r
  cases ra
  obtain ⟨mA, O, _⟩ := ins_get J.hok ea
  obtain ⟨od, look, _⟩ := O.look
  have p2 : Plc X k X.A.in1.in1 := (Plc.own hr).in1.in1
  refine PySem.W.kso_call p2.room.units0 J.kIn look M.at_ M.fn (wpAny_mono (call_own1 p2 pr J q) (fun v s' z => ?_) fun _ _ z => z)
  obtain ⟨y1, G, J2, rv, z, rfl, q2⟩ := z
  obtain ⟨t, rfl⟩ := rv
  exact ⟨.str z, G, J2, ⟨t, rfl⟩, q2⟩
theorem repr_own (M : Meth X.K C "__repr__" f) (pr : PromA CX0 X.prog X.w X.K X.mg X.base k f ps sp) (hr : Room (k + 1) X.A) : CallR X (.builtin "repr") (rTxtOwn C sp) := by
  intro pins s σ H xs us Q J r rd
  obtain ⟨a, dx, fs, rfl, ea, q⟩ := rd
  obtain ⟨u, rfl, ra⟩ := vals1 r
  cases ra
  obtain ⟨mA, O, _⟩ := ins_get J.hok ea
  obtain ⟨od, look, _⟩ := O.look
  obtain ⟨m, hF⟩ := J.fr
  have p1 : Plc X k X.A.in1 := (Plc.own hr).in1
  refine PySem.W.repr_K p1.room.units0 hF J.ok.mod.kin look M.at_ M.fn (wpAny_mono (call_own1 p1 pr J q) (fun v s' z => ?_) fun _ _ z => z)
  obtain ⟨y1, G, J2, rv, z, rfl, q2⟩ := z
  obtain ⟨t, rfl⟩ := rv
  exact ⟨.str z, G, J2, ⟨t, rfl⟩, q2⟩
end
end TS

/-! ### 29. x in [..] by an own __eq__ -/
namespace TS
open PySem PySem.Spec PyProof.Rows L2
theorem eqBool_of {M : Model} {A : Around} {E : Value → Shared → Prop} {s : Shared} {a b : Value} {Q : Bool → Shared → Prop} (hne : a ≠ b) (nf : ∀ f t, a ≠ .float f t) (h : wpAny M A (richCompare .Eq a b) (fun v s' => ∃ c, v = .bool c ∧ Q c s') E s) :
    wpAny M A (eqBool a b) Q E s := by
  unfold eqBool
  refine wpAny_holding ?_
  refine wpAny_ite_split (fun hab => absurd (eq_of_beq hab) hne) (fun _ => ?_)
  have fin : wpAny M A (richCompare .Eq a b >>= truthOfDropped) Q E s := wpAny_bind (wpAny_mono h (fun v s' z => by obtain ⟨c, rfl, q⟩ := z; exact wpAny_truthy_bool q) fun _ _ z => z)
  cases a with
  | float f t => exact absurd rfl (nf f t)
  | _ => exact fin
section
variable {prog : Program} {w : World} {A : Around} {R : Result → Shared → Prop} {l : Addr} {x : Value} {N : Nat} {I : Nat → Shared → Prop}
open SeqAt AutoSeq1 MeetsSeq in
theorem contains_goes (turn : ∀ i t, I i t → ∃ (items : Array Value) (n : Nat) (dd : Option Addr) (sl : Array (Option Value)), t.heap.get? l = some { cls := .type "list", dict := dd, data := .seq items n, slots := sl } ∧ items.size = N ∧
      ∀ h : i < items.size, wpAny (model prog w) A.in1 (eqBool items[i] x) (fun b s' => if b = true then R (.ok (.ret (.bool true))) s' else I (i + 1) s') (fun e s' => R (.error e) s') t)
    (fin : ∀ t, I N t → R (.ok (.ret (.bool false))) t) (k : Nat) : ∀ i : Nat, N - i = k → i ≤ N → ∀ t, I i t →
      wpAny (model prog w) A.in1 (Builtin.«list.__contains__.loop» ⟨[.ref l, x, rawInt i], []⟩) (fun fin s' => match fin with | .done f => R (.ok f) s' | .again c' => c'.quiet = true ∧ codeAny (model prog w) A c' R s') (fun e s' => R (.error e) s') t := by
  induction k with
  | zero =>
    intro i hk hiN t hI
    obtain rfl : i = N := by omega
    have done := fin t hI
    obtain ⟨items, n, dd, sl, hl, hsz, _⟩ := turn i t hI
    obtain ⟨h0, g, d, tk, os⟩ := t
    wp_walk using wpAny_loadPart' hl
    have hi : items[((i : Nat) : Int).toNat]? = none := by simp; omega
    rw [hi]
    wp_walk
    exact done
  | succ k ih =>
    intro i hk hiN t hI
    obtain ⟨items, n, dd, sl, hl, hsz, step⟩ := turn i t hI
    obtain ⟨h0, g, d, tk, os⟩ := t
    wp_walk using wpAny_loadPart' hl
    have hlt : i < items.size := by omega
    have hi : items[((i : Nat) : Int).toNat]? = some items[i] := by simp [hlt]
    rw [hi]
    refine wpAny_bind (wpAny_mono (step hlt) (fun b s' z => ?_) fun _ _ z => z)
    cases b with
    | true =>
      obtain ⟨h1, g1, d1, t1, o1⟩ := s'
      wp_walk
      exact z
    | false =>
      have hc : ((i : Int) + 1) = ((i + 1 : Nat) : Int) := by push_cast; rfl
      obtain ⟨h1, g1, d1, t1, o1⟩ := s'
      wp_walk
      rw [hc]
      refine ⟨plainId_quiet plain_contains_loop _, codeAny_builtin entry_contains_loop ?_⟩
      rw [Around.under_plainId plain_contains_loop _]
      exact ih (i + 1) (by omega) (by omega) _ z
end
/-- x in the list all at p: t is what is left -/
def InR (r : R2) (p : Addr) (all : List V) (x : V) : List V → Hp → VK → Prop
  | [], H, Q => Q (.bl false) H
  | y :: t, H, Q => y ≠ x ∧ r y x H fun v G => ∃ c, v = .bl c ∧ if c = true then Q (.bl true) G else G p = some (.lst all) ∧ InR r p all x t G Q
def rInO (r : R2) : R2 := fun x y H Q => ∃ p xs, y = .ref p ∧ H p = some (.lst xs) ∧ (∃ a, x = .ref a) ∧ (∀ v ∈ xs, ∀ b, v ≠ .flt b) ∧ InR r p xs x xs H Q
open SeqAt AutoSeq1 MeetsSeq in
theorem op_inO {X : Cx} {r : R2} (e : EqP X X.A.in1 r) : OpR X (compareOp .In) (rInO r) := by
  intro pins s σ H x y v u Q J rx ry rd
  obtain ⟨p, xs, rfl, hp, ⟨a, rfl⟩, nf, q⟩ := rd
  cases ry
  cases rx
  have at_ : ∀ {G : Hp} {t : Shared}, Inv X pins σ G t → G p = some (.lst xs) → ∃ its n, Vals xs its ∧ t.heap.get? p = some { cls := .type "list", data := .seq its.toArray n } := fun {G t} J e => (show ObjOk X.prog X.w G t.heap p (.lst xs) from J.hok p _ e).2
  obtain ⟨its, n, rv, ho⟩ := at_ J hp
  have hT : s.TypeIs (.ref p) "list" := ⟨_, ho, rfl⟩
  show wpAny (model X.prog X.w) X.A (do return .bool (← contains (.ref p) (.ref a))) (EP X pins σ Q) X.xe s
  refine wpAny_bind (wpAny_contains_slot hT F.slot_list_contains (wpAny_mono (call_meetsIn (E := X.xe) (Q := fun v t => ∃ c, v = .bool c ∧ EP X pins σ Q (.bool c) t) (S := fun A R t => A = X.A ∧ t = s ∧ (∀ c t', EP X pins σ Q (.bool c) t' → R (.ok (.ret (.bool c))) t') ∧ ∀ e t', X.xe e t' → R (.error e) t')
    F.slot_list_contains hT F.entry_list_contains (F.args_list_contains_2 _ _) (fun A R t z => ?_) ⟨rfl, rfl, fun c t' z => ⟨c, rfl, z⟩, fun e t' z => z⟩) (fun v t hv => ?_) fun _ _ z => z))
  · obtain ⟨rfl, rfl, k1, k2⟩ := z
    have go := contains_goes (prog := X.prog) (w := X.w) (A := X.A) (R := R) (l := p) (x := .ref a) (N := xs.length) (I := fun i t => ∃ G, Inv X pins σ G t ∧ G p = some (.lst xs) ∧ InR r p xs (.ref a) (xs.drop i) G Q) (fun i t hI => by
      obtain ⟨G, JG, eG, hR⟩ := hI
      obtain ⟨iz, n2, rz, hz⟩ := at_ JG eG
      refine ⟨iz.toArray, n2, none, #[], hz, by simpa using rz.length.symm, fun hi => ?_⟩
      have hx : i < xs.length := by
        have := rz.length
        simp at hi
        omega
      obtain ⟨u, hu, ru⟩ := rz.get (List.getElem?_eq_getElem hx)
      have eu : iz.toArray[i] = u := by
        simp
        rw [List.getElem?_eq_getElem (by simpa using hi)] at hu
        exact Option.some.inj hu
      rw [eu]
      rw [List.drop_eq_getElem_cons hx] at hR
      obtain ⟨ne, rr⟩ := hR
      refine eqBool_of ?_ ?_ (wpAny_mono (wpAny_mono (e pins t σ G _ (.ref a) u (.ref a) _ JG ru rfl rr) (fun _ _ z => z) k2) (fun v t' z => ?_) fun _ _ z => z)
      · intro z
        subst z
        cases hv : xs[i] <;> rw [hv] at ru ne <;> first | (obtain ⟨_, z⟩ := ru; cases z) | (cases ru; exact ne rfl) | cases ru
      · intro f tk z
        subst z
        have nn := nf _ (List.getElem_mem hx)
        cases hv : xs[i] <;> rw [hv] at ru nn <;> first | exact nn _ rfl | (obtain ⟨_, z⟩ := ru; cases z) | cases ru
      · obtain ⟨v2, G2, J2, rv2, c, rfl, q2⟩ := z
        cases rv2
        refine ⟨c, rfl, ?_⟩
        cases c with
        | true => exact k1 true t' ⟨.bl true, G2, J2, rfl, q2⟩
        | false => exact ⟨G2, J2, q2.1, q2.2⟩) (fun t hI => by
      obtain ⟨G, JG, eG, hR⟩ := hI
      rw [List.drop_length] at hR
      exact k1 false t ⟨.bl false, G, JG, rfl, hR⟩) xs.length 0 (by omega) (Nat.zero_le _) t ⟨H, J, hp, q⟩
    obtain ⟨h0, g, d, tk, os⟩ := t
    wp_walk using wpAny_loadPart' ho
    refine ⟨plainId_quiet plain_contains_loop _, codeAny_builtin entry_contains_loop ?_⟩
    rw [Around.under_plainId plain_contains_loop _]
    exact go
  · obtain ⟨c, rfl, z⟩ := hv
    exact wpAny_truthy_bool (wpAny_pure z)
end TS

/-! ### 30. texts: plain signs, lengths of what is split, joined, cut -/
namespace TS
open PySem PySem.Spec PyProof.Rows L2 TL
def Plain (z : Str) : Prop := ∀ c ∈ tl z, c < 256
theorem Plain.app {x y : Str} (hx : Plain x) (hy : Plain y) : Plain (x ++ y) := fun c hc => by
  rw [tl_append] at hc
  exact (List.mem_append.mp hc).elim (hx c) (hy c)
theorem Plain.cut {z : Str} (h : Plain z) (lo hi : Option Int) : Plain (cutS z lo hi) := fun c hc => h c (List.mem_of_mem_drop (List.mem_of_mem_take (show c ∈ ((tl z).drop _).take _ from hc)))
theorem joined_mem {S : List Nat} {c : Nat} : ∀ {ps : List (List Nat)}, c ∈ joinL S ps → c ∈ S ∨ ∃ p ∈ ps, c ∈ p
  | [], h => absurd h (by simp [joinL])
  | [p], h => .inr ⟨p, by simp, h⟩
  | p :: q :: r, h => by
    rcases List.mem_append.mp (show c ∈ p ++ (S ++ joinL S (q :: r)) from h) with h | h
    · exact .inr ⟨p, by simp, h⟩
    · rcases List.mem_append.mp h with h | h
      · exact .inl h
      · rcases joined_mem h with h | ⟨x, hx, hc⟩
        · exact .inl h
        · exact .inr ⟨x, List.mem_cons_of_mem _ hx, hc⟩
theorem Plain.join {y : Str} {ws : List Str} (hy : Plain y) (h : ∀ z ∈ ws, Plain z) : Plain (Txt.join y ws) := fun c hc => by
  rw [join_eq, tl_join] at hc
  rcases joined_mem hc with hc | ⟨p, hp, hc⟩
  · exact hy c hc
  · obtain ⟨z, hz, rfl⟩ := List.mem_map.mp hp
    exact h z hz c hc
theorem plainB {z : Str} (h : (tl z).all (fun c => decide (c < 256)) = true) : Plain z := fun c hc => of_decide_eq_true (List.all_eq_true.mp h c hc)
theorem cut_le {z : Str} {lo hi : Option Int} {n : Nat} (h : z.length ≤ n) : (cutS z lo hi).length ≤ n := Nat.le_trans (cutS_length z lo hi) h
theorem add_len (x y : Str) : (x ++ y).length = x.length + y.length := by
  rw [len_tl, tl_append, List.length_append, ← len_tl, ← len_tl]
theorem join_sum (y : Str) : ∀ ws : List Str, (Txt.join y ws).length ≤ (ws.map (·.length)).sum + ws.length * y.length
  | [] => by
    rw [join_eq, len_tl, tl_join]
    exact Nat.zero_le _
  | [w] => by
    rw [join_eq, len_tl, tl_join]
    show (tl w).length ≤ _
    rw [← len_tl]
    simp
  | w :: v :: r => by
    have ih := join_sum y (v :: r)
    rw [join_eq, len_tl, tl_join] at ih ⊢
    show (tl w ++ (tl y ++ joinL (tl y) ((v :: r).map tl))).length ≤ _
    rw [List.length_append, List.length_append, ← len_tl, ← len_tl]
    have e : (w :: v :: r).length = (v :: r).length + 1 := rfl
    have e2 : ((w :: v :: r).map (fun x : Str => x.length)).sum = w.length + ((v :: r).map (fun x : Str => x.length)).sum := by simp only [List.map_cons, List.sum_cons]
    rw [e, Nat.succ_mul, e2]
    have ih' : (joinL (tl y) (tl v :: List.map tl r)).length ≤ ((v :: r).map (fun x : Str => x.length)).sum + (v :: r).length * y.length := ih
    omega
theorem pre_is (m c : Nat) (r : List Nat) : pre [m] (c :: r) = decide (c = m) := by
  by_cases h : c = m
  · subst h; simp [pre]
  · simp [pre, h]
/-- what a text is split into -/
theorem spl_facts (m : Nat) : ∀ (l acc : List Nat), 1 ≤ (spl [m] 0 acc l).length ∧ (spl [m] 0 acc l).length ≤ 1 + l.length ∧ ((spl [m] 0 acc l).map List.length).sum ≤ acc.length + l.length ∧ (∀ p ∈ spl [m] 0 acc l, ∀ c ∈ p, c ∈ acc ∨ (c ∈ l ∧ c ≠ m))
  | [], acc => by
    rw [spl_nil]
    exact ⟨by simp, by simp, by simp, fun p hp c hc => .inl (by rw [List.mem_singleton.mp hp] at hc; exact hc)⟩
  | c :: r, acc => by
    by_cases h : c = m
    · rw [spl_hit (by rw [pre_is, decide_eq_true h])]
      obtain ⟨a1, a2, a3, a4⟩ := spl_facts m r []
      show 1 ≤ (acc :: spl [m] 0 [] r).length ∧ (acc :: spl [m] 0 [] r).length ≤ _ ∧ ((acc :: spl [m] 0 [] r).map List.length).sum ≤ _ ∧ ∀ p ∈ acc :: spl [m] 0 [] r, _
      refine ⟨by simp, ?_, ?_, fun p hp d hd => ?_⟩
      · simp only [List.length_cons]; omega
      · simp only [List.map_cons, List.sum_cons, List.length_cons, List.length_nil] at a3 ⊢; omega
      · rcases List.mem_cons.mp hp with rfl | hp
        · exact .inl hd
        · rcases a4 p hp d hd with z | ⟨z, n⟩
          · cases z
          · exact .inr ⟨List.mem_cons_of_mem _ z, n⟩
    · rw [spl_miss (by rw [pre_is, decide_eq_false h])]
      obtain ⟨a1, a2, a3, a4⟩ := spl_facts m r (acc ++ [c])
      refine ⟨a1, ?_, ?_, fun p hp d hd => ?_⟩
      · simp only [List.length_cons]; omega
      · simp only [List.length_append, List.length_cons, List.length_nil] at a3 ⊢; omega
      · rcases a4 p hp d hd with z | ⟨z, n⟩
        · rcases List.mem_append.mp z with z | z
          · exact .inl z
          · rw [List.mem_singleton.mp z]; exact .inr ⟨List.mem_cons_self .., h⟩
        · exact .inr ⟨List.mem_cons_of_mem _ z, n⟩
theorem split_tl (z : Str) {m : Nat} (hm : m < 256) : (Txt.split z ⟨#[m]⟩).map tl = spl [m] 0 [] (tl z) := by
  rw [split_spl z ⟨#[m]⟩ (by show [m] ≠ []; simp) (kind_ok (by simp [hm]))]
theorem blank_is : (" " : Str) = ⟨#[32]⟩ := by decide +kernel
structure Splits (z : Str) (ws : List Str) : Prop where
  some_ : 1 ≤ ws.length
  few : ws.length ≤ 1 + z.length
  sum : (ws.map (·.length)).sum ≤ z.length
  mem : ∀ y ∈ ws, ∀ c ∈ tl y, c ∈ tl z ∧ c ≠ 32
theorem splits (z : Str) : Splits z (Txt.split z " ") := by
  have e := split_tl z (m := 32) (by decide)
  rw [← blank_is] at e
  obtain ⟨a1, a2, a3, a4⟩ := spl_facts 32 (tl z) []
  rw [← e] at a1 a2 a3 a4
  rw [List.length_map] at a1 a2
  refine ⟨a1, by rw [len_tl]; exact a2, ?_, fun y hy c hc => ?_⟩
  · have q : (Txt.split z " ").map (·.length) = ((Txt.split z " ").map tl).map List.length := by rw [List.map_map]; exact List.map_congr_left fun y _ => len_tl y
    rw [q, len_tl]
    simpa using a3
  · rcases a4 (tl y) (List.mem_map_of_mem hy) c hc with h | h
    · cases h
    · exact h
theorem mem_sum : ∀ {l : List Nat} {n : Nat}, n ∈ l → n ≤ l.sum
  | x :: r, n, h => by
    rw [List.sum_cons]
    rcases List.mem_cons.mp h with rfl | m
    · omega
    · have := mem_sum m; omega
theorem Splits.le {z : Str} {ws : List Str} (h : Splits z ws) {y : Str} (m : y ∈ ws) : y.length ≤ z.length := Nat.le_trans (mem_sum (List.mem_map_of_mem m)) h.sum
theorem Splits.plain {z : Str} {ws : List Str} (h : Splits z ws) (p : Plain z) {y : Str} (m : y ∈ ws) : Plain y := fun c hc => p c (h.mem y m c hc).1
/-- a joined line of words without blanks, split -/
theorem split_line {ws : List Str} (h1 : 1 ≤ ws.length) (h : ∀ y ∈ ws, 32 ∉ tl y) : Txt.split (Txt.join " " ws) " " = ws :=
  split_join (s := 32) (S := []) (by decide +kernel) (by decide +kernel) (fun e => by rw [e] at h1; simp at h1) h
end TS

/-! ### 31. a def that may raise, called by the names of its parameters -/
namespace TS
open PySem PySem.Spec PyProof.Rows L2
/-- a def and its promise, however it is called -/
def FnX (P : Program) (w : World) (K : PySem.W.Frag) (mg : Str → Option Value) (base : Heap) (k : Nat) (x : Str) (st : Stmt) (ps : List Str) (sp : Sp) : Prop :=
  ∃ f fd, FunD K x x (defArgs st) (defBody st) (defScope st) [] [] f fd ∧ mg x = some (.ref f) ∧ FnOk P w K mg base (L2.CX P w) k f fd ps sp
def PromXN (P : Program) (w : World) (K : PySem.W.Frag) (mg : Str → Option Value) (base : Heap) (k : Nat) (x : Str) (ps : List Str) (sp : Sp) (n : Nat) (ks : List Str) (gV : List V → List V → List V) : Prop :=
  ∃ f fd g, FnOk P w K mg base (L2.CX P w) k f fd ps sp ∧ mg x = some (.ref f) ∧ PySem.W.keepIn K (.ref f) = true ∧ KBn K fd ps n ks g gV
section
variable {P : Program} {w : World} {K : PySem.W.Frag} {mg : Str → Option Value} {base : Heap} {N ps ks : List Str} {k n : Nat} {sp : Sp} {x : Str} {st : Stmt}
theorem fnX_mk (D : Def K mg x st) (S : FnScope N ps (defScope st)) (len : ∀ vs H Q E, sp vs H Q E → vs.length = ps.length)
    (body : ∀ (f : Addr) (cdv : Value) (A : Around) (outer : List Env) (s : Shared) (H : Hp) (vs : List V) (Q : VK) (E : XK), Room k (A.deeper (envOfC x (defScope st) s.heap.objs.size f cdv)) → sp vs H Q E →
      ∃ t, PSs (cxOf (L2.CX P w) P w K mg base N x (defScope st) f cdv A outer s H E) (defBody st) t ∧ t { nx := fun _ G => Q .non G, rt := Q } (start N vs) H) : FnX P w K mg base (k + 1) x st ps sp := by
  obtain ⟨f, fd, F, m⟩ := D
  exact ⟨f, fd, F, m, F.ok S len (body f)⟩
theorem FnX.pos (h : FnX P w K mg base k x st ps sp)
    (hb : ∀ (kV doc pm : Value) (an : Option Addr) (cdv ct : Value) (us : List Value), us.length = ps.length → bindArgs (PySem.W.fnOf x x (defArgs st) (defBody st) (defScope st) .none kV doc pm an cdv ct) ⟨us, []⟩ = pure (ps.zip us)) : PromX P w K mg base k x ps sp := by
  obtain ⟨f, fd, F, m, o⟩ := h
  exact ⟨f, ⟨fd, o, F.bindsN hb⟩, m, F.kp⟩
theorem FnX.names (h : FnX P w K mg base k x st ps sp) (n : Nat) (ks : List Str) (g : {α : Type} → List α → List α → List α) (hrel : ∀ {vs zs : List V} {us ws : List Value}, Vals vs us → Vals zs ws → Vals (g vs zs) (g us ws))
    (hb : ∀ (kV doc pm : Value) (an : Option Addr) (cdv ct : Value) (us ws : List Value), us.length = n → ws.length = ks.length → bindArgs (PySem.W.fnOf x x (defArgs st) (defBody st) (defScope st) .none kV doc pm an cdv ct) ⟨us, ks.zip ws⟩ = pure (ps.zip (g us ws))) :
    PromXN P w K mg base k x ps sp n ks (fun vs zs => g vs zs) := by
  obtain ⟨f, fd, F, m, o⟩ := h
  refine ⟨f, fd, fun us ws => g us ws, o, m, F.kp, ?_, fun r1 r2 => hrel r1 r2⟩
  obtain ⟨oc, od, dV, kV, doc, pm, an, cdv, ct, osl, rfl, lk, hcd, hD, hK⟩ := F.ex
  rcases hD with ⟨_, rfl⟩ | ⟨e, _⟩
  · exact fun s us ws X l1 l2 => BindsTo.of_looks fun M => by rw [hb kV doc pm an cdv ct us ws l1 l2]; exact .now
  · exact absurd rfl e
end
section
variable {X : Cx} {k : Nat} {ps ks : List Str} {sp : Sp} {W : WX} {x : Str} {p pos : Pos} {kws : List Keyword} {tk : TA} {gV : List V → List V → List V}
theorem pe_pcXN (pr : PromXN X.prog X.w X.K X.mg X.base k x ps sp 0 ks gV) (tkn : Takes X W) (hr : Room k X.A) (hg : Gl X x) (hkw : PK X kws tk)
    (hall : (backToKw pos (keywordEach kws X.env)).all (·.1.isSome) = true := by rfl) (hks : (backToKw pos (keywordEach kws X.env)).filterMap (·.1) = ks := by rfl) (hdb : (x == ("__debug__" : Str)) = false := by decide)
    (hpl : ((backTo pos (starEach [] X.env)).any (·.1) || (backToKw pos (keywordEach kws X.env)).any (·.1.isNone)) = false := by rfl) :
    PE X (.Call (.Name x p) [] kws pos) (fun σ H Q => tk σ H fun zs H1 => zs.length = ks.length ∧ sp (gV [] zs) H1 Q (WE W σ)) := by
  obtain ⟨f, fd, g, F, hm, kp, b⟩ := pr
  refine ⟨fun pins s σ H Q J h => wpAny_Call_Name_kw (ld_glob J hg hm ?_ hdb)⟩
  refine PySem.W.callWith_KW0 (h₀ := X.base) J.ok.mod.kin kp hall ?_ hpl
  refine thn (hkw.run pos pins s σ H _ J h) fun ws s2 ⟨zs, H2, J2, rz, l2, q2⟩ => ⟨J2.kIn, ?_⟩
  rw [hks]
  refine wpAny_call (codeAny_mono (F.run X.A X.stack s2 H2 ⟨[], ks.zip ws⟩ (g [] ws) (gV [] zs) Q (WE W σ) hr J2.env0 (b.to s2 [] ws J2.kIn rfl (rz.length.symm.trans l2)) (b.rel .nil rz) q2) fun o t z => ?_)
  match o, z with
  | .error e, z => exact passAt tkn σ pins _ _ e t J2 z
  | .ok (.ret u), z => exact J2.after z
end
end TS

/-! ### 32. data that may be compared -/
namespace TS
open PySem PySem.Spec PyProof.Rows L2 TL
mutual
theorem Dt.dp {K : PySem.W.Frag} {H : Hp} : ∀ {v : V} {d : PyData}, Dt K H v d → d.canLay0 = true → Dp K H v d
  | _, _, .non, _ => .non
  | _, _, .bl b, _ => .bl b
  | _, _, .int i, _ => .int i
  | _, _, .str x, _ => .str x
  | _, _, .lst h a, c => .lst h (DtAll.dp a (by simpa [PyData.canLay0] using c))
  | _, _, .tup h a, c => .tup h (DtAll.dp a (by simpa [PyData.canLay0] using c))
  | _, _, .dct _ _ _, c => by simp [PyData.canLay0] at c
theorem DtAll.dp {K : PySem.W.Frag} {H : Hp} : ∀ {v : List V} {d : List PyData}, DtAll K H v d → PyData.canLayAll0 d = true → DpAll K H v d
  | _, _, .nil, _ => .nil
  | _, _, .cons a b, c => by
    unfold PyData.canLayAll0 at c
    obtain ⟨c1, c2⟩ := Bool.and_eq_true_iff.mp c
    exact .cons (Dt.dp a c1) (DtAll.dp b c2)
end
theorem lay_all : ∀ {ds : List PyData}, (∀ e ∈ ds, e.canLay0 = true) → PyData.canLayAll0 ds = true
  | [], _ => rfl
  | e :: r, h => by unfold PyData.canLayAll0; rw [h e (by simp), lay_all fun x m => h x (List.mem_cons_of_mem _ m)]; rfl
theorem shaped_list {ds : List PyData} (h : ∀ e ∈ ds, e.canLay0 = true ∧ e.depth ≤ 30) : SeqAt.shaped (.list ds) = true := by
  unfold SeqAt.shaped
  rw [show (PyData.list ds).canLay0 = true by unfold PyData.canLay0; exact lay_all fun e m => (h e m).1, Bool.true_and]
  refine decide_eq_true ?_
  unfold PyData.depth
  have := all_deep fun e m => (h e m).2
  omega
theorem eqvAll_nil (l : List PyData) : PyData.eqv (.list l) (.list []) = l.isEmpty := by
  unfold PyData.eqv
  cases l <;> rfl
theorem dt_strs {K : PySem.W.Frag} {G : Hp} : ∀ zs : List Str, DtAll K G (zs.map V.str) (zs.map PyData.str)
  | [] => .nil
  | z :: r => .cons (.str z) (dt_strs r)
theorem eqv_strs2 : ∀ zs ys : List Str, PyData.eqvAll (zs.map PyData.str) (ys.map PyData.str) = decide (zs = ys)
  | [], [] => rfl
  | [], y :: r => rfl
  | z :: r, [] => rfl
  | z :: r, y :: t => by
    show ((z == y) && PyData.eqvAll (r.map PyData.str) (t.map PyData.str)) = _
    rw [eqv_strs2 r t]
    by_cases h : z = y
    · subst h; simp
    · have e : (z == y) = false := by simpa using h
      rw [e]; simp [h]
def Lays (zs : List Str) : Prop := ∀ z ∈ zs, (PyData.str z).canLay0 = true
theorem Lays.all {zs : List Str} (h : Lays zs) : ∀ e ∈ zs.map PyData.str, e.canLay0 = true ∧ e.depth ≤ 30 := fun e he => by
  obtain ⟨z, hz, rfl⟩ := List.mem_map.mp he
  exact ⟨h z hz, Nat.zero_le _⟩
theorem Lays.of_plain {zs : List Str} (h : ∀ z ∈ zs, Plain z) : Lays zs := fun z hz => by
  show z.cps.all (· < 0x110000) = true
  rw [← Array.all_toList, List.all_eq_true]
  exact fun c m => decide_eq_true (Nat.lt_of_lt_of_le (h z hz c m) (by decide))
/-- two lists of texts, compared -/
theorem strs_eq {K : PySem.W.Frag} {G : Hp} {a b : Addr} {zs ys : List Str} {Q : VK} (ha : SqL K G a (zs.map V.str)) (hb : SqL K G b (ys.map V.str)) (lz : Lays zs) (ly : Lays ys) (q : Q (.bl (decide (zs = ys))) G) : rEqD K (.ref a) (.ref b) G Q := by
  refine ⟨.list (zs.map .str), .list (ys.map .str), Dp.lst ha ((dt_strs zs).dp (lay_all fun e he => (lz.all e he).1)), Dp.lst hb ((dt_strs ys).dp (lay_all fun e he => (ly.all e he).1)), shaped_list lz.all, shaped_list ly.all, ?_⟩
  have e : PyData.eqv (.list (zs.map PyData.str)) (.list (ys.map PyData.str)) = decide (zs = ys) := by
    unfold PyData.eqv
    exact eqv_strs2 zs ys
  rw [e]
  exact q
theorem strs_ne {K : PySem.W.Frag} {G : Hp} {a b : Addr} {zs ys : List Str} {Q : VK} (ha : SqL K G a (zs.map V.str)) (hb : SqL K G b (ys.map V.str)) (lz : Lays zs) (ly : Lays ys) (q : Q (.bl (!decide (zs = ys))) G) : rNeD K (.ref a) (.ref b) G Q := by
  refine ⟨.list (zs.map .str), .list (ys.map .str), Dp.lst ha ((dt_strs zs).dp (lay_all fun e he => (lz.all e he).1)), Dp.lst hb ((dt_strs ys).dp (lay_all fun e he => (ly.all e he).1)), shaped_list lz.all, shaped_list ly.all, ?_⟩
  have e : PyData.eqv (.list (zs.map PyData.str)) (.list (ys.map PyData.str)) = decide (zs = ys) := by
    unfold PyData.eqv
    exact eqv_strs2 zs ys
  rw [e]
  exact q
end TS

/-! ### 33. own ==, !=, in: K named -/
namespace TS
open PySem PySem.Spec PyProof.Rows L2
/-- an instance with anything, or data with an instance -/
def rEqLR (K : PySem.W.Frag) (C : Addr) (sp : Sp) : R2 := fun x y H Q => rEqL K C sp x y H Q ∨ rEqR K C sp x y H Q
/-- data with an instance of C, or an instance of C2 with anything -/
def rEqRW (K : PySem.W.Frag) (C C2 : Addr) (sp sp2 : Sp) : R2 := fun x y H Q => rEqR K C sp x y H Q ∨ rEqL K C2 sp2 x y H Q
section
variable {X : Cx} {K : PySem.W.Frag} {k k2 : Nat} {C C2 f f2 : Addr} {ps ps2 : List Str} {sp sp2 : Sp}
theorem op_eqLR (M : Meth K C "__eq__" f) (ap : ApK K C) (pr : PromA CX0 X.prog X.w K X.mg X.base k f ps sp) (hr : Room k X.A) (hK : X.K = K := by rfl) : OpR X (compareOp .Eq) (rEqLR K C sp) := by
  subst hK
  exact EqP.op (EqP.or (eq_left M ap pr (Plc.own hr)) (eq_right M ap pr (Plc.own hr)))
theorem op_eqRW (M : Meth K C "__eq__" f) (ap : ApK K C) (pr : PromA CX0 X.prog X.w K X.mg X.base k f ps sp) (hr : Room k X.A) (M2 : Meth K C2 "__eq__" f2) (ap2 : ApK K C2) (pr2 : PromA CX0 X.prog X.w K X.mg X.base k2 f2 ps2 sp2) (hr2 : Room k2 X.A) (hK : X.K = K := by rfl) :
    OpR X (compareOp .Eq) (rEqRW K C C2 sp sp2) := by
  subst hK
  exact EqP.op (EqP.or (eq_right M ap pr (Plc.own hr)) (eq_left M2 ap2 pr2 (Plc.own hr2)))
theorem op_neLK (M : Meth K C "__eq__" f) (N : NeC K C) (ap : ApK K C) (pr : PromA CX0 X.prog X.w K X.mg X.base k f ps sp) (hr : Room (k + 1) X.A) (hK : X.K = K := by rfl) : OpR X (compareOp .NotEq) (rNeL K C sp) := by
  subst hK
  exact op_neL M N ap pr hr
theorem op_inLR (M : Meth K C "__eq__" f) (ap : ApK K C) (pr : PromA CX0 X.prog X.w K X.mg X.base k f ps sp) (hr : Room (k + 1) X.A) (hK : X.K = K := by rfl) : OpR X (compareOp .In) (rInO (rEqLR K C sp)) := by
  subst hK
  exact op_inO (EqP.or (eq_left M ap pr (Plc.own hr).in1) (eq_right M ap pr (Plc.own hr).in1))
end
end TS

/-! ### 34. a text many times -/
namespace TS
open PySem PySem.Spec PyProof.Rows L2 TL
theorem rep_size (z : Array Nat) : ∀ (n : Nat) (acc : Array Nat), ((List.replicate n z).foldl (· ++ ·) acc).size = acc.size + z.size * n
  | 0, acc => by simp
  | n + 1, acc => by
    rw [List.replicate_succ, List.foldl_cons, rep_size z n, Array.size_append, Nat.mul_succ]
    omega
section
variable {X : Cx}
/-- a text many times -/
def rRepS : R2 := fun x y H Q => ∃ (z : Str) (n : Nat), x = .str z ∧ y = .int n ∧ 2 ≤ n ∧ z.length ≠ 0 ∧ z.length * n ≤ 100000 ∧ Q (.str ⟨(List.replicate n z.cps).foldl (· ++ ·) #[]⟩) H
theorem op_repS : OpR X (binaryOp .Mult) rRepS := by
  intro pins s σ H x y v u Q I rx ry h
  obtain ⟨z, n, rfl, rfl, hn, hz, hl, q⟩ := h
  obtain ⟨t, rfl⟩ := rx
  obtain ⟨t', rfl⟩ := ry
  have hn1 : n ≤ z.length * n := Nat.le_mul_of_pos_left _ (by omega)
  have e1 : ((n : Int) == 1 || z.length == 0) = false := by
    have h1 : ((n : Int) == 1) = false := beq_eq_false_iff_ne.mpr (by omega)
    have h2 : (z.length == 0) = false := beq_eq_false_iff_ne.mpr hz
    rw [h1, h2]; rfl
  have hnn : ¬ (n : Int) < 1 := by omega
  refine PySem.P.mul_str ?_ (fun _ _ => ?_) (fun _ _ => ?_) ?_
  · rw [decide_eq_false (by omega), decide_eq_false (by omega)]; rfl
  · have h3 : (1 : Int) ≤ n := by omega
    have h4 : (z.length : Int) ≤ 100000 := by
      have := Nat.le_mul_of_pos_right z.length (show 0 < n by omega)
      omega
    have h5 : (n : Int) ≤ 100000 := by omega
    have h6 : (2 ^ 63 - 1 : Int) / 100000 ≤ (2 ^ 63 - 1) / n := by
      rw [Int.le_ediv_iff_mul_le (by omega)]
      have h7 : (2 ^ 63 - 1 : Int) / 100000 * n ≤ (2 ^ 63 - 1 : Int) / 100000 * 100000 := Int.mul_le_mul_of_nonneg_left h5 (by decide)
      have h8 : (2 ^ 63 - 1 : Int) / 100000 * 100000 ≤ 2 ^ 63 - 1 := by decide
      omega
    have h9 : (100000 : Int) ≤ (2 ^ 63 - 1 : Int) / 100000 := by decide
    omega
  · unfold PySem.Builtin.Str.tooLong
    rw [Int.toNat_natCast]
    exact decide_eq_false (by have := Nat.le_trans hl (show 100000 ≤ sizeLine by decide); omega)
  · rw [if_neg hnn, e1, if_neg Bool.false_ne_true]
    refine ⟨?_, ⟨.str _, H, I.tok _, ⟨_, by rw [Int.toNat_natCast]⟩, q⟩⟩
    rw [Int.toNat_natCast]
    refine Nat.le_trans (Nat.le_trans (Nat.le_of_eq ?_) hl) (show 100000 ≤ sizeLine by decide)
    show ((List.replicate n z.cps).foldl (· ++ ·) #[]).size = z.length * n
    rw [rep_size]
    simp
    rfl
end

end TS

set_option maxHeartbeats 2000000
/-! ### 11. try with a clause of two classes; the exception caught may be handed on to a def -/
namespace TS
open PySem PySem.Spec PyProof.Rows L2
abbrev Clause2 := List Value × Option Nat × (Addr → Value → Option Addr → TS)
/-- one class: its own answer; two: either -/
def exmL (K : PySem.W.Frag) (cls : Value) : List Value → Option Bool
  | [c] => PySem.W.exmOne K cls c
  | l => PySem.W.exmAny K cls l
def wClauses2 (K : PySem.W.Frag) (D : Ends) : List Clause2 → WX
  | [] => fun _ _ _ _ => False
  | (cs, some i, ts) :: r => fun cls d σ H => ∃ b, exmL K cls cs = some b ∧ (b = true → ∀ a, H a = none → ts a cls d (Ends.drop D i) (σ.set i (some (.ref a))) H) ∧ (b = false → wClauses2 K D r cls d σ H)
  | (cs, none, ts) :: r => fun cls d σ H => ∃ b, exmL K cls cs = some b ∧ (b = true → ∀ a, H a = none → ts a cls d D σ H) ∧ (b = false → wClauses2 K D r cls d σ H)
/-- in the suite the exception lies outside the base, too -/
abbrev SuiteOk2 (X : Cx) (st : List Stmt) (ts : Addr → Value → Option Addr → TS) : Prop :=
  ∀ (a : Addr) (oe : Obj) (cls : Value) (d : Option Addr) (pn : List (Addr × Obj)), X.base.get? a = none → Zc cls d oe → (∃ vs, oe.data = .fields vs) → PSs (X.suite a ((a, oe) :: pn)) st (ts a cls d)
/-- the test of a clause -/
inductive TestOk (X : Cx) : Expr → List Value → Prop
  | one {x : Str} {c : Value} {np : Pos} (hc : Names X x c) : TestOk X (.Name x np) [c]
  | two {x y : Str} {c e : Value} {np mp tp : Pos} {kk : Nat} (hc : Names X x c) (he : Names X y e) : TestOk X (.Tuple [.Name x np, .Name y mp] kk tp) [c, e]
inductive ClausesOk2 (X : Cx) : List ExceptHandler → List Clause2 → Prop
  | stop {l : List ExceptHandler} : ClausesOk2 X l []
  | as_ {t : Expr} {n : Str} {i : Nat} {cs : List Value} {ts : Addr → Value → Option Addr → TS} {b₀ : Stmt} {suite : List Stmt} {pp : Pos} {l : List ExceptHandler} {r : List Clause2} (hi : X.N[i]? = some n) (hln : X.env.kindOf n = some .local) (hc : TestOk X t cs)
      (hsu : SuiteOk2 X (b₀ :: suite) ts) (tl : ClausesOk2 X l r) : ClausesOk2 X (.ExceptHandler (some t) (some n) (b₀ :: suite) pp :: l) ((cs, some i, ts) :: r)
  | only {t : Expr} {cs : List Value} {ts : Addr → Value → Option Addr → TS} {b₀ : Stmt} {suite : List Stmt} {pp : Pos} {l : List ExceptHandler} {r : List Clause2} (hc : TestOk X t cs)
      (hsu : SuiteOk2 X (b₀ :: suite) ts) (tl : ClausesOk2 X l r) : ClausesOk2 X (.ExceptHandler (some t) none (b₀ :: suite) pp :: l) ((cs, none, ts) :: r)
theorem flying_push {B : Heap} {l : List Env} {a : Addr} {Z : Obj → Prop} {h h' : Heap} (k : ∀ b o, h.get? b = some o → h'.get? b = some o) (f : HandSPX.FlyingZ B l a Z h) : HandSPX.FlyingZ B l a Z h' := by
  obtain ⟨k1, k2, k3, oe, vs, T, oT, ts, e1, z, d1, t1, bT, nT, e2, d2, q⟩ := f
  exact ⟨fun b o e => k b o (k1 b o e), k2, Heap.FunFrames.of_keeps (fun b o e _ => ⟨o, k b o e, rfl⟩) k3, oe, vs, T, oT, ts, k _ _ e1, z, d1, t1, bT, nT, k _ _ e2, d2, q⟩
section
variable {X : Cx} {body : List Stmt} {h₀ : ExceptHandler} {hs' : List ExceptHandler} {cl : List Clause2} {pos : Pos} {tb : WX → TS}
theorem ps_try2 (stk : X.stack = X.env :: X.outer) (frm : X.env.frame = some X.env.locals) (nod : X.N.Nodup)
    (bod : ∀ (W : WX) (pn : List (Addr × Obj)) (xe : Value → Shared → Prop), Takes (X.tr pn xe) W → PassesOwn (model X.prog X.w) X.A X.env xe → PSs (X.tr pn xe) body (tb W))
    (cls' : ClausesOk2 X (h₀ :: hs') cl) : PS X (.Try body (h₀ :: hs') [] [] pos) (fun D σ H => tb (wClauses2 X.K D cl) D σ H) := by
  refine ⟨fun pins s σ H D J rd => ?_⟩
  have xok := J.ok
  have afr : X.A.frames = some (X.env :: X.outer) := by rw [xok.frames, stk]
  refine wpAny_Try_except ?_
  refine wpAny_mono ((bod (wClauses2 X.K D cl) (X.pn ++ pins) (fun u t1 => wpAny (model X.prog X.w) X.A (noteFrame u X.env) (fun _ t2 => wpAny (model X.prog X.w) X.A (setFlight u none) (fun _ t3 =>
    wpAny (model X.prog X.w) X.A (handleBy u X.env (h₀ :: hs')) (SP X pins D) X.xe t3) X.xe t2) X.xe t1) (fun u t air => ?_) PassesOwn.looking).run [] s σ H D (J.toTry _) rd) (fun fl t1 sp => ?_) (fun u t1 z => z)
  · obtain ⟨a, gr, sA, pins', σ', H', cls, d, rfl, J', ngr, up, sky, na, os, ag, wish⟩ := air
    have J1 : Inv X pins σ' H' sA := J'.ofTry xok
    have sky1 : Sky gr (X.env :: X.outer) a (Zc cls d) X.env.locals t.heap := by rw [← stk]; exact sky
    show wpAny (model X.prog X.w) X.A (noteFrame (.ref a) X.env) _ _ _
    refine Sky.land Zc.steady afr frm sky1 fun h3 fl3 up3 => ?_
    have bna : X.base.get? a = none := by
      cases e : X.base.get? a with
      | none => rfl
      | some o =>
        have g0 := J1.bk a o e
        have nf : a ∉ frs X.stack := fun m => by
          have := (J1.stack.mem m).1
          rw [e] at this; cases this
        have g1 := ngr a o g0 nf
        rw [fl3.2.1] at g1; cases g1
    have go : ∀ {l : List ExceptHandler} {r : List Clause2}, ClausesOk2 X l r → wClauses2 X.K D r cls d σ' H' → ∀ h3 : Heap, HandSPX.FlyingZ gr (X.env :: X.outer) a (Zc cls d) h3 → sA.heap.UpToSlots h3 →
        wpAny (model X.prog X.w) X.A (handleBy (.ref a) X.env l) (SP X pins D) X.xe { t with heap := h3 } := by
      intro l r ck
      induction ck with
      | stop => intro w; exact False.elim w
      | @as_ te n i cs ts b₀ suite pp l r hi hln hc hsu t2 ih =>
        intro w h3 fl3 up3
        obtain ⟨b, eb, yes, no⟩ := w
        have J3 : Inv X pins σ' H' { t with heap := h3 } := J1.landed ngr fl3.1 up3 os ag
        obtain ⟨oe3, vs3, get3, zc3, dat3⟩ := fl3.there
        have offA : a ∉ frs (X.env :: X.outer) := fun m => by
          obtain ⟨_, o', g', nf⟩ := fl3.2.2.1.mem m
          rw [get3] at g'; cases g'
          exact nf _ dat3
        have neL : a ≠ X.env.locals := fun z => offA (List.mem_filterMap.mpr ⟨X.env, List.mem_cons_self, by rw [frm, z]⟩)
        have neF : a ∉ X.fs := fun m => by
          obtain ⟨en, me, q⟩ := List.mem_filterMap.mp m
          exact offA (List.mem_filterMap.mpr ⟨en, List.mem_cons_of_mem _ me, q⟩)
        have S3 := J3.suite get3 dat3 na neL neF
        have ld : ∀ {x : Str} {c : Value} {np : Pos}, Names X x c → ∀ {Q : Value → Shared → Prop} {E : Value → Shared → Prop}, Q c { t with heap := h3 } → wpAny (model X.prog X.w) (X.A.mark (some (.ref a))) (eval (.Name x np) X.env) Q E { t with heap := h3 } := fun {x c np} nm {Q E} q => by
          obtain ⟨g, db, m | ⟨m, v, nn⟩⟩ := nm
          · exact ld_glob (X := X.suite a ((a, oe3) :: (X.pn ++ pins))) S3 g m q db
          · exact ld_blt (X := X.suite a ((a, oe3) :: (X.pn ++ pins))) S3 g m v q nn db
        have LT : PySem.W.Looks (model X.prog X.w) h3 (typeOf (.ref a)) cls := fun A Q E s k q => wpAny_typeOf_ref (k _ _ get3) (by rw [zc3.1]; exact q)
        refine wpAny_handleBy_cons (codeAny_handlers_test ?_) (by intro q; cases q)
        have test : ∀ {Q : Bool → Shared → Prop} {E : Value → Shared → Prop}, (∀ h4 : Heap, HandSPX.FlyingZ gr (X.env :: X.outer) a (Zc cls d) h4 → sA.heap.UpToSlots h4 → Q b { t with heap := h4 }) →
            wpAny (model X.prog X.w) (X.A.mark (some (.ref a))) (eval te X.env) (fun c s1 => wpAny (model X.prog X.w) (X.A.mark (some (.ref a))) (excMatches (.ref a) c) Q E s1) E { t with heap := h3 } := by
          intro Q E q
          cases hc with
          | one hc => exact ld hc ((PySem.W.exm_one (M := model X.prog X.w) J3.kIn LT eb).here (q h3 fl3 up3))
          | @two x y c e np mp tp kk hc he =>
            refine wpAny_Tuple (wpAny_items_cons (ld hc (wpAny_items_cons (ld he (wpAny_items_nil ⟨by show 2 ≤ sizeLine; decide, ?_⟩)))))
            have kp : ∀ q o, h3.get? q = some o → (h3.push { cls := .type "tuple", data := .seq [c, e].toArray }).get? q = some o := fun _ _ z => Heap.get?_push_of_some _ z
            refine (PySem.W.exm_tup2 (M := model X.prog X.w) (J3.kIn.keeps kp) (LT.keeps kp) (Heap.get?_push_size h3 rfl) eb).here (q _ (flying_push kp fl3) (up3.trans fun b o g _ => ⟨o.slots, kp b o g⟩))
        refine test fun h5 fl5 up5 => ?_
        cases b with
        | false =>
          show wpAny _ X.A (handleBy (.ref a) X.env l) _ _ _
          exact ih (no rfl) h5 fl5 up5
        | true =>
          refine codeAny_handlers_suite_as ?_
          refine HandSPX.lands_againZ fl5 fun h4 fl4 up4 => ?_
          have J4 : Inv X pins σ' H' { t with heap := h4 } := J1.landed ngr fl4.1 (up5.trans up4) os ag
          obtain ⟨oe4, vs4, get4, zc4, dat4⟩ := fl4.there
          have S4 := J4.suite get4 dat4 na neL neF
          refine store_ok (X := X.suite a ((a, oe4) :: (X.pn ++ pins))) (v := .ref a) S4 nod hi (.inl hln) rfl (fun t5 S5 => ?_) (.inr hln)
          refine wpAny_mono ((hsu a oe4 cls d (X.pn ++ pins) bna zc4 ⟨_, dat4⟩).run [] t5 _ H' _ S5 (yes rfl a na)) (fun fl t6 sp => ?_) (fun _ _ z => False.elim z)
          have un : ∀ {σ6 : L2.St} {H6 : Hp} {Q : Shared → Prop}, Inv (X.suite a ((a, oe4) :: (X.pn ++ pins))) [] σ6 H6 t6 → (∀ t7, Inv X pins (σ6.set i none) H6 t7 → Q t7) →
              wpAny (model X.prog X.w) X.A (do bindName X.env n .none; unbindBehindTheSuite X.env n pp) (fun _ t7 => Q t7) X.xe t6 := fun {σ6 H6 Q} S6 q => gone_ok (S6.unsuite xok) nod hi hln q
          cases fl with
          | next => exact let ⟨_, _, S6, q6⟩ := sp; un S6 fun t7 J7 => ⟨_, _, J7, q6⟩
          | brk => exact let ⟨_, _, S6, q6⟩ := sp; un S6 fun t7 J7 => ⟨_, _, J7, q6⟩
          | cont => exact let ⟨_, _, S6, q6⟩ := sp; un S6 fun t7 J7 => ⟨_, _, J7, q6⟩
          | ret u => exact let ⟨_, _, _, S6, r6, q6⟩ := sp; un S6 fun t7 J7 => ⟨_, _, _, J7, r6, q6⟩
      | @only te cs ts b₀ suite pp l r hc hsu t2 ih =>
        intro w h3 fl3 up3
        obtain ⟨b, eb, yes, no⟩ := w
        have J3 : Inv X pins σ' H' { t with heap := h3 } := J1.landed ngr fl3.1 up3 os ag
        obtain ⟨oe3, vs3, get3, zc3, dat3⟩ := fl3.there
        have offA : a ∉ frs (X.env :: X.outer) := fun m => by
          obtain ⟨_, o', g', nf⟩ := fl3.2.2.1.mem m
          rw [get3] at g'; cases g'
          exact nf _ dat3
        have neL : a ≠ X.env.locals := fun z => offA (List.mem_filterMap.mpr ⟨X.env, List.mem_cons_self, by rw [frm, z]⟩)
        have neF : a ∉ X.fs := fun m => by
          obtain ⟨en, me, q⟩ := List.mem_filterMap.mp m
          exact offA (List.mem_filterMap.mpr ⟨en, List.mem_cons_of_mem _ me, q⟩)
        have S3 := J3.suite get3 dat3 na neL neF
        have ld : ∀ {x : Str} {c : Value} {np : Pos}, Names X x c → ∀ {Q : Value → Shared → Prop} {E : Value → Shared → Prop}, Q c { t with heap := h3 } → wpAny (model X.prog X.w) (X.A.mark (some (.ref a))) (eval (.Name x np) X.env) Q E { t with heap := h3 } := fun {x c np} nm {Q E} q => by
          obtain ⟨g, db, m | ⟨m, v, nn⟩⟩ := nm
          · exact ld_glob (X := X.suite a ((a, oe3) :: (X.pn ++ pins))) S3 g m q db
          · exact ld_blt (X := X.suite a ((a, oe3) :: (X.pn ++ pins))) S3 g m v q nn db
        have LT : PySem.W.Looks (model X.prog X.w) h3 (typeOf (.ref a)) cls := fun A Q E s k q => wpAny_typeOf_ref (k _ _ get3) (by rw [zc3.1]; exact q)
        refine wpAny_handleBy_cons (codeAny_handlers_test ?_) (by intro q; cases q)
        have test : ∀ {Q : Bool → Shared → Prop} {E : Value → Shared → Prop}, (∀ h4 : Heap, HandSPX.FlyingZ gr (X.env :: X.outer) a (Zc cls d) h4 → sA.heap.UpToSlots h4 → Q b { t with heap := h4 }) →
            wpAny (model X.prog X.w) (X.A.mark (some (.ref a))) (eval te X.env) (fun c s1 => wpAny (model X.prog X.w) (X.A.mark (some (.ref a))) (excMatches (.ref a) c) Q E s1) E { t with heap := h3 } := by
          intro Q E q
          cases hc with
          | one hc => exact ld hc ((PySem.W.exm_one (M := model X.prog X.w) J3.kIn LT eb).here (q h3 fl3 up3))
          | @two x y c e np mp tp kk hc he =>
            refine wpAny_Tuple (wpAny_items_cons (ld hc (wpAny_items_cons (ld he (wpAny_items_nil ⟨by show 2 ≤ sizeLine; decide, ?_⟩)))))
            have kp : ∀ q o, h3.get? q = some o → (h3.push { cls := .type "tuple", data := .seq [c, e].toArray }).get? q = some o := fun _ _ z => Heap.get?_push_of_some _ z
            refine (PySem.W.exm_tup2 (M := model X.prog X.w) (J3.kIn.keeps kp) (LT.keeps kp) (Heap.get?_push_size h3 rfl) eb).here (q _ (flying_push kp fl3) (up3.trans fun b o g _ => ⟨o.slots, kp b o g⟩))
        refine test fun h5 fl5 up5 => ?_
        cases b with
        | false =>
          show wpAny _ X.A (handleBy (.ref a) X.env l) _ _ _
          exact ih (no rfl) h5 fl5 up5
        | true =>
          refine codeAny_handlers_suite ?_
          refine HandSPX.lands_againZ fl5 fun h4 fl4 up4 => ?_
          have J4 : Inv X pins σ' H' { t with heap := h4 } := J1.landed ngr fl4.1 (up5.trans up4) os ag
          obtain ⟨oe4, vs4, get4, zc4, dat4⟩ := fl4.there
          have S4 := J4.suite get4 dat4 na neL neF
          refine wpAny_mono ((hsu a oe4 cls d (X.pn ++ pins) bna zc4 ⟨_, dat4⟩).run [] _ _ H' _ S4 (yes rfl a na)) (fun fl t6 sp => ?_) (fun _ _ z => False.elim z)
          cases fl with
          | next => exact let ⟨_, _, S6, q6⟩ := sp; ⟨_, _, S6.unsuite xok, q6⟩
          | brk => exact let ⟨_, _, S6, q6⟩ := sp; ⟨_, _, S6.unsuite xok, q6⟩
          | cont => exact let ⟨_, _, S6, q6⟩ := sp; ⟨_, _, S6.unsuite xok, q6⟩
          | ret u => exact let ⟨_, _, _, S6, r6, q6⟩ := sp; ⟨_, _, _, S6.unsuite xok, r6, q6⟩
    exact go cls' wish h3 fl3 (up.trans up3)
  · cases fl with
    | next => exact let ⟨σ', H', J', q⟩ := sp; wpAny_execs_nil ⟨σ', H', J'.ofTry xok, q⟩
    | brk => exact let ⟨σ', H', J', q⟩ := sp; ⟨σ', H', J'.ofTry xok, q⟩
    | cont => exact let ⟨σ', H', J', q⟩ := sp; ⟨σ', H', J'.ofTry xok, q⟩
    | ret u => exact let ⟨v, σ', H', J', r, q⟩ := sp; ⟨v, σ', H', J'.ofTry xok, r, q⟩
end
/-! the exception handed to a def -/
def exE (a : Addr) (oe : Obj) : HO := .ext fun h => h.get? a = some oe
/-- C's instances, asked by isinstance -/
def exI (K : PySem.W.Frag) (C : Addr) : Bool := (PySem.W.clsIn K C).isSome && (PySem.W.findIn K (.ref C) "__getattribute__" == some (some (.builtin "BaseException.__getattribute__")) && (PySem.W.findIn K (.ref C) "__getattr__" == some none && (PySem.W.subIn K (.ref C) (.type "BaseException") == some true &&
  (PySem.W.findIn K (.ref C) "__class__" == some (some (.builtin "object.__class__")) && (PySem.W.specialIn K (.builtin "object.__class__") "__get__" == some (some (.builtin "getset_descriptor.__get__")) && (PySem.W.takesIn K (.builtin "object.__class__") == some true && PySem.W.mroIn K C (.type "object") == some true))))))
/-- isinstance(e, c), e handed on -/
def rIsX (K : PySem.W.Frag) : List V → Hp → VK → Prop := fun xs H Q => ∃ (a D dx : Addr) (oe : Obj) (fs : List (Str × V)) (c : V) (cv : Value) (b : Bool), xs = [.ref a, c] ∧ H a = some (exE a oe) ∧ Zc (.ref D) (some dx) oe ∧ (∃ vs, oe.data = .fields vs) ∧ H dx = some (.xd fs) ∧ exI K D = true ∧ (∀ u, RelV c u → u = cv) ∧ PySem.W.kitOne K (.ref D) cv = some b ∧ Q (.bl b) H
theorem call_isX {X : Cx} {K : PySem.W.Frag} (hK : X.K = K) : CallR X (.builtin "isinstance") (rIsX K) := by
  subst hK
  intro pins s σ H xs us Q I r h
  obtain ⟨a, D, dx, oe, fs, c, cv, b, rfl, he, hz, hf, hdx, hi, hcv, e, q⟩ := h
  cases r with
  | cons rx rr =>
    cases rr with
    | cons rt rr =>
      cases rr
      cases rx
      have ec := hcv _ rt
      subst ec
      obtain ⟨hget, _⟩ := (show ObjOk X.prog X.w H s.heap a (.ext fun h => h.get? a = some oe) from I.hok a _ he)
      obtain ⟨vs, hv⟩ := hf
      obtain ⟨od, hod⟩ : ∃ od, s.heap.get? dx = some od := by
        cases g : s.heap.get? dx with
        | some o => exact ⟨o, rfl⟩
        | none =>
          have := I.hok.gone g
          rw [hdx] at this; cases this
      have J : PySem.W.InstAt s.heap a oe D (some od) := by
        obtain ⟨oc, odi, oda, osl⟩ := oe
        obtain ⟨h1, h2⟩ := hz
        dsimp only at h1 h2 hv
        subst h1 h2 hv
        exact ⟨hget, rfl, rfl, hod⟩
      simp only [exI, Bool.and_eq_true, beq_iff_eq] at hi
      obtain ⟨i1, i2, i3, i4, i5, i6, i7, i8⟩ := hi
      exact PySem.W.kia_one (PySem.W.kitx_exc i1 i2 i3 i4 i5 i6 i7 i8) I.kIn J e (fun z => nomatch z) fun tk => ⟨.bl b, H, I.kept (t' := tk) fun _ _ z => z, rfl, q⟩
/-- f(e), e the exception of the suite: the def sees its object -/
theorem un_back {fs : List Addr} {H H' : Hp} {h h' : Heap} {a : Addr} {oe : Obj} (hn : H a = none) (ha : H' a = some (exE a oe)) (g : h.get? a = some oe) (g' : h'.get? a = some oe) (u : Un fs [] (upd H a (exE a oe)) H' h h') : Un fs [] H (ItX.dropH H' a) h h' where
  keep := fun b o e n hb hx => by
    by_cases z : b = a
    · rw [z] at e ⊢; rw [g] at e; cases e; exact g'
    · exact u.keep b o e (by rw [upd_ne z]; exact n) hb hx
  slot := fun b o e n hb hx => by
    by_cases z : b = a
    · rw [z] at e ⊢; rw [g] at e; cases e; exact ⟨oe.slots, g'⟩
    · exact u.slot b o e (by rw [upd_ne z]; exact n) hb hx
  free := fun b o e n hx => by
    by_cases z : b = a
    · rw [z, ItX.dropH_same]
    · rw [ItX.dropH_ne z]; exact u.free b o e (by rw [upd_ne z]; exact n) hx
  there := fun b o e hx => u.there b o e hx
  tups := fun b xs e => by
    have z : b ≠ a := ne_of_none e hn
    rw [ItX.dropH_ne z]; exact u.tups b xs (by rw [upd_ne z]; exact e)
  frzs := fun b o xs e => by
    have z : b ≠ a := ne_of_none e hn
    rw [ItX.dropH_ne z]; exact u.frzs b o xs (by rw [upd_ne z]; exact e)
  tbls := fun b ps e => by
    have z : b ≠ a := ne_of_none e hn
    rw [ItX.dropH_ne z]; exact u.tbls b ps (by rw [upd_ne z]; exact e)
theorem hok_drop {P : Program} {w : World} {H : Hp} {h : Heap} {a : Addr} {oe : Obj} (ha : H a = some (exE a oe)) (x : HOk P w H h) : HOk P w (ItX.dropH H a) h := fun b u e => by
  have hb : b ≠ a := fun z => by
    rw [z, ItX.dropH_same] at e
    cases e
  rw [ItX.dropH_ne hb] at e
  have other : ∀ c u, H c = some u → (∀ ψ, u ≠ .ext ψ) → ItX.dropH H a c = some u := fun c u e n => by
    have hc : c ≠ a := fun z => by
      rw [z, ha] at e
      exact n _ (Option.some.inj e).symm
    rw [ItX.dropH_ne hc]
    exact e
  exact (x b u e).stay (fun _ _ _ z => z) (fun c z => other c _ z fun _ w => (nomatch w)) fun c xs z => other c _ z fun _ w => (nomatch w)
def tGive (sp : Sp) (a : Addr) (oe : Obj) (t : TA) : TE := fun σ H Q => t σ H fun vs H1 => H1 a = none ∧ sp vs (upd H1 a (exE a oe)) (fun v H' => H' a = some (exE a oe) ∧ Q v (ItX.dropH H' a)) fun _ _ _ => False
section
variable {X : Cx} {k : Nat} {ps : List Str} {sp : Sp} {x : Str} {p pos : Pos} {e : Expr} {es : List Expr} {t : TA} {a : Addr} {oe : Obj}
theorem env_give {pins : List (Addr × Obj)} {σ : L2.St} {H : Hp} {s : Shared} (I : Inv X pins σ H s) (mem : (a, oe) ∈ X.pn) (bna : X.base.get? a = none) : Env0 X.prog X.w X.K X.mg X.base X.A X.stack s (upd H a (exE a oe)) := by
  obtain ⟨g, n, nL, nF, _⟩ := I.pin (a, oe) (List.mem_append_left _ mem)
  have e0 := I.env0
  refine ⟨e0.frames, e0.mod, fun b o q => ⟨(e0.bs b o q).1, ?_⟩, e0.bsz, e0.funs, fun b hb => ?_, ?_, e0.bare⟩
  · rw [upd_ne (fun z => by rw [z, bna] at q; cases q)]
    exact (e0.bs b o q).2
  · have hne : b ≠ a := fun z => by
      rcases List.mem_cons.mp (I.stkSub b hb) with q | q
      · exact nL (z ▸ q)
      · exact nF (z ▸ q)
    rw [upd_ne hne]
    exact e0.frf b hb
  · exact e0.hok.laidN (fun _ _ z => z) n ⟨g, ⟨oe, g⟩, fun h1 h2 q k => k _ q⟩
theorem pe_give (mem : (a, oe) ∈ X.pn) (bna : X.base.get? a = none) (pr : Prom X.prog X.w X.K X.mg X.base k x ps sp) (hr : Room k X.A) (hg : Gl X x) (ha : PA X (e :: es) t) (hdb : (x == ("__debug__" : Str)) = false := by decide)
    (he : starEach (e :: es) X.env = (false, eval e X.env) :: starEach es X.env := by rfl) (hpl : (backTo pos (starEach es X.env)).any (·.1) = false := by rfl) :
    PE X (.Call (.Name x p) (e :: es) [] pos) (tGive sp a oe t) := by
  obtain ⟨f, fd, F, hm, hk, hb⟩ := pr
  refine ⟨fun pins s σ H Q I h => ?_⟩
  refine wpAny_Call_Name_kw (ld_glob I hg hm ?_ hdb)
  refine PySem.W.callWith_K (h₀ := X.base) I.ok.mod.kin hk (thn (ha.run pos pins s σ H _ I h) fun us s1 ⟨vs, H1, I1, r, n1, q⟩ => ⟨I1.kIn, ?_⟩) he hpl
  have hl : us.length = ps.length := by rw [← r.length]; exact F.len _ _ _ _ q
  have b := hb s1 us I1.kIn (by rw [List.append_nil]; exact hl)
  rw [List.append_nil] at b
  obtain ⟨g, n, _, _, _⟩ := I1.pin (a, oe) (List.mem_append_left _ mem)
  refine wpAny_call (codeAny_mono (F.run X.A X.stack s1 _ ⟨us, []⟩ us vs _ _ hr (env_give I1 mem bna) b r q) fun o t z => ?_)
  match o, z with
  | .error e, z => exact False.elim z
  | .ok (.ret u), z =>
    obtain ⟨v, H', os, bare, un, hok, rv, ea, q2⟩ := z
    obtain ⟨g', _⟩ := (show ObjOk X.prog X.w H' t.heap a (.ext fun h => h.get? a = some oe) from hok a _ ea)
    exact I1.after ⟨v, _, os, bare, un_back n ea g g' un, hok_drop ea hok, rv, q2⟩
end
end TS

set_option maxHeartbeats 2000000
/-! ### 41. order of pairs of a text and a number; zip with K named; defs with keyword-only parameters called in several ways -/
namespace TS
open PySem PySem.Spec PyProof.Rows L2
def ltSI (x : Str) (i : Int) (y : Str) (j : Int) : Bool := if x = y then decide (i < j) else decide (x.cps.toList < y.cps.toList)
def rOrd (K : PySem.W.Frag) (f : Str → Int → Str → Int → Bool) : R2 := fun x y H Q => ∃ (a b : Addr) (s : Str) (i : Int) (t : Str) (j : Int), x = .ref a ∧ y = .ref b ∧ SqT K H a [.str s, .int i] ∧ SqT K H b [.str t, .int j] ∧ Q (.bl (f s i t j)) H
section
variable {X : Cx} {K : PySem.W.Frag}
theorem vals2 {x y : V} {us : List Value} (r : Vals [x, y] us) : ∃ u v, us = [u, v] ∧ RelV x u ∧ RelV y v := by
  cases r with
  | cons r1 rr =>
    cases rr with
    | cons r2 rr =>
      cases rr
      exact ⟨_, _, rfl, r1, r2⟩
theorem beq_dec {α : Type} [DecidableEq α] [BEq α] [LawfulBEq α] (a b : α) : (a == b) = decide (a = b) := by
  by_cases h : a = b
  · rw [decide_eq_true h]; exact beq_iff_eq.mpr h
  · rw [decide_eq_false h]; exact beq_eq_false_iff_ne.mpr h
theorem op_ltSI (hK : X.K = K) (hu : X.A.units < cLine) : OpR X (compareOp .Lt) (rOrd K ltSI) := by
  subst hK
  intro pins s σ H x y v u Q I rx ry h
  obtain ⟨a, b, x1, i, x2, j, rfl, rfl, ha, hb, q⟩ := h
  cases rx
  cases ry
  obtain ⟨its, r1, p1, _⟩ := I.tuple ha
  obtain ⟨its2, r2, p2, _⟩ := I.tuple hb
  obtain ⟨u1, u2, rfl, ⟨t1, rfl⟩, ⟨t2, rfl⟩⟩ := vals2 r1
  obtain ⟨w1, w2, rfl, ⟨t3, rfl⟩, ⟨t4, rfl⟩⟩ := vals2 r2
  have R := Ob.RcOp.tuples_lt (A := X.A) (s := s) (e := fun n => match n with | 0 => decide (x1 = x2) | _ => decide (i = j)) (r := fun n => match n with | 0 => decide (x1.cps.toList < x2.cps.toList) | _ => decide (i < j)) p1 p2 hu (fun n h1 h2 => by
    match n, h1 with
    | 0, _ => show SeqAt.EqAt _ _ (.str x1 t1) (.str x2 t3) (decide (x1 = x2)); rw [← beq_dec]; exact SeqAt.EqAt.str_str _ _ _ _
    | 1, _ => show SeqAt.EqAt _ _ (.int i t2) (.int j t4) (decide (i = j)); rw [← beq_dec]; exact SeqAt.EqAt.int_int _ _ _ _
    | n + 2, h1 => exact absurd h1 (by simp)) (fun n h1 h2 _ => by
    match n, h1 with
    | 0, _ => exact fun _ _ _ _ h => PyProof.Rows.lt_str h
    | 1, _ => exact Ob.RcOp.lt_int _ _ _ _
    | n + 2, h1 => exact absurd h1 (by simp))
  have e : Ob.lexAt (fun n => match n with | 0 => decide (x1 = x2) | _ => decide (i = j)) (fun n => match n with | 0 => decide (x1.cps.toList < x2.cps.toList) | _ => decide (i < j)) (decide ((2 : Nat) < 2)) 0 2 = ltSI x1 i x2 j := by
    show (if decide (x1 = x2) = true then (if decide (i = j) = true then decide ((2 : Nat) < 2) else decide (i < j)) else decide (x1.cps.toList < x2.cps.toList)) = _
    unfold ltSI
    by_cases h1 : x1 = x2
    · rw [if_pos (decide_eq_true h1), if_pos h1]
      by_cases h2 : i = j
      · rw [if_pos (decide_eq_true h2)]
        rw [decide_eq_false (show ¬ i < j by omega)]
        rfl
      · rw [if_neg (by simpa using h2)]
    · rw [if_neg (by simpa using h1), if_neg h1]
  have R2 : Ob.RcOp .Lt X.A s (.ref a) (.ref b) (ltSI x1 i x2 j) := by
    rw [← e]
    exact R
  exact R2 X.prog X.w X.xe (EP X pins σ Q) ⟨.bl _, H, I, rfl, q⟩
def gtSI (x : Str) (i : Int) (y : Str) (j : Int) : Bool := if x = y then decide (j < i) else decide (y.cps.toList < x.cps.toList)
theorem op_gtSI (hK : X.K = K) (hu : X.A.units < cLine) : OpR X (compareOp .Gt) (rOrd K gtSI) := by
  subst hK
  intro pins s σ H x y v u Q I rx ry h
  obtain ⟨a, b, x1, i, x2, j, rfl, rfl, ha, hb, q⟩ := h
  cases rx
  cases ry
  obtain ⟨its, r1, p1, _⟩ := I.tuple ha
  obtain ⟨its2, r2, p2, _⟩ := I.tuple hb
  obtain ⟨u1, u2, rfl, ⟨t1, rfl⟩, ⟨t2, rfl⟩⟩ := vals2 r1
  obtain ⟨w1, w2, rfl, ⟨t3, rfl⟩, ⟨t4, rfl⟩⟩ := vals2 r2
  have R := Ob.RcOp.tuples_gt (A := X.A) (s := s) (e := fun n => match n with | 0 => decide (x1 = x2) | _ => decide (i = j)) (r := fun n => match n with | 0 => decide (x2.cps.toList < x1.cps.toList) | _ => decide (j < i)) p1 p2 hu (fun n h1 h2 => by
    match n, h1 with
    | 0, _ => show SeqAt.EqAt _ _ (.str x1 t1) (.str x2 t3) (decide (x1 = x2)); rw [← beq_dec]; exact SeqAt.EqAt.str_str _ _ _ _
    | 1, _ => show SeqAt.EqAt _ _ (.int i t2) (.int j t4) (decide (i = j)); rw [← beq_dec]; exact SeqAt.EqAt.int_int _ _ _ _
    | n + 2, h1 => exact absurd h1 (by simp)) (fun n h1 h2 _ => by
    match n, h1 with
    | 0, _ => exact fun _ _ _ _ h => PySem.P.gt_str h
    | 1, _ => exact Ob.RcOp.gt_int _ _ _ _
    | n + 2, h1 => exact absurd h1 (by simp))
  have e : Ob.lexAt (fun n => match n with | 0 => decide (x1 = x2) | _ => decide (i = j)) (fun n => match n with | 0 => decide (x2.cps.toList < x1.cps.toList) | _ => decide (j < i)) (decide ((2 : Nat) > 2)) 0 2 = gtSI x1 i x2 j := by
    show (if decide (x1 = x2) = true then (if decide (i = j) = true then decide ((2 : Nat) > 2) else decide (j < i)) else decide (x2.cps.toList < x1.cps.toList)) = _
    unfold gtSI
    by_cases h1 : x1 = x2
    · rw [if_pos (decide_eq_true h1), if_pos h1]
      by_cases h2 : i = j
      · rw [if_pos (decide_eq_true h2)]
        rw [decide_eq_false (show ¬ j < i by omega)]
        rfl
      · rw [if_neg (by simpa using h2)]
    · rw [if_neg (by simpa using h1), if_neg h1]
  have R2 : Ob.RcOp .Gt X.A s (.ref a) (.ref b) (gtSI x1 i x2 j) := by
    rw [← e]
    exact R
  exact R2 X.prog X.w X.xe (EP X pins σ Q) ⟨.bl _, H, I, rfl, q⟩
theorem pi_zipK {e e2 : Expr} {ta : TA} {p pos tpos : Pos} {elts : List Expr} {kk : Nat} (hK : X.K = K) (hg : Gl X "zip") (hm : X.mg "zip" = none) (ha : PA X [e, e2] ta)
    (hs : starEach [e, e2] X.env = (false, eval e X.env) :: starEach [e2] X.env := by rfl) (hpl : (backTo pos (starEach [e2] X.env)).any (·.1) = false := by rfl) :
    PI X (.Tuple elts kk tpos) (.Call (.Name "zip" p) [e, e2] [] pos) (iZip K ta) := by subst hK; exact pi_zip hg hm ha hs hpl
/-- s.index(y), y being in s -/
theorem mt_index0 : MtR X "str.index" (fun x xs H Q => ∃ (a b : Str) (k : Nat), x = .str a ∧ xs = [.str b] ∧ Txt.index0 a b = some k ∧ Q (.int (k : Nat)) H) := by
  intro pins s σ H x xs v us Q I rx rs h
  obtain ⟨a, b, k, rfl, rfl, hy, hq⟩ := h
  obtain ⟨t, rfl⟩ := rx
  cases rs with
  | cons r1 rs =>
    cases rs
    obtain ⟨u, rfl⟩ := r1
    unfold Txt.index0 at hy
    cases q : Builtin.Str.occurrences a b 0 a.length 1 with
    | nil => rw [q] at hy; cases hy
    | cons k' rest =>
      rw [q] at hy
      have ek : k' = k := Option.some.inj hy
      rw [← ek] at hq
      exact PySem.SC.index q ⟨.int (k' : Nat), H, I.tok _, ⟨_, rfl⟩, hq⟩
end
/-- a def with keyword-only parameters and its promise, however it is called -/
def FnK (P : Program) (w : World) (K : PySem.W.Frag) (mg : Str → Option Value) (base : Heap) (k : Nat) (x : Str) (st : Stmt) (ps : List Str) (sp : Sp) (kws : List (Str × V)) : Prop :=
  ∃ f fd, FunD K x x (defArgs st) (defBody st) (defScope st) [] kws f fd ∧ mg x = some (.ref f) ∧ FnOk P w K mg base CX0 k f fd ps sp
section
variable {P : Program} {w : World} {K : PySem.W.Frag} {mg : Str → Option Value} {base : Heap} {N ps ks : List Str} {k n : Nat} {sp : Sp} {x : Str} {st : Stmt} {kws : List (Str × V)}
theorem fnK_mk (D : DefK K mg x st kws) (S : FnScope N ps (defScope st)) (len : ∀ vs H Q E, sp vs H Q E → vs.length = ps.length)
    (body : ∀ (f : Addr) (cdv : Value) (A : Around) (outer : List Env) (s : Shared) (H : Hp) (vs : List V) (Q : VK) (E : XK), Room k (A.deeper (envOfC x (defScope st) s.heap.objs.size f cdv)) → sp vs H Q E →
      ∃ t, PSs (cxOf CX0 P w K mg base N x (defScope st) f cdv A outer s H E).nox (defBody st) t ∧ t { nx := fun _ H' => Q .non H', rt := Q } (start N vs) H) : FnK P w K mg base (k + 1) x st ps sp kws := by
  obtain ⟨f, fd, F, m⟩ := D
  refine ⟨f, fd, F, m, F.ok S len fun cdv A outer s H vs Q E hr h => ?_⟩
  obtain ⟨t, h1, h2⟩ := body f cdv A outer s H vs Q E hr h
  exact ⟨t, h1.nox, h2⟩
theorem FnK.call (h : FnK P w K mg base k x st ps sp kws) (n : Nat) (ks : List Str) (ms : List (Str × V)) (g : {α : Type} → List α → List α → List α → List α) (hk : kws ≠ []) (hms : ∀ q ∈ ms, q ∈ kws)
    (hrel : ∀ {vs mz zs : List V} {us mv ws : List Value}, Vals vs us → Vals mz mv → Vals zs ws → Vals (g vs mz zs) (g us mv ws))
    (hb : ∀ (D : Addr) (doc pm : Value) (an : Option Addr) (cdv ct : Value) (us mv ws : List Value), us.length = n → mv.length = ms.length → ws.length = ks.length →
      KwChain D ((ms.map (·.1)).zip mv) (bindArgs (PySem.W.fnOf x x (defArgs st) (defBody st) (defScope st) .none (.ref D) doc pm an cdv ct) ⟨us, ks.zip ws⟩) (ps.zip (g us mv ws))) :
    PromK P w K mg base k x ps sp n ks (fun vs zs => g vs (ms.map (·.2)) zs) := by
  obtain ⟨f, fd, F, m, o⟩ := h
  obtain ⟨mv, b⟩ := kbinds0 F n ks ms g hk hms hrel hb
  exact ⟨f, fd, _, o, m, F.kp, b⟩
end
section
variable {X : Cx} {k : Nat} {ps ks : List Str} {sp : Sp} {x : Str} {p pos : Pos} {kws : List Keyword} {tk : TA} {gV : List V → List V → List V}
/-- f(k = v, ..), no positional value -/
theorem pe_pcK0 (pr : PromK X.prog X.w X.K X.mg X.base k x ps sp 0 ks gV) (hr : Room k X.A) (hg : Gl X x) (hkw : PK X kws tk)
    (hall : (backToKw pos (keywordEach kws X.env)).all (·.1.isSome) = true := by rfl) (hks : (backToKw pos (keywordEach kws X.env)).filterMap (·.1) = ks := by rfl) (hdb : (x == ("__debug__" : Str)) = false := by decide)
    (hpl : ((backTo pos (starEach [] X.env)).any (·.1) || (backToKw pos (keywordEach kws X.env)).any (·.1.isNone)) = false := by rfl) :
    PE X (.Call (.Name x p) [] kws pos) (fun σ H Q => tk σ H fun zs H1 => zs.length = ks.length ∧ sp (gV [] zs) H1 Q E0) := by
  obtain ⟨f, fd, g, F, hm, kp, b⟩ := pr
  refine ⟨fun pins s σ H Q J h => wpAny_Call_Name_kw (ld_glob J hg hm ?_ hdb)⟩
  refine PySem.W.callWith_KW0 (h₀ := X.base) J.ok.mod.kin kp hall ?_ hpl
  refine thn (hkw.run pos pins s σ H _ J h) fun ws s2 ⟨zs, H2, J2, rz, l2, q2⟩ => ⟨J2.kIn, ?_⟩
  rw [hks]
  refine wpAny_call (codeAny_mono (F.run X.A X.stack s2 H2 ⟨[], ks.zip ws⟩ (g [] ws) (gV [] zs) Q E0 hr J2.env0 (b.to s2 [] ws J2.kIn rfl (rz.length.symm.trans l2)) (b.rel .nil rz) q2) fun o t z => ?_)
  match o, z with
  | .error e, z => exact pass0 pins σ H2 s2 e t J2 z
  | .ok (.ret u), z => exact J2.after z
end
end TS

set_option maxHeartbeats 2000000
/-! ### 42. ends of walks while an exception is handled -/
namespace TS
open PySem PySem.Spec PyProof.Rows L2
open HotX (HotAt raiseNew_hot)
section
variable {prog : Program} {w : World} {A : Around} {E : Value → Shared → Prop} {s : Shared} {x1 : Addr}
theorem hot_keep {h h' : Heap} (hot : HotAt A x1 h) (k : ∀ o, h.get? x1 = some o → h'.get? x1 = some o) : HotAt A x1 h' := let ⟨hh, o, vs, e, d, c⟩ := hot; ⟨hh, o, vs, k o e, d, c⟩
theorem nextOf_list_hot {it l : Addr} {i : Nat} {items : Array Value} {Q : Value → Shared → Prop} (hot : HotAt A x1 s.heap) (hne : x1 ≠ it) (hit : s.heap.IsListIter it l i) (hl : s.heap.IsList l items) (hx : items[i]? = none)
    (hE : ∀ h' e, Heap.ExtBut it s.heap h' → (∃ o, h'.get? e = some o ∧ o.cls = .type "StopIteration") → E (.ref e) { s with heap := h' }) : wpAny (model prog w) A (Builtin.SmallTypes.nextOf (.ref it)) Q E s := by
  obtain ⟨hh, o1, vs1, h1, d1, c1⟩ := hot
  obtain ⟨o, ho, hc, hd⟩ := id hit
  obtain ⟨ol, hol, _, nl, hdl⟩ := hl
  unfold Builtin.SmallTypes.nextOf
  refine wpAny_bind (wpAny_callSpecial?_slot (name := Str.ofString "__next__") hit.typeIs slot_listiter_next (wpAny_call_entry slot_listiter_next hit.typeIs entry_listiter_next ?_ (args_listiter_next _)))
  show wpAny _ _ (field (.ref it) 0 >>= _) _ _ s
  refine wpAny_bind (wpAny_field ho hd (x := .ref l) rfl ?_)
  show wpAny _ _ (if (Value.ref l == Value.none) = true then _ else _) _ _ s
  rw [if_neg (show ¬ ((Value.ref l == Value.none) = true) from Bool.false_ne_true)]
  show wpAny _ _ (field (.ref it) 1 >>= _) _ _ s
  refine wpAny_bind (wpAny_field ho hd (x := .int i 0) rfl ?_)
  show wpAny _ _ (seqItems? (.ref l) >>= _) _ _ s
  refine wpAny_bind (wpAny_seqItems hol hdl ?_)
  simp only [Int.toNat_natCast, hx]
  refine wpAny_bind (wpAny_rule (wpAny_bind (wpAny_setField ho hd (by simp) ?_)))
  show wpAny _ _ (newExc (.type "StopIteration") [] >>= _) _ _ _
  refine wpAny_bind ?_
  simp only [newExc, newTuple]
  refine wpAny_bind (wpAny_newObj_type ?_ (by size_fits))
  refine wpAny_bind (m := firstArgMember _ _) (wpAny_of_eq (a := Value.none) (by first | rfl | (simp only [firstArgMember]; rfl)) ?_)
  refine wpAny_newObj_type ?_ (by size_fits)
  have h1u := (Heap.get?_update_other s.heap (a := it) (b := x1) (Obj.mapFields (·.setIfInBounds 0 .none)) (Ne.symm hne)).trans h1
  refine raiseNew_hot (x1 := x1) ⟨hh, o1, vs1, Heap.get?_push_of_some _ (Heap.get?_push_of_some _ h1u), d1, c1⟩ (Nat.ne_of_lt (Heap.lt_size (Heap.get?_push_of_some _ h1u))) (Heap.get?_push_size _ rfl) rfl (by first | (simp; done) | (simp; omega)) ?_
  refine hE _ _ (fun b o hb e => ?_) ⟨_, Heap.get?_update_self _ (Heap.get?_push_size _ rfl) rfl, rfl⟩
  have e2 := (Heap.get?_update_other s.heap (a := it) (b := b) (Obj.mapFields (·.setIfInBounds 0 .none)) (Ne.symm hb)).trans e
  rw [Heap.get?_update_other _ _ (Nat.ne_of_gt (Heap.lt_size (Heap.get?_push_of_some _ e2)))]
  exact Heap.get?_push_of_some _ (Heap.get?_push_of_some _ e2)
theorem zip_next_hot {z TI TO i1 i2 l1 l2 : Addr} {k1 k2 : Nat} {xs ys : Array Value} {a b : Value} {Q : Fin → Shared → Prop} (hot : HotAt A x1 s.heap) (nz : x1 ≠ z) (nT : x1 ≠ TO) (n1 : x1 ≠ i1) (n2 : x1 ≠ i2) (D : ZipApart z TI TO i1 i2 l1 l2)
    (hz : IsZip s.heap z TI TO .none) (hTI : IsPair s.heap TI (.ref i1) (.ref i2)) (hTO : IsPair s.heap TO a b)
    (h1 : s.heap.IsListIter i1 l1 k1) (h2 : s.heap.IsListIter i2 l2 k2) (hl1 : s.heap.IsList l1 xs) (hl2 : s.heap.IsList l2 ys) (hend : xs[k1]? = none ∨ ys[k2]? = none)
    (hE : ∀ h' e, (∀ c o, c ≠ z → c ≠ TO → c ≠ i1 → c ≠ i2 → s.heap.get? c = some o → h'.get? c = some o) → (∃ o, h'.get? e = some o ∧ o.cls = .type "StopIteration") → E (.ref e) { s with heap := h' }) :
    wpAny (model prog w) A (Builtin.«zip.__next__» ⟨[.ref z], []⟩) Q E s := by
  show wpAny _ _ (field (.ref z) 2 >>= _) _ _ _
  refine wpAny_bind (wpAny_field hz rfl (x := .bool false) rfl ?_)
  show wpAny _ _ (field (.ref z) 3 >>= _) _ _ _
  refine wpAny_bind (wpAny_field hz rfl (x := .ref TI) rfl ?_)
  refine wpAny_bind (wpAny_seqItems hTI rfl ?_)
  show wpAny _ _ (Builtin.SmallTypes.ownedTupleIsFree (.ref z) >>= _) _ _ _
  refine wpAny_bind ?_
  unfold Builtin.SmallTypes.ownedTupleIsFree
  refine wpAny_bind (wpAny_field hz rfl (x := .none) rfl (wpAny_pure ?_))
  simp only [if_true]
  refine wpAny_bind (wpAny_rule ?_)
  refine wpAny_bind (wpAny_field hz rfl (x := .ref TO) rfl ?_)
  refine wpAny_bind (wpAny_setField_rec hz (by simp) fun h₁ hz₁ hs₁ => ?_)
  replace hz₁ : IsZip h₁ z TI TO .ellipsis := hz₁
  refine wpAny_bind ?_
  simp only [List.zipIdx_cons, List.zipIdx_nil, List.forIn_cons, List.forIn_nil]
  refine wpAny_bind (wpAny_bind (wpAny_onRaise ?_))
  show wpAny _ _ (Builtin.SmallTypes.nextOf (.ref i1) >>= _) _ _ _
  have hot1 : HotAt A x1 h₁ := hot_keep hot fun o e => hs₁.extBut _ _ nz e
  cases hx : xs[k1]? with
  | none =>
    refine wpAny_bind (nextOf_list_hot hot1 n1 (h1.extBut hs₁.extBut D.i1z) (hl1.extBut hs₁.extBut D.l1z) hx fun h₂ e hs₂ he => ?_)
    obtain ⟨oe, hoe, hce⟩ := he
    have hz₂ : IsZip h₂ z TI TO .ellipsis := hs₂ _ _ D.i1z.symm hz₁
    have hez : e ≠ z := fun x => by subst x; rw [hz₂] at hoe; cases hoe; simp at hce
    refine wpAny_setField_rec hz₂ (by simp) fun h₃ _ hs₃ => hE h₃ e (fun c o c1 _ c3 _ x => hs₃.extBut _ _ c1 (hs₂ _ _ c3 (hs₁.extBut _ _ c1 x))) ⟨oe, hs₃.extBut _ _ hez hoe, hce⟩
  | some x =>
    have hy : ys[k2]? = none := by rcases hend with h | h; rw [hx] at h; cases h; exact h
    refine wpAny_bind (wpAny_nextOf_list_item (h1.extBut hs₁.extBut D.i1z) (hl1.extBut hs₁.extBut D.l1z) hx fun h₂ h1₂ hs₂ => wpAny_pure ?_)
    have hTO₂ : IsPair h₂ TO a b := hs₂.extBut _ _ D.TOi1 (hs₁.extBut _ _ D.TOz hTO)
    refine wpAny_bind (wpAny_seqItems hTO₂ rfl ?_)
    refine wpAny_bind (wpAny_updateSeq_pair hTO₂ fun h₃ hTO₃ hs₃ => ?_)
    refine wpAny_bind (wpAny_letGo (wpAny_pure ?_))
    refine wpAny_bind (wpAny_bind (wpAny_onRaise ?_))
    show wpAny _ _ (Builtin.SmallTypes.nextOf (.ref i2) >>= _) _ _ _
    have hot3 : HotAt A x1 h₃ := hot_keep (hot_keep hot1 fun o e => hs₂.extBut _ _ n1 e) fun o e => hs₃.extBut _ _ nT e
    refine wpAny_bind (nextOf_list_hot hot3 n2 (((h2.extBut hs₁.extBut D.i2z).extBut hs₂.extBut D.i12.symm).extBut hs₃.extBut D.TOi2.symm)
      (((hl2.extBut hs₁.extBut D.l2z).extBut hs₂.extBut D.l2i1).extBut hs₃.extBut D.l2TO) hy fun h₄ e hs₄ he => ?_)
    obtain ⟨oe, hoe, hce⟩ := he
    have hz₄ : IsZip h₄ z TI TO .ellipsis := hs₄ _ _ D.i2z.symm (hs₃.extBut _ _ D.TOz.symm (hs₂.extBut _ _ D.i1z.symm hz₁))
    have hez : e ≠ z := fun x => by subst x; rw [hz₄] at hoe; cases hoe; simp at hce
    refine wpAny_setField_rec hz₄ (by simp) fun h₅ _ hs₅ => hE h₅ e (fun c o c1 c2 c3 c4 x => hs₅.extBut _ _ c1 (hs₄ _ _ c4 (hs₃.extBut _ _ c2 (hs₂.extBut _ _ c3 (hs₁.extBut _ _ c1 x))))) ⟨oe, hs₅.extBut _ _ hez hoe, hce⟩
theorem pyNext_zip_hot {z TI TO i1 i2 l1 l2 : Addr} {k1 k2 : Nat} {xs ys : Array Value} {a b : Value} {Q : Option Value → Shared → Prop} (hot : HotAt A x1 s.heap) (nz : x1 ≠ z) (nT : x1 ≠ TO) (n1 : x1 ≠ i1) (n2 : x1 ≠ i2) (D : ZipApart z TI TO i1 i2 l1 l2)
    (hz : IsZip s.heap z TI TO .none) (hTI : IsPair s.heap TI (.ref i1) (.ref i2)) (hTO : IsPair s.heap TO a b)
    (h1 : s.heap.IsListIter i1 l1 k1) (h2 : s.heap.IsListIter i2 l2 k2) (hl1 : s.heap.IsList l1 xs) (hl2 : s.heap.IsList l2 ys) (hend : xs[k1]? = none ∨ ys[k2]? = none)
    (hQ : ∀ h', (∀ c o, c ≠ z → c ≠ TO → c ≠ i1 → c ≠ i2 → s.heap.get? c = some o → h'.get? c = some o) → Q none { s with heap := h' }) : wpAny (model prog w) A (pyNext (.ref z)) Q E s := by
  have hT : s.TypeIs (.ref z) "zip" := ⟨_, hz, rfl⟩
  unfold pyNext
  refine wpAny_bind (wpAny_attempt (wpAny_callSpecial?_slot (name := Str.ofString "__next__") hT F.slot_zip_next
    (wpAny_call_entry F.slot_zip_next hT F.entry_zip_next (zip_next_hot (x1 := x1) (hot_keep hot fun _ e => e) nz nT n1 n2 D hz hTI hTO h1 h2 hl1 hl2 hend fun h' e hk he => ?_) (F.args_zip_next_1 _))))
  obtain ⟨o, ho, hc⟩ := he
  refine wpAny_bind (wpAny_isInstance (T := "StopIteration") (b := true) ⟨o, ho, hc⟩ isSubtype_stop ?_)
  exact wpAny_pure (hQ _ hk)
theorem pyNext_tuple_hot {it t : Addr} {i : Nat} {items : Array Value} {Q : Option Value → Shared → Prop} (hot : HotAt A x1 s.heap) (hne : x1 ≠ it) (hit : s.heap.IsTupleIter it t i) (ht : s.heap.IsTuple t items) (hx : items[i]? = none)
    (hQ : ∀ h', Heap.ExtBut it s.heap h' → Q none { s with heap := h' }) : wpAny (model prog w) A (pyNext (.ref it)) Q E s := by
  obtain ⟨hh, o1, vs1, h1, d1, c1⟩ := hot
  obtain ⟨o, ho, hc, hd⟩ := id hit
  obtain ⟨ol, hol, _, nl, hdl⟩ := ht
  unfold pyNext
  refine wpAny_bind (wpAny_attempt (wpAny_callSpecial?_slot (name := Str.ofString "__next__") hit.typeIs F.slot_tuple_iterator_next
    (wpAny_call_entry F.slot_tuple_iterator_next hit.typeIs F.entry_tuple_iterator_next ?_ (F.args_tuple_iterator_next_1 _))))
  show wpAny _ _ (field (.ref it) 0 >>= _) _ _ s
  refine wpAny_bind (wpAny_field ho hd (x := .ref t) rfl ?_)
  show wpAny _ _ (if (Value.ref t == Value.none) = true then _ else _) _ _ s
  rw [if_neg (show ¬ ((Value.ref t == Value.none) = true) from Bool.false_ne_true)]
  show wpAny _ _ (field (.ref it) 1 >>= _) _ _ s
  refine wpAny_bind (wpAny_field ho hd (x := .int i 0) rfl ?_)
  show wpAny _ _ (seqItems? (.ref t) >>= _) _ _ s
  refine wpAny_bind (wpAny_seqItems hol hdl ?_)
  simp only [Int.toNat_natCast, hx]
  refine wpAny_bind (wpAny_rule (wpAny_bind (wpAny_setField ho hd (by simp) ?_)))
  show wpAny _ _ (newExc (.type "StopIteration") [] >>= _) _ _ _
  refine wpAny_bind ?_
  simp only [newExc, newTuple]
  refine wpAny_bind (wpAny_newObj_type ?_ (by size_fits))
  refine wpAny_bind (m := firstArgMember _ _) (wpAny_of_eq (a := Value.none) (by first | rfl | (simp only [firstArgMember]; rfl)) ?_)
  refine wpAny_newObj_type ?_ (by size_fits)
  have h1u := (Heap.get?_update_other s.heap (a := it) (b := x1) (Obj.mapFields (·.setIfInBounds 0 .none)) (Ne.symm hne)).trans h1
  refine raiseNew_hot (x1 := x1) ⟨hh, o1, vs1, Heap.get?_push_of_some _ (Heap.get?_push_of_some _ h1u), d1, c1⟩ (Nat.ne_of_lt (Heap.lt_size (Heap.get?_push_of_some _ h1u))) (Heap.get?_push_size _ rfl) rfl (by first | (simp; done) | (simp; omega)) ?_
  refine wpAny_bind (wpAny_isInstance (T := "StopIteration") (b := true) ⟨_, Heap.get?_update_self _ (Heap.get?_push_size _ rfl) rfl, rfl⟩ isSubtype_stop ?_)
  refine wpAny_pure (hQ _ fun b o hb e => ?_)
  have e2 := (Heap.get?_update_other s.heap (a := it) (b := b) (Obj.mapFields (·.setIfInBounds 0 .none)) (Ne.symm hb)).trans e
  rw [Heap.get?_update_other _ _ (Nat.ne_of_gt (Heap.lt_size (Heap.get?_push_of_some _ e2)))]
  exact Heap.get?_push_of_some _ (Heap.get?_push_of_some _ e2)
theorem assign_tuple_hot {env : Env} {elts : List Expr} {n1 : Nat} {pos : Pos} {t : Addr} {items : Array Value} {Q : Unit → Shared → Prop} (hot : HotAt A x1 s.heap) (ht : s.heap.IsTuple t items)
    (hn : (assignEach elts env).length = items.size) (hstar : (assignEach elts env).findIdx? (·.1) = none)
    (h : ∀ h', Heap.ExtBut s.heap.objs.size s.heap h' → wpAny (model prog w) A (assignInOrder ((assignEach elts env).map (·.2)) items.toList) Q E { s with heap := h' }) :
    wpAny (model prog w) A (assign (.Tuple elts n1 pos) env (.ref t)) Q E s := by
  rw [arm_assign_Tuple]
  refine wpAny_bind (wpAny_standAt ?_)
  unfold unpack
  rw [hn, hstar]
  refine wpAny_bind (wpAny_holding ?_)
  have hlt : t ≠ s.heap.objs.size := by obtain ⟨o, ho, _⟩ := ht; exact Nat.ne_of_lt (Heap.lt_size ho)
  have hx1 : x1 ≠ s.heap.objs.size := by obtain ⟨_, o, _, e, _⟩ := hot; exact Nat.ne_of_lt (Heap.lt_size e)
  unfold unpackItems
  refine wpAny_bind ?_
  unfold notIterableAtAll
  refine wpAny_bind (wpAny_specialOf ht.typeIs F.slot_tuple_iter.lookup ?_)
  refine wpAny_pure ?_
  simp only [Bool.false_eq_true, if_false]
  refine wpAny_bind (wpAny_holding (wpAny_pyIter_tuple ht ?_))
  refine wpAny_bind (wpAny_holding (wpAny_draw_tuple hlt items.size 0 _ _ ⟨_, Heap.get?_push_size _ rfl, rfl, rfl⟩ (ht.push _) (by omega) fun h₁ hit₁ hs₁ => ?_))
  have hall : List.take items.size (List.drop 0 items.toList) = items.toList := by
    rw [List.drop_zero]; exact List.take_of_length_le (by simp)
  rw [hall]
  rw [if_neg (by simp)]
  have ht₁ : h₁.IsTuple t items := (ht.push _).extBut hs₁.extBut hlt
  have hot1 : HotAt A x1 h₁ := hot_keep hot fun o e => hs₁.extBut _ _ hx1 (Heap.get?_push_of_some _ e)
  refine wpAny_bind (wpAny_holding (pyNext_tuple_hot hot1 hx1 hit₁ ht₁ (by simp) fun h₂ he₂ => ?_))
  simp only [Option.isSome_none, Bool.false_eq_true, if_false]
  exact wpAny_pure (h h₂ fun b o hb e => he₂ b o hb (hs₁.extBut b o hb (Heap.get?_push_of_some _ e)))
end
end TS

set_option maxHeartbeats 2000000
/-! ### 43. own exceptions raised where nothing is handled (their context is None), caught by one or two classes -/
namespace TS
open PySem PySem.Spec PyProof.Rows L2
section
variable {X : Cx} {e : Expr} {es : List Expr} {ta : TA} {p pos : Pos}
theorem pmk_oexN {CX : CXT} {x : Str} {C fI : Addr} {k : Nat} {fd : FuncData} {ps : List Str} {sp : Sp} (T : OexC X.K C) (iC : PySem.W.findIn X.K (.ref C) "__init__" = some (some (.ref fI))) (tI : PySem.W.typeIn X.K (.ref fI) = some (.type "function"))
    (F1 : FnOk X.prog X.w X.K X.mg X.base CX k fI fd ps sp) (hr : Room (k + 1) X.A) (hb : Binds X.K fd ps []) (hx : Passes CX X (fun _ _ _ => False)) (hg : Gl X x) (hm : X.mg x = some (.ref C)) (ha : PA X (e :: es) ta)
    (hdb : (x == ("__debug__" : Str)) = false := by decide) (he : starEach (e :: es) X.env = (false, eval e X.env) :: starEach es X.env := by rfl) (hpl : (backTo pos (starEach es X.env)).any (·.1) = false := by rfl) :
    L2N.PMk X (.Call (.Name x p) (e :: es) [] pos) (tMkO C sp [] ta) := by
  intro pins s σ H Q J h
  obtain ⟨nm, q, N, bs, bm, sn, sub, ab, col, dd, k0, k1, k2, k3, k5, hC, hbm⟩ := T.cls
  refine wpAny_Call_Name_kw (ld_glob J hg hm ?_ hdb)
  refine PySem.W.callWith_K (h₀ := X.base) J.ok.mod.kin T.kC (thn (ha.run pos pins s σ H _ J h) fun us t ⟨vs, H1, J1, r1, hz, q1⟩ => ⟨J1.kIn, ?_⟩) he hpl
  show wpAny _ _ (call (.ref C) us) _ _ _
  obtain ⟨hp, g, dr, tk, os⟩ := t
  have sz : hp.objs.size ≤ hp.objs.size + 1 := Nat.le_succ _
  have hq := q1 (hp.objs.size + 1) (J1.hok.fresh sz)
  rw [List.append_nil] at hq
  have kk : ∀ b o, hp.get? b = some o → ((hp.push (PySem.W.kdv_tup us)).push (PySem.HandSPX.excO C hp.objs.size)).get? b = some o := fun b o q => Heap.get?_push_of_some _ (Heap.get?_push_of_some _ q)
  have gt : ((hp.push (PySem.W.kdv_tup us)).push (PySem.HandSPX.excO C hp.objs.size)).get? (hp.objs.size + 1) = some (PySem.HandSPX.excO C hp.objs.size) := by heap_get
  have J2 : Inv X pins σ (upd H1 (hp.objs.size + 1) (exo (hp.objs.size + 1) C none)) ⟨(hp.push (PySem.W.kdv_tup us)).push (PySem.HandSPX.excO C hp.objs.size), g, dr, tk, os⟩ :=
    J1.laid (t' := tk) (a := hp.objs.size + 1) (o := exo (hp.objs.size + 1) C none) (h' := (hp.push (PySem.W.kdv_tup us)).push (PySem.HandSPX.excO C hp.objs.size)) kk sz (exo_ok gt)
  have r2 : Vals (V.ref (hp.objs.size + 1) :: vs) (Value.ref (hp.objs.size + 1) :: us) := .cons rfl r1
  have hl : (Value.ref (hp.objs.size + 1) :: us ++ []).length = ps.length := by
    rw [List.append_nil, ← r2.length]
    exact F1.len _ _ _ _ hq
  have b2 := hb _ (Value.ref (hp.objs.size + 1) :: us) J2.kIn hl
  rw [List.append_nil] at b2
  refine wpAny_call (PySem.HandSPX.call_own F.excBase_ValueError (fun Y => PySem.HandSPX.refsVE_contains Y bm hbm) (J1.kIn _ _ hC) (PySem.W.looks_findIn J1.kIn iC) (fun self => PySem.W.bind_fn J1.kIn self tI) (by rw [← Paired.length r1, sizeLine_eq]; omega)
    (codeAny_mono (F1.run _ X.stack _ _ ⟨Value.ref (hp.objs.size + 1) :: us, []⟩ (Value.ref (hp.objs.size + 1) :: us) _ _ (fun _ _ _ => False) (hr.make C us []) (J2.env0.make C us []) b2 r2 hq) fun o t z => ?_))
  match o, z with
  | .error er, z => exact hx pins σ _ _ er t J2 z
  | .ok (.ret u), z =>
    obtain ⟨v, H2, os2, bare2, un2, hok2, rv, ev, d, fs, ea, ed, hd1, q2⟩ := z
    subst ev
    obtain ⟨h2, g2, d2, t2, os'⟩ := t
    obtain ⟨t0, G, J3, kG, ge, hoe, na⟩ := mk_end0 (d2 := d2) (t2 := t2) J1 sz kk un2 hok2 os2 bare2 ea ed hd1
    exact ⟨rv, ⟨hp.objs.size + 1, _, _, ⟨G, g2, d2, t2, os'⟩, _, .ref C, some d, rfl, J3, kG, ge, hoe, ⟨rfl, rfl, fun vs hv => by cases hv; rfl⟩, rfl, rfl, na, rfl, bare2, raises_own T.exC T.tyC, q2⟩⟩
end
section
variable {X : Cx} {C : Addr} {f x : Str} {k : Nat} {ps : List Str} {e : Expr} {te : TE} {W : WX} {p pos pos2 : Pos}
theorem ps_raise1N (T : OwnV X.K C f) (pr : PromA CX0 X.prog X.w X.K X.mg X.base k (He.ma X.K C "__init__") ps (spIni C f)) (hc : X.calm = true) (tk : L2N.Takes X W) (hr : Room (k + 1) X.A) (hg : Gl X x) (hm : X.mg x = some (.ref C)) (he : PE X e te)
    (hdb : (x == ("__debug__" : Str)) = false := by decide) (hs : starEach [e] X.env = (false, eval e X.env) :: starEach [] X.env := by rfl) (hpl : (backTo pos (starEach [] X.env)).any (·.1) = false := by rfl) :
    PS X (.Raise (some (.Call (.Name x p) [e] [] pos)) none pos2) (tRaise1 C f te W) := by
  obtain ⟨fd, F, b⟩ := pr
  have mk := pmk_oexN (p := p) (pos := pos) T.ox T.ini T.fn F hr b pass0 hg hm (pa_cons (pe_mono he) pa_nil hs) hdb hs hpl
  refine ⟨fun pins s σ H D J h => (L2N.ps_raise hc tk mk).run pins s σ H D J ?_⟩
  refine ⟨_, h, fun v H1 q => ⟨by show 1 ≤ 1000; decide, fun a na => ⟨a, v, rfl, upd_same .., fun dx nd ne => ⟨rfl, dx, [(f, v)], upd_same .., ?_, ?_, ?_⟩⟩⟩⟩
  · rw [upd_ne ne, upd_same]
  · rw [upd_ne ne] at nd; exact nd
  · rw [upd_ne ne] at nd
    rw [upd_swap ne na]
    exact q dx nd
end
/-- a def that may raise, where nothing is handled -/
def PromXC (P : Program) (w : World) (K : PySem.W.Frag) (mg : Str → Option Value) (base : Heap) (k : Nat) (x : Str) (ps : List Str) (sp : Sp) : Prop :=
  ∃ f, PromA (L2N.CX P w) P w K mg base k f ps sp ∧ mg x = some (.ref f) ∧ PySem.W.keepIn K (.ref f) = true
section
variable {P : Program} {w : World} {K : PySem.W.Frag} {mg : Str → Option Value} {base : Heap} {N ps : List Str} {k : Nat} {sp : Sp} {x : Str} {st : Stmt}
theorem promXC_mk (D : Def K mg x st) (S : FnScope N ps (defScope st)) (len : ∀ vs H Q E, sp vs H Q E → vs.length = ps.length)
    (hb : ∀ (kV doc pm : Value) (an : Option Addr) (cdv ct : Value) (us : List Value), us.length = ps.length → bindArgs (PySem.W.fnOf x x (defArgs st) (defBody st) (defScope st) .none kV doc pm an cdv ct) ⟨us, []⟩ = pure (ps.zip us))
    (body : ∀ (f : Addr) (cdv : Value) (A : Around) (outer : List Env) (s : Shared) (H : Hp) (vs : List V) (Q : VK) (E : XK), Room k (A.deeper (envOfC x (defScope st) s.heap.objs.size f cdv)) → sp vs H Q E →
      ∃ t, PSs (cxOf (L2N.CX P w) P w K mg base N x (defScope st) f cdv A outer s H E) (defBody st) t ∧ t { nx := fun _ G => Q .non G, rt := Q } (start N vs) H) : PromXC P w K mg base (k + 1) x ps sp := by
  obtain ⟨f, fd, F, m⟩ := D
  exact ⟨f, ⟨fd, F.ok S len (body f), F.bindsN hb⟩, m, F.kp⟩
theorem takesFC {E : XK} {qual : Str} {scope : Scope} {f : Addr} {cdv : Value} {A : Around} {outer : List Env} {s : Shared} {H : Hp} :
    L2N.Takes (cxOf (L2N.CX P w) P w K mg base N qual scope f cdv A outer s H E) (fun cls d _ G => E cls d G) := L2N.takes_of rfl rfl rfl rfl
end
theorem takes0C {X : Cx} : L2N.Takes X (fun _ _ _ _ => False) := fun _ _ ⟨_, _, _, _, _, _, _, _, _, _, _, _, _, _, _, _, w⟩ => w.elim
section
variable {X : Cx} {k : Nat} {ps : List Str} {sp : Sp} {W : WX} {x : Str} {p pos : Pos} {e : Expr} {es : List Expr} {t : TA}
theorem pe_pcXC (pr : PromXC X.prog X.w X.K X.mg X.base k x ps sp) (tk : L2N.Takes X W) (hr : Room k X.A) (hg : Gl X x) (ha : PA X (e :: es) t) (hdb : (x == ("__debug__" : Str)) = false := by decide)
    (he : starEach (e :: es) X.env = (false, eval e X.env) :: starEach es X.env := by rfl) (hpl : (backTo pos (starEach es X.env)).any (·.1) = false := by rfl) :
    PE X (.Call (.Name x p) (e :: es) [] pos) (tCallS sp (WE W) t) := by
  obtain ⟨f, ⟨fd, F, b⟩, m, kp⟩ := pr
  exact pe_callS F hr hg m kp b (fun σ => L2N.passAt tk σ) ha hdb he hpl
end
/-! try -/
abbrev SuiteOkN (X : Cx) (st : List Stmt) (ts : Addr → Value → Option Addr → TS) : Prop :=
  ∀ (a : Addr) (oe : Obj) (cls : Value) (d : Option Addr) (pn : List (Addr × Obj)), X.base.get? a = none → L2N.Zn cls d oe → (∃ vs, oe.data = .fields vs) → PSs (X.suite a ((a, oe) :: pn)) st (ts a cls d)
inductive ClausesOkN (X : Cx) : List ExceptHandler → List Clause2 → Prop
  | stop {l : List ExceptHandler} : ClausesOkN X l []
  | as_ {t : Expr} {n : Str} {i : Nat} {cs : List Value} {ts : Addr → Value → Option Addr → TS} {b₀ : Stmt} {suite : List Stmt} {pp : Pos} {l : List ExceptHandler} {r : List Clause2} (hi : X.N[i]? = some n) (hln : X.env.kindOf n = some .local) (hc : TestOk X t cs)
      (hsu : SuiteOkN X (b₀ :: suite) ts) (tl : ClausesOkN X l r) : ClausesOkN X (.ExceptHandler (some t) (some n) (b₀ :: suite) pp :: l) ((cs, some i, ts) :: r)
section
variable {X : Cx} {body : List Stmt} {h₀ : ExceptHandler} {hs' : List ExceptHandler} {cl : List Clause2} {pos : Pos} {tb : WX → TS}
theorem ps_tryN (stk : X.stack = X.env :: X.outer) (frm : X.env.frame = some X.env.locals) (nod : X.N.Nodup)
    (bod : ∀ (W : WX) (pn : List (Addr × Obj)) (xe : Value → Shared → Prop), L2N.Takes (X.tr pn xe) W → PassesOwn (model X.prog X.w) X.A X.env xe → PSs (X.tr pn xe) body (tb W))
    (cls' : ClausesOkN X (h₀ :: hs') cl) : PS X (.Try body (h₀ :: hs') [] [] pos) (fun D σ H => tb (wClauses2 X.K D cl) D σ H) := by
  refine ⟨fun pins s σ H D J rd => ?_⟩
  have xok := J.ok
  have afr : X.A.frames = some (X.env :: X.outer) := by rw [xok.frames, stk]
  refine wpAny_Try_except ?_
  refine wpAny_mono ((bod (wClauses2 X.K D cl) (X.pn ++ pins) (fun u t1 => wpAny (model X.prog X.w) X.A (noteFrame u X.env) (fun _ t2 => wpAny (model X.prog X.w) X.A (setFlight u none) (fun _ t3 =>
    wpAny (model X.prog X.w) X.A (handleBy u X.env (h₀ :: hs')) (SP X pins D) X.xe t3) X.xe t2) X.xe t1) (fun u t air => ?_) PassesOwn.looking).run [] s σ H D (J.toTry _) rd) (fun fl t1 sp => ?_) (fun u t1 z => z)
  · obtain ⟨a, gr, sA, pins', σ', H', cls, d, rfl, J', ngr, up, sky, na, os, ag, wish⟩ := air
    have J1 : Inv X pins σ' H' sA := J'.ofTry xok
    have sky1 : Sky gr (X.env :: X.outer) a (L2N.Zn cls d) X.env.locals t.heap := by rw [← stk]; exact sky
    show wpAny (model X.prog X.w) X.A (noteFrame (.ref a) X.env) _ _ _
    refine L2N.Sky.land L2N.Zn.steady afr frm sky1 fun h3 fl3 up3 => ?_
    have bna : X.base.get? a = none := by
      cases e : X.base.get? a with
      | none => rfl
      | some o =>
        have g0 := J1.bk a o e
        have nf : a ∉ frs X.stack := fun m => by
          have := (J1.stack.mem m).1
          rw [e] at this; cases this
        have g1 := ngr a o g0 nf
        rw [fl3.2.1] at g1; cases g1
    have go : ∀ {l : List ExceptHandler} {r : List Clause2}, ClausesOkN X l r → wClauses2 X.K D r cls d σ' H' → ∀ h3 : Heap, HandSPX.FlyingZ gr (X.env :: X.outer) a (L2N.Zn cls d) h3 → sA.heap.UpToSlots h3 →
        wpAny (model X.prog X.w) X.A (handleBy (.ref a) X.env l) (SP X pins D) X.xe { t with heap := h3 } := by
      intro l r ck
      induction ck with
      | stop => intro w; exact False.elim w
      | @as_ te n i cs ts b₀ suite pp l r hi hln hc hsu t2 ih =>
        intro w h3 fl3 up3
        obtain ⟨b, eb, yes, no⟩ := w
        have J3 : Inv X pins σ' H' { t with heap := h3 } := J1.landed ngr fl3.1 up3 os ag
        obtain ⟨oe3, vs3, get3, zc3, dat3⟩ := fl3.there
        have offA : a ∉ frs (X.env :: X.outer) := fun m => by
          obtain ⟨_, o', g', nf⟩ := fl3.2.2.1.mem m
          rw [get3] at g'; cases g'
          exact nf _ dat3
        have neL : a ≠ X.env.locals := fun z => offA (List.mem_filterMap.mpr ⟨X.env, List.mem_cons_self, by rw [frm, z]⟩)
        have neF : a ∉ X.fs := fun m => by
          obtain ⟨en, me, q⟩ := List.mem_filterMap.mp m
          exact offA (List.mem_filterMap.mpr ⟨en, List.mem_cons_of_mem _ me, q⟩)
        have S3 := J3.suite get3 dat3 na neL neF
        have ld : ∀ {x : Str} {c : Value} {np : Pos}, Names X x c → ∀ {Q : Value → Shared → Prop} {E : Value → Shared → Prop}, Q c { t with heap := h3 } → wpAny (model X.prog X.w) (X.A.mark (some (.ref a))) (eval (.Name x np) X.env) Q E { t with heap := h3 } := fun {x c np} nm {Q E} q => by
          obtain ⟨g, db, m | ⟨m, v, nn⟩⟩ := nm
          · exact ld_glob (X := X.suite a ((a, oe3) :: (X.pn ++ pins))) S3 g m q db
          · exact ld_blt (X := X.suite a ((a, oe3) :: (X.pn ++ pins))) S3 g m v q nn db
        have LT : PySem.W.Looks (model X.prog X.w) h3 (typeOf (.ref a)) cls := fun A Q E s k q => wpAny_typeOf_ref (k _ _ get3) (by rw [zc3.1]; exact q)
        refine wpAny_handleBy_cons (codeAny_handlers_test ?_) (by intro q; cases q)
        have test : ∀ {Q : Bool → Shared → Prop} {E : Value → Shared → Prop}, (∀ h4 : Heap, HandSPX.FlyingZ gr (X.env :: X.outer) a (L2N.Zn cls d) h4 → sA.heap.UpToSlots h4 → Q b { t with heap := h4 }) →
            wpAny (model X.prog X.w) (X.A.mark (some (.ref a))) (eval te X.env) (fun c s1 => wpAny (model X.prog X.w) (X.A.mark (some (.ref a))) (excMatches (.ref a) c) Q E s1) E { t with heap := h3 } := by
          intro Q E q
          cases hc with
          | one hc => exact ld hc ((PySem.W.exm_one (M := model X.prog X.w) J3.kIn LT eb).here (q h3 fl3 up3))
          | @two x y c e np mp tp kk hc he =>
            refine wpAny_Tuple (wpAny_items_cons (ld hc (wpAny_items_cons (ld he (wpAny_items_nil ⟨by show 2 ≤ sizeLine; decide, ?_⟩)))))
            have kp : ∀ q o, h3.get? q = some o → (h3.push { cls := .type "tuple", data := .seq [c, e].toArray }).get? q = some o := fun _ _ z => Heap.get?_push_of_some _ z
            refine (PySem.W.exm_tup2 (M := model X.prog X.w) (J3.kIn.keeps kp) (LT.keeps kp) (Heap.get?_push_size h3 rfl) eb).here (q _ (flying_push kp fl3) (up3.trans fun b o g _ => ⟨o.slots, kp b o g⟩))
        refine test fun h5 fl5 up5 => ?_
        cases b with
        | false =>
          show wpAny _ X.A (handleBy (.ref a) X.env l) _ _ _
          exact ih (no rfl) h5 fl5 up5
        | true =>
          refine codeAny_handlers_suite_as ?_
          refine HandSPX.lands_againZ fl5 fun h4 fl4 up4 => ?_
          have J4 : Inv X pins σ' H' { t with heap := h4 } := J1.landed ngr fl4.1 (up5.trans up4) os ag
          obtain ⟨oe4, vs4, get4, zc4, dat4⟩ := fl4.there
          have S4 := J4.suite get4 dat4 na neL neF
          refine store_ok (X := X.suite a ((a, oe4) :: (X.pn ++ pins))) (v := .ref a) S4 nod hi (.inl hln) rfl (fun t5 S5 => ?_) (.inr hln)
          refine wpAny_mono ((hsu a oe4 cls d (X.pn ++ pins) bna zc4 ⟨_, dat4⟩).run [] t5 _ H' _ S5 (yes rfl a na)) (fun fl t6 sp => ?_) (fun _ _ z => False.elim z)
          have un : ∀ {σ6 : L2.St} {H6 : Hp} {Q : Shared → Prop}, Inv (X.suite a ((a, oe4) :: (X.pn ++ pins))) [] σ6 H6 t6 → (∀ t7, Inv X pins (σ6.set i none) H6 t7 → Q t7) →
              wpAny (model X.prog X.w) X.A (do bindName X.env n .none; unbindBehindTheSuite X.env n pp) (fun _ t7 => Q t7) X.xe t6 := fun {σ6 H6 Q} S6 q => gone_ok (S6.unsuite xok) nod hi hln q
          cases fl with
          | next => exact let ⟨_, _, S6, q6⟩ := sp; un S6 fun t7 J7 => ⟨_, _, J7, q6⟩
          | brk => exact let ⟨_, _, S6, q6⟩ := sp; un S6 fun t7 J7 => ⟨_, _, J7, q6⟩
          | cont => exact let ⟨_, _, S6, q6⟩ := sp; un S6 fun t7 J7 => ⟨_, _, J7, q6⟩
          | ret u => exact let ⟨_, _, _, S6, r6, q6⟩ := sp; un S6 fun t7 J7 => ⟨_, _, _, J7, r6, q6⟩
    exact go cls' wish h3 fl3 (up.trans up3)
  · cases fl with
    | next => exact let ⟨σ', H', J', q⟩ := sp; wpAny_execs_nil ⟨σ', H', J'.ofTry xok, q⟩
    | brk => exact let ⟨σ', H', J', q⟩ := sp; ⟨σ', H', J'.ofTry xok, q⟩
    | cont => exact let ⟨σ', H', J', q⟩ := sp; ⟨σ', H', J'.ofTry xok, q⟩
    | ret u => exact let ⟨v, σ', H', J', r, q⟩ := sp; ⟨v, σ', H', J'.ofTry xok, r, q⟩
end
end TS

set_option maxHeartbeats 2000000
/-! ### 44. defs called while an exception is handled; the exception handed to them -/
namespace TS
open PySem PySem.Spec PyProof.Rows L2
open HotX (HotAt)
theorem _root_.L2H.RoomH.units {k : Nat} {A : Around} (r : L2H.RoomH k A) : A.units + 64 < cLine := by have := r.un; omega
/-- a def called while the exception at e is handled -/
structure FnT (P : Program) (w : World) (K : PySem.W.Frag) (mg : Str → Option Value) (base : Heap) (k : Nat) (f : Addr) (fd : FuncData) (ps : List Str) (sp : Addr → Sp) : Prop where
  len : ∀ e vs H Q E, sp e vs H Q E → vs.length = ps.length
  run : ∀ (e : Addr) (A : Around) (outer : List Env) (s : Shared) (H : Hp) (args : Args) (us : List Value) (vs : List V) (Q : VK), L2H.RoomH k A → A.guards = some [] → A.handled = some (.ref e) → Env0 P w K mg base A outer s H →
    BindsTo s fd args (ps.zip us) → Vals vs us → sp e vs H Q E0 → codeAny (model P w) A (.call (.ref f) args) (CR CX0 outer P w H s Q E0) s
/-- the context of its body -/
abbrev cxT (P : Program) (w : World) (K : PySem.W.Frag) (mg : Str → Option Value) (base : Heap) (N : List Str) (qual : Str) (scope : Scope) (f : Addr) (cd : Value) (A : Around) (outer : List Env) (s : Shared) (H : Hp) : Cx :=
  { cxOf CX0 P w K mg base N qual scope f cd A outer s H E0 with calm := false }
section
variable {P : Program} {w : World} {K : PySem.W.Frag} {mg : Str → Option Value} {base : Heap} {k : Nat} {f : Addr} {fd : FuncData} {ps : List Str} {sp : Addr → Sp}
theorem okT {x qual : Str} {params : Arguments} {body : List Stmt} {scope : Scope} {dvs : List V} {kws : List (Str × V)} {N : List Str} (F : FunD K x qual params body scope dvs kws f fd) (S : FnScope N ps scope)
    (len : ∀ e vs H Q E, sp e vs H Q E → vs.length = ps.length)
    (hbody : ∀ (e : Addr) (cdv : Value) (A : Around) (outer : List Env) (s : Shared) (H : Hp) (vs : List V) (Q : VK), (A.deeper (envOfC qual scope s.heap.objs.size f cdv)).guards = some [] → (A.deeper (envOfC qual scope s.heap.objs.size f cdv)).handled = some (.ref e) →
      L2H.RoomH k (A.deeper (envOfC qual scope s.heap.objs.size f cdv)) → sp e vs H Q E0 →
      ∃ t, PSs (cxT P w K mg base N qual scope f cdv A outer s H).nox body t ∧ t { nx := fun _ H' => Q .non H', rt := Q } (start N vs) H) : FnT P w K mg base (k + 1) f fd ps sp := by
  obtain ⟨oc, od, dV, kV, doc, pm, an, cdv, ct, osl, rfl, lk, hcd, _, _⟩ := F.ex
  refine ⟨len, fun e A outer s H args us vs Q hr hg hh e0 hb r hsp => ?_⟩
  have KX : K.In s.heap := e0.mod.kin.keeps fun b o e => (e0.bs b o e).1
  have NL : s.heap.NoLimit := e0.mod.nolimit.keeps fun b o e => (e0.bs b o e).1
  have kinds : ∀ y ∈ ps.zip us, scope.names.lookup y.1 = some .local ∨ (scope.names.lookup y.1 = some .cell ∧ ((cellsFrom (s.heap.objs.size + 1) scope.names []).lookup y.1).isSome = true) := by
    rintro ⟨n, v⟩ hy
    exact (S.par n (List.of_mem_zip hy).1).imp id fun q => ⟨q, PySem.W.cellsFrom_some _ _ _ (.inl q)⟩
  refine codeAny_call_function hr.depth (KX _ _ lk) rfl S.co S.gen rfl (PySem.W.codeRec_of KX hcd) (hb _ _ _ _ (wpAny_newFunctionEnv_cells S.kind kinds fun env he s1 x => ?_))
  subst he
  obtain ⟨t, ht, hq⟩ := hbody e cdv A outer s H vs Q hg hh (hr.deeper _) hsp
  have e1 : Env0 P w K mg base { A with handled := none } outer s H := ⟨e0.frames, e0.mod, e0.bs, e0.bsz, e0.funs, e0.frf, e0.hok, e0.bare⟩
  have I0 := inv_start (CX := CX0) (E := E0) (f := f) (cd := cdv) (qual := qual) (A := { A with handled := none }) S rfl e1 (len _ _ _ _ _ hsp) r x
  have o := I0.ok
  have I1 : Inv (cxT P w K mg base N qual scope f cdv A outer s H) [] (start N vs) H s1 :=
    ⟨⟨o.mod, o.kind, o.glob, o.blt, o.above, o.inj, o.has, o.cab, (fun z => Bool.noConfusion (show false = true from z)), Around.frames_deeper e0.frames, o.stk, o.exf, o.bs, o.bsz, o.noex, o.exfs, o.funs, o.frf⟩,
      I0.os, I0.bare, I0.base, I0.loc, I0.cell, I0.free, I0.freeC, I0.pin, I0.hok, I0.len⟩
  refine ⟨NL.keeps x.toInCall.keep, codeAny_func (wpAny_mono (ht.nox.run [] s1 (start N vs) H _ I1 hq) (fun fl s' hs => ?_) fun _ _ z => z)⟩
  cases fl with
  | ret u => exact let ⟨v, _, H', J, rv, q⟩ := hs; ⟨v, H', J.os, J.bare, J.base, J.hok, rv, q⟩
  | next => exact let ⟨_, H', J, q⟩ := hs; ⟨V.non, H', J.os, J.bare, J.base, J.hok, rfl, q⟩
  | brk => exact let ⟨_, _, _, q⟩ := hs; False.elim q
  | cont => exact let ⟨_, _, _, q⟩ := hs; False.elim q
end
def PromT (P : Program) (w : World) (K : PySem.W.Frag) (mg : Str → Option Value) (base : Heap) (k : Nat) (x : Str) (ps : List Str) (sp : Addr → Sp) : Prop :=
  ∃ f fd, FnT P w K mg base k f fd ps sp ∧ mg x = some (.ref f) ∧ PySem.W.keepIn K (.ref f) = true ∧ Binds K fd ps []
theorem promT_mk {P : Program} {w : World} {K : PySem.W.Frag} {mg : Str → Option Value} {base : Heap} {N ps : List Str} {k : Nat} {sp : Addr → Sp} {x : Str} {st : Stmt} (D : Def K mg x st) (S : FnScope N ps (defScope st)) (len : ∀ e vs H Q E, sp e vs H Q E → vs.length = ps.length)
    (hb : ∀ (kV doc pm : Value) (an : Option Addr) (cdv ct : Value) (us : List Value), us.length = ps.length → bindArgs (PySem.W.fnOf x x (defArgs st) (defBody st) (defScope st) .none kV doc pm an cdv ct) ⟨us, []⟩ = pure (ps.zip us))
    (body : ∀ (f e : Addr) (cdv : Value) (A : Around) (outer : List Env) (s : Shared) (H : Hp) (vs : List V) (Q : VK), (A.deeper (envOfC x (defScope st) s.heap.objs.size f cdv)).guards = some [] → (A.deeper (envOfC x (defScope st) s.heap.objs.size f cdv)).handled = some (.ref e) →
      L2H.RoomH k (A.deeper (envOfC x (defScope st) s.heap.objs.size f cdv)) → sp e vs H Q E0 →
      ∃ t, PSs (cxT P w K mg base N x (defScope st) f cdv A outer s H).nox (defBody st) t ∧ t { nx := fun _ H' => Q .non H', rt := Q } (start N vs) H) : PromT P w K mg base (k + 1) x ps sp := by
  obtain ⟨f, fd, F, m⟩ := D
  exact ⟨f, fd, okT F S len (fun e cdv A outer s H vs Q hg hh hr h => body f e cdv A outer s H vs Q hg hh hr h), m, F.kp, F.bindsN hb⟩
/-! calls of such defs in a suite -/
def tCallT (sp : Addr → Sp) (a : Addr) (t : TA) : TE := fun σ H Q => t σ H fun vs H1 => sp a vs H1 Q E0
def tGiveT (sp : Addr → Sp) (a : Addr) (cls : Value) (d : Option Addr) (t : TA) : TE := fun σ H Q => t σ H fun vs H1 => ∀ oe, L2N.Zn cls d oe → (∃ vs, oe.data = .fields vs) → H1 a = none →
  sp a vs (upd H1 a (exE a oe)) (fun v H' => H' a = some (exE a oe) ∧ Q v (ItX.dropH H' a)) E0
section
variable {X : Cx} {k : Nat} {ps : List Str} {sp : Addr → Sp} {x : Str} {p pos : Pos} {e : Expr} {es : List Expr} {t : TA} {a : Addr} {oe : Obj} {pn : List (Addr × Obj)} {cls : Value} {d : Option Addr}
theorem pe_callT (pr : PromT X.prog X.w X.K X.mg X.base k x ps sp) (hr : Room k X.A) (hgd : X.A.guards = some []) (hg : Gl X x) (ha : PA (X.suite a ((a, oe) :: pn)) (e :: es) t) (hdb : (x == ("__debug__" : Str)) = false := by decide)
    (he : starEach (e :: es) X.env = (false, eval e X.env) :: starEach es X.env := by rfl) (hpl : (backTo pos (starEach es X.env)).any (·.1) = false := by rfl) :
    PE (X.suite a ((a, oe) :: pn)) (.Call (.Name x p) (e :: es) [] pos) (tCallT sp a t) := by
  obtain ⟨f, fd, F, hm, hk, hb⟩ := pr
  refine ⟨fun pins s σ H Q I h => ?_⟩
  refine wpAny_Call_Name_kw (ld_glob I hg hm ?_ hdb)
  refine PySem.W.callWith_K (h₀ := X.base) I.ok.mod.kin hk (thn (ha.run pos pins s σ H _ I h) fun us s1 ⟨vs, H1, I1, r, q⟩ => ⟨I1.kIn, ?_⟩) he hpl
  have hl : us.length = ps.length := by rw [← r.length]; exact F.len _ _ _ _ _ q
  have b := hb s1 us I1.kIn (by rw [List.append_nil]; exact hl)
  rw [List.append_nil] at b
  refine wpAny_call (codeAny_mono (F.run a (X.suite a ((a, oe) :: pn)).A (X.suite a ((a, oe) :: pn)).stack s1 _ ⟨us, []⟩ us vs _ (L2H.roomH_mark hr _) hgd rfl I1.env0 b r q) fun o t z => ?_)
  match o, z with
  | .error e, z => exact False.elim z
  | .ok (.ret u), z => exact I1.after z
theorem pe_giveT (bna : X.base.get? a = none) (hz : L2N.Zn cls d oe) (hf : ∃ vs, oe.data = .fields vs) (pr : PromT X.prog X.w X.K X.mg X.base k x ps sp) (hr : Room k X.A) (hgd : X.A.guards = some []) (hg : Gl X x) (ha : PA (X.suite a ((a, oe) :: pn)) (e :: es) t)
    (hdb : (x == ("__debug__" : Str)) = false := by decide) (he : starEach (e :: es) X.env = (false, eval e X.env) :: starEach es X.env := by rfl) (hpl : (backTo pos (starEach es X.env)).any (·.1) = false := by rfl) :
    PE (X.suite a ((a, oe) :: pn)) (.Call (.Name x p) (e :: es) [] pos) (tGiveT sp a cls d t) := by
  obtain ⟨f, fd, F, hm, hk, hb⟩ := pr
  refine ⟨fun pins s σ H Q I h => ?_⟩
  refine wpAny_Call_Name_kw (ld_glob I hg hm ?_ hdb)
  refine PySem.W.callWith_K (h₀ := X.base) I.ok.mod.kin hk (thn (ha.run pos pins s σ H _ I h) fun us s1 ⟨vs, H1, I1, r, q0⟩ => ⟨I1.kIn, ?_⟩) he hpl
  have mem : (a, oe) ∈ (X.suite a ((a, oe) :: pn)).pn := List.mem_cons_self
  obtain ⟨g, n, _, _, _⟩ := I1.pin (a, oe) (List.mem_append_left _ mem)
  have q := q0 oe hz hf n
  have hl : us.length = ps.length := by rw [← r.length]; exact F.len _ _ _ _ _ q
  have b := hb s1 us I1.kIn (by rw [List.append_nil]; exact hl)
  rw [List.append_nil] at b
  refine wpAny_call (codeAny_mono (F.run a (X.suite a ((a, oe) :: pn)).A (X.suite a ((a, oe) :: pn)).stack s1 _ ⟨us, []⟩ us vs _ (L2H.roomH_mark hr _) hgd rfl (env_give I1 mem bna) b r q) fun o t z => ?_)
  match o, z with
  | .error e, z => exact False.elim z
  | .ok (.ret u), z =>
    obtain ⟨v, H', os, bare, un, hok, rv, ea, q2⟩ := z
    obtain ⟨g', _⟩ := (show ObjOk X.prog X.w H' t.heap a (.ext fun h => h.get? a = some oe) from hok a _ ea)
    exact I1.after ⟨v, _, os, bare, un_back n ea g g' un, hok_drop ea hok, rv, q2⟩
end
end TS

set_option maxHeartbeats 2000000
/-! ### 45. comprehensions over zip while an exception is handled, that is told by the heap -/
namespace TS
open PySem PySem.Spec PyProof.Rows L2
open HotX (HotAt)
/-- the exception at e is told, its context is None -/
def Told (H : Hp) (e : Addr) : Prop := ∃ (oe : Obj) (vs : Array Value), H e = some (exE e oe) ∧ oe.data = .fields vs ∧ vs[2]? = some .none
theorem Told.same {H G : Hp} {e : Addr} (s : Same H G) (h : Told H e) : Told G e := let ⟨oe, vs, a, b⟩ := h; ⟨oe, vs, s _ _ a, b⟩
theorem Told.hot {X : Cx} {pins : List (Addr × Obj)} {σ : L2.St} {H : Hp} {s : Shared} {e : Addr} (h : Told H e) (hh : X.A.handled = some (.ref e)) (I : Inv X pins σ H s) : HotAt X.A e s.heap := by
  obtain ⟨oe, vs, a, b, c⟩ := h
  obtain ⟨g, _⟩ := (show ObjOk X.prog X.w H s.heap e (.ext fun h => h.get? e = some oe) from I.hok e _ a)
  exact ⟨hh, oe, vs, g, b, c⟩
theorem Told.ne {H : Hp} {e b : Addr} (h : Told H e) (n : H b = none) : e ≠ b := fun z => by
  obtain ⟨oe, vs, a, _⟩ := h
  rw [z, n] at a; cases a
structure TurnT (P : Program) (w : World) (K : PySem.W.Frag) (e : Addr) (tg : Expr) (J : It) (fp : List Addr) (it : Addr) (tn : Nat → Heap → Prop) : Prop where
  mem : it ∈ fp
  obj : ∀ i h, tn i h → ∀ b ∈ fp, ∃ o, h.get? b = some o ∧ ∀ v, o.data ≠ .cell v
  keep : ∀ i h h', tn i h → (∀ b ∈ fp, ∀ o, h.get? b = some o → h'.get? b = some o) → tn i h'
  item : ∀ (X : Cx), X.prog = P → X.w = w → X.K = K → X.A.handled = some (.ref e) → ∀ (i : Nat) (pins : List (Addr × Obj)) (s : Shared) (σ : L2.St) (H : Hp) (E : Value → Shared → Prop), Inv X pins σ H s → (∀ b ∈ fp, FpOk X pins H b) → tn i s.heap → J.go i H →
    wpAny (model P w) X.A (pyNext (.ref it)) (fun r s1 => ∃ u, r = some u ∧
      wpAny (model P w) X.A (letOwnedTupleGo tg (.ref it) u) (fun _ s2 => ∃ x H', Inv X pins σ H' s2 ∧ RelV x u ∧ J.yld i H x H' ∧ tn (i + 1) s2.heap ∧ ∀ b ∈ fp, H' b = none) E s1) E s
  done : ∀ (X : Cx), X.prog = P → X.w = w → X.K = K → X.A.handled = some (.ref e) → ∀ (i : Nat) (pins : List (Addr × Obj)) (s : Shared) (σ : L2.St) (H : Hp) (E : Value → Shared → Prop), Inv X pins σ H s → (∀ b ∈ fp, FpOk X pins H b) → tn i s.heap → J.stop i H →
    wpAny (model P w) X.A (pyNext (.ref it)) (fun r s1 => r = none ∧ Inv X pins σ H s1) E s
  self : ∀ (A : Around) (i : Nat) (s : Shared) (Q : Value → Shared → Prop) (E : Value → Shared → Prop), tn i s.heap → Q (.ref it) s → wpAny (model P w) A (pyIter (.ref it)) Q E s
/-- zip of two lists, the exception told at its end -/
def ItzE (K : PySem.W.Frag) (e a b : Addr) : It := ⟨(Itz K a b).go, (Itz K a b).yld, fun i H => (Itz K a b).stop i H ∧ Told H e⟩
theorem turn_zipE {P : Program} {w : World} {K : PySem.W.Frag} {e : Addr} {elts : List Expr} {kk : Nat} {tpos : Pos} {a b z TI TO i1 i2 : Addr} (D : ZipApart z TI TO i1 i2 a b) :
    TurnT P w K e (.Tuple elts kk tpos) (ItzE K e a b) [z, TI, TO, i1, i2] z (fun i h => IsZip h z TI TO .none ∧ IsPair h TI (.ref i1) (.ref i2) ∧ (∃ x y, IsPair h TO x y) ∧ h.IsListIter i1 a i ∧ h.IsListIter i2 b i) where
  mem := (turn_zip (P := P) (w := w) (K := K) (elts := elts) (kk := kk) (tpos := tpos) D).mem
  obj := (turn_zip (P := P) (w := w) (K := K) (elts := elts) (kk := kk) (tpos := tpos) D).obj
  keep := (turn_zip (P := P) (w := w) (K := K) (elts := elts) (kk := kk) (tpos := tpos) D).keep
  self := (turn_zip (P := P) (w := w) (K := K) (elts := elts) (kk := kk) (tpos := tpos) D).self
  item := by
    intro X hP hw hK hc i pins s σ H E I hf st hg
    subst hP hw hK
    obtain ⟨hz, hTI, ⟨x0, y0, hTO⟩, h1, h2⟩ := st
    obtain ⟨xs, ys, x, y, hqx, hqy, hx, hy⟩ := hg
    obtain ⟨its, rv, p, _⟩ := I.list hqx
    obtain ⟨its2, rv2, p2, _⟩ := I.list hqy
    obtain ⟨u, hu, ru⟩ := rv.get hx
    obtain ⟨u2, hu2, ru2⟩ := rv2.get hy
    have hzl : z < s.heap.objs.size := Heap.lt_size hz
    refine wpAny_pyNext_zip_item D hz hTI hTO h1 h2 p.isList p2.isList (x := u) (y := u2) (by simpa using hu) (by simpa using hu2) fun h' z' TO' h1' h2' hT hsz hk => ?_
    refine ⟨_, rfl, wpAny_letOwnedTupleGo_zip (s := { s with heap := h' }) z' fun h'' z'' sb => ?_⟩
    have hT2 : h''.get? s.heap.objs.size = some { cls := .type "tuple", data := .seq #[u, u2] } := (sb.2 _ (Nat.ne_of_gt hzl)).trans hT
    have new : ObjOk X.prog X.w (upd H s.heap.objs.size (.tup [x, y])) h'' s.heap.objs.size (.tup [x, y]) := ⟨by show 2 ≤ sizeLine; decide, [u, u2], .cons ru (.cons ru2 .nil), ⟨_, hT2, rfl, _, rfl⟩⟩
    have I1 : Inv X pins σ (upd H s.heap.objs.size (.tup [x, y])) { s with heap := h'' } :=
      I.turnedNew (t' := s.toks) (ch := [z, TI, TO, i1, i2]) (fun c o hb q => (sb.2 c (fun q' => hb (by simp [q']))).trans (hk c o (fun q' => hb (by simp [q'])) (fun q' => hb (by simp [q'])) (fun q' => hb (by simp [q'])) (fun q' => hb (by simp [q'])) q)) hf (Nat.le_refl _) new
    refine ⟨.ref s.heap.objs.size, _, I1, rfl, ⟨_, x, y, rfl, I.hok.fresh (Nat.le_refl _), rfl, fun l hl => by rw [I.list_inj hl hqx]; exact hx, fun l hl => by rw [I.list_inj hl hqy]; exact hy⟩, ⟨z'', ?_, ⟨u, u2, ?_⟩, ?_, ?_⟩, fun c hcm => ?_⟩
    · exact (sb.2 _ D.TIz).trans (hk _ _ D.TIz D.TITO D.TIi1 D.TIi2 hTI)
    · exact (sb.2 _ D.TOz).trans TO'
    · exact h1'.at fun o q => (sb.2 _ D.i1z).trans q
    · exact h2'.at fun o q => (sb.2 _ D.i2z).trans q
    · have hlt : c < s.heap.objs.size := by
        have e' : c = z ∨ c = TI ∨ c = TO ∨ c = i1 ∨ c = i2 := by simpa using hcm
        rcases e' with q | q | q | q | q
        · rw [q]; exact hzl
        · rw [q]; exact Heap.lt_size hTI
        · rw [q]; exact Heap.lt_size hTO
        · rw [q]; obtain ⟨_, e1, _⟩ := h1; exact Heap.lt_size e1
        · rw [q]; obtain ⟨_, e2, _⟩ := h2; exact Heap.lt_size e2
      rw [upd_ne (Nat.ne_of_lt hlt)]
      exact (hf c hcm).1
  done := by
    intro X hP hw hK hc i pins s σ H E I hf st hg
    subst hP hw hK
    obtain ⟨hz, hTI, ⟨x0, y0, hTO⟩, h1, h2⟩ := st
    obtain ⟨⟨xs, ys, hqx, hqy, hend⟩, told⟩ := hg
    obtain ⟨its, rv, p, _⟩ := I.list hqx
    obtain ⟨its2, rv2, p2, _⟩ := I.list hqy
    have l1 := rv.length
    have l2 := rv2.length
    have he : its.toArray[i]? = none ∨ its2.toArray[i]? = none := by
      rcases hend with q | q
      · exact .inl (by simp; omega)
      · exact .inr (by simp; omega)
    have nn : ∀ c, c ∈ [z, TI, TO, i1, i2] → e ≠ c := fun c hcm => told.ne (hf c hcm).1
    exact pyNext_zip_hot (told.hot hc I) (nn _ (by simp)) (nn _ (by simp)) (nn _ (by simp)) (nn _ (by simp)) D hz hTI hTO h1 h2 p.isList p2.isList he fun h' hk => ⟨rfl, I.turnedL (t' := s.toks) (ch := [z, TI, TO, i1, i2]) (fun c o hb q =>
      hk c o (fun q' => hb (by simp [q'])) (fun q' => hb (by simp [q'])) (fun q' => hb (by simp [q'])) (fun q' => hb (by simp [q'])) q) hf⟩
def PIET (X : Cx) (e : Addr) (pins : List (Addr × Obj)) (σ : L2.St) (tg : Expr) (R : It → Hp → Prop) (itv : Value) (s2 : Shared) : Prop :=
  ∃ (it : Addr) (fp : List Addr) (tn : Nat → Heap → Prop) (J : It) (H' : Hp), itv = .ref it ∧ Inv X pins σ H' s2 ∧ TurnT X.prog X.w X.K e tg J fp it tn ∧ tn 0 s2.heap ∧ (∀ b ∈ fp, FpOk X pins H' b) ∧ R J H'
structure PIT (X : Cx) (e : Addr) (tg iter : Expr) (wi : TI) : Prop where
  run : ∀ (pins : List (Addr × Obj)) (s : Shared) (σ : L2.St) (H : Hp) (R : It → Hp → Prop), Inv X pins σ H s → wi σ H R →
    wpAny (model X.prog X.w) X.A (eval iter X.env) (fun v s1 => wpAny (model X.prog X.w) X.A (pyIter v) (PIET X e pins σ tg R) X.xe s1) X.xe s
def iZipE (K : PySem.W.Frag) (e : Addr) (ta : TA) : TI := fun σ H R => ta σ H fun vs H1 => ∃ a b xs ys, vs = [.ref a, .ref b] ∧ SqL K H1 a xs ∧ SqL K H1 b ys ∧ R (ItzE K e a b) H1
theorem pi_zipE {X : Cx} {K : PySem.W.Frag} {e : Addr} {x y : Expr} {ta : TA} {p pos tpos : Pos} {elts : List Expr} {kk : Nat} (hK : X.K = K) (hg : Gl X "zip") (hm : X.mg "zip" = none) (ha : PA X [x, y] ta)
    (hs : starEach [x, y] X.env = (false, eval x X.env) :: starEach [y] X.env := by rfl) (hpl : (backTo pos (starEach [y] X.env)).any (·.1) = false := by rfl) :
    PIT X e (.Tuple elts kk tpos) (.Call (.Name "zip" p) [x, y] [] pos) (iZipE K e ta) := by
  subst hK
  refine ⟨fun pins s σ H R I h => ?_⟩
  refine Call_ (ld_blt I hg hm PyProof.Rows.boot_zip (PyProof.Rows.callWith_type1 (thn (ha.run pos pins s σ H _ I h) fun us s1 ⟨vs, H1, I1, r1, q1⟩ => ?_) hs hpl))
  obtain ⟨a, b, xs, ys, ex, hqx, hqy, q⟩ := q1
  subst ex
  obtain ⟨u, v, rfl, r, r'⟩ := vals2 r1
  cases r
  cases r'
  obtain ⟨its, rv, p1, _⟩ := I1.list hqx
  obtain ⟨its2, rv2, p2, _⟩ := I1.list hqy
  refine call_zip_2 p1.isList p2.isList fun h' hz hTI hTO h1 h2 hsz hk => wpAny_pyIter_zip hz ?_
  have I2 : Inv X pins σ H1 { s1 with heap := h' } := I1.kept (t' := s1.toks) hk
  refine ⟨s1.heap.objs.size + 4, [s1.heap.objs.size + 4, s1.heap.objs.size + 2, s1.heap.objs.size + 3, s1.heap.objs.size, s1.heap.objs.size + 1], _, _, H1, rfl, I2, turn_zipE (PySem.W.ktu_apart s1.heap.objs.size a b p1.lt p2.lt), ⟨hz, hTI, ⟨_, _, hTO⟩, h1, h2⟩, fun c hcm => ?_, q⟩
  have hle : s1.heap.objs.size ≤ c := by
    have e' : c = s1.heap.objs.size + 4 ∨ c = s1.heap.objs.size + 2 ∨ c = s1.heap.objs.size + 3 ∨ c = s1.heap.objs.size ∨ c = s1.heap.objs.size + 1 := by simpa using hcm
    have : (s1.heap.objs.size : Nat) ≤ c := by
      rcases e' with z | z | z | z | z
      · rw [z]; exact Nat.le_add_right _ _
      · rw [z]; exact Nat.le_add_right _ _
      · rw [z]; exact Nat.le_add_right _ _
      · rw [z]; exact Nat.le_refl _
      · rw [z]; exact Nat.le_add_right _ _
    exact this
  exact I1.fpOk hle (I1.hok.fresh hle)
/-- a pair taken apart -/
def gTupE (K : PySem.W.Frag) (e : Addr) (n : Nat) (t : TGs) : TG := fun v σ H Q => ∃ a xs, v = .ref a ∧ SqT K H a xs ∧ xs.length = n ∧ Told H e ∧ t xs σ H Q
theorem pg_tupE {X : Cx} {K : PySem.W.Frag} {e : Addr} {es : List Expr} {k : Nat} {t : TGs} {n : Nat} {pos : Pos} (hK : X.K = K) (hh : X.A.handled = some (.ref e)) (h : PGs X es t)
    (hn : (assignEach es X.env).length = n := by rfl) (hst : (assignEach es X.env).findIdx? (·.1) = none := by rfl) : PG X (.Tuple es k pos) (gTupE K e n t) := by
  subst hK
  refine ⟨fun pins s σ H v u Q I r hw => ?_⟩
  obtain ⟨a, xs, e1, hq, hl, told, hw⟩ := hw
  subst e1
  cases r
  obtain ⟨its, rv, ht, hz⟩ := I.tuple hq
  refine assign_tuple_hot (told.hot hh I) ht (by simp [hn, ← hl, rv.length]) hst fun h' hx => ?_
  have I1 : Inv X pins σ H { s with heap := h' } := I.kept (t' := s.toks) fun b o e => hx b o (Nat.ne_of_lt (Heap.lt_size e)) e
  exact h.run pins _ σ H xs _ Q I1 (by simpa using rv) hw
end TS

set_option maxHeartbeats 2000000
namespace TS
open PySem PySem.Spec PyProof.Rows L2
/-- [elt for target in iter if ..] while the exception at e is handled -/
theorem pe_lcE {X : Cx} {e : Addr} {elt tg iter : Expr} {ifs : List Expr} {scope : Scope} {own : List (Str × Nat)} {pos : Pos} {wi : TI} {g : TG} {tt : TT} {te : TE} (hc : X.A.handled = some (.ref e)) (hN : X.N.Nodup) (hi : PIT X e tg iter wi) (ok : BlkOk X.N X.env.scope scope own)
    (hg : ∀ (s : Shared) (H : Hp) (C : Addr) (cl : List (Str × Addr)) (fp : List Addr), PG (X.blk s H scope (compEnvC scope cl C X.env) fp) tg g) (ht : ∀ (s : Shared) (H : Hp) (C : Addr) (cl : List (Str × Addr)) (fp : List Addr), PTs (X.blk s H scope (compEnvC scope cl C X.env) fp) ifs tt)
    (he : ∀ (s : Shared) (H : Hp) (C : Addr) (cl : List (Str × Addr)) (fp : List Addr), PE (X.blk s H scope (compEnvC scope cl C X.env) fp) elt te) (hs : ∀ x, foldedSetIterable iter X.env x = pure x := by intro _; rfl) :
    PE X (.ListComp elt [⟨tg, iter, ifs, 0⟩] scope pos) (tLc wi g tt te (own.map (·.2))) := by
  refine ⟨fun pins s σ H Q I h => ?_⟩
  rw [eval_ListComp]
  have hfree : ∀ y ∈ scope.names, y.2 = .free → ∃ c, X.env.cells.lookup y.1 = some c := fun y hy q => by
    rcases ok.free y hy q with k | k
    · exact I.ok.has _ (.inl k)
    · exact I.ok.has _ (.inr k)
  refine wpAny_comprehension_free rfl hs (closure_ok hfree) ok.kind (fun y hy q => by rw [ok.uniq y hy, q])
    (thn (hi.run pins s σ H _ I h) fun xv s1 hx => thn hx fun itv s2 h2 => ?_)
  obtain ⟨it, fp, tn, J, H2, ei, I2, T, st2, f2, q⟩ := h2
  subst ei
  refine wpAny_newObj_type (newEnv_comp ?_) (by show 0 ≤ sizeLine; decide)
  generalize hD : s2.heap.objs.size = D
  obtain ⟨W, ⟨m0, w0⟩, turn⟩ := q D (I2.hok.fresh (Nat.le_of_eq hD))
  generalize hs3 : ({ s2 with heap := s2.heap.push { cls := .type "list", data := .seq ([] : List Value).toArray } } : Shared) = s3
  have I3 : Inv X pins σ (upd H2 D (.lst [])) s3 := by
    rw [← hs3]
    refine I2.laid (t' := s2.toks) (fun b o q => Heap.get?_push_of_some _ q) (Nat.le_of_eq hD) ⟨Nat.zero_le _, [], 0, .nil, ?_⟩
    rw [← hD]
    exact Heap.get?_push_size _ rfl
  have h3 : s3.heap = s2.heap.push { cls := .type "list", data := .seq ([] : List Value).toArray } := by rw [← hs3]
  have f3 : ∀ b ∈ fp, FpOk X pins (upd H2 D (.lst [])) b ∧ b < s3.heap.objs.size := fun b hb => by
    obtain ⟨o, eo, _⟩ := T.obj _ _ st2 b hb
    have hlt := Heap.lt_size eo
    refine ⟨⟨?_, (f2 b hb).2⟩, by rw [h3, Heap.size_push]; exact Nat.lt_succ_of_lt hlt⟩
    rw [upd_ne (by rw [← hD]; exact Nat.ne_of_lt hlt)]
    exact (f2 b hb).1
  have st3 : tn 0 s3.heap := T.keep _ _ _ st2 fun b _ o q => by rw [h3]; exact Heap.get?_push_of_some _ q
  have I4 := block_start I3 ok hN f3
  have pg := hg s3 (upd H2 D (.lst [])) s3.heap.objs.size (cellsFrom (s3.heap.objs.size + 1) scope.names (cloFrom X.env.cells scope.names [])) fp
  have pt := ht s3 (upd H2 D (.lst [])) s3.heap.objs.size (cellsFrom (s3.heap.objs.size + 1) scope.names (cloFrom X.env.cells scope.names [])) fp
  have pe := he s3 (upd H2 D (.lst [])) s3.heap.objs.size (cellsFrom (s3.heap.objs.size + 1) scope.names (cloFrom X.env.cells scope.names [])) fp
  show codeAny _ _ (.compStart (.ListComp elt [⟨tg, iter, ifs, 0⟩] scope pos) 0 (.ref it) (.ref D) (compEnvC scope (cellsFrom (s3.heap.objs.size + 1) scope.names (cloFrom X.env.cells scope.names [])) s3.heap.objs.size X.env)) _ { s3 with heap := pushCells (s3.heap.push { cls := .type "dict", data := .dict #[] }) scope.names }
  have nfp : ∀ b ∈ fp, (upd H2 D (.lst [])) b = none := fun b hb => (f3 b hb).1.1
  generalize hce : compEnvC scope (cellsFrom (s3.heap.objs.size + 1) scope.names (cloFrom X.env.cells scope.names [])) s3.heap.objs.size X.env = ce at I4 pg pt pe ⊢
  have cL : ce.locals = s3.heap.objs.size := by subst hce; rfl
  generalize hH3 : upd H2 D (.lst []) = H3 at I3 I4 pg pt pe w0 nfp f3
  generalize hs4 : ({ s3 with heap := pushCells (s3.heap.push { cls := .type "dict", data := .dict #[] }) scope.names } : Shared) = s4 at I4 ⊢
  have st4 : tn 0 s4.heap := T.keep _ _ _ st3 fun b _ o q => by rw [← hs4]; exact pushCells_keeps _ _ _ _ (Heap.get?_push_of_some _ q)
  have stat : ∀ {σ' : L2.St} {H' : Hp} {s' : Shared}, Inv (X.blk s3 H3 scope ce fp) [] σ' H' s' → (∀ b ∈ fp, H' b = none) → ∀ b ∈ fp, FpOk (X.blk s3 H3 scope ce fp) [] H' b := fun {σ' H' s'} I' hn b hb =>
    ⟨hn b hb, (I'.ok.exf b hb).1, I'.ok.exfs b hb, .inl hb, fun x c q => (I'.ok.exf b hb).2 x c q, fun p hp => absurd (show p ∈ ([] : List (Addr × Obj)) ++ [] from hp) (by simp)⟩
  have loop : codeAny (model X.prog X.w) X.A (.compLoop (.ListComp elt [⟨tg, iter, ifs, 0⟩] scope pos) 0 (.ref it) (.ref D) ce) (compPost (model X.prog X.w) X.A X.xe none (EP X pins σ Q) (.ref D) s3.heap.objs.size) s4 := by
    refine compLoop_any (fun n s' => ∃ i H', Inv (X.blk s3 H3 scope ce fp) [] (wipe σ (own.map (·.2))) H' s' ∧ tn i s'.heap ∧ (∀ b ∈ fp, H' b = none) ∧ W i n H') ?_ m0 ⟨0, H3, I4, st4, nfp, w0⟩
    rintro n s5 ⟨i, H5, I5, st5, n5, w5⟩
    rcases turn i n H5 w5 with ⟨stop, qq⟩ | ⟨go, Nx, hNx, step⟩
    · have td := T.done (X.blk s3 H3 scope ce fp) rfl rfl rfl hc i [] s5 _ H5 (fun _ _ => False) I5 (stat I5 n5) st5 stop
      refine thnF td fun r s6 ⟨hr, I6⟩ => ?_
      subst hr
      have I7 : Inv X pins σ H5 s6 := I3.call' (ch := fp) I6.os I6.base I6.hok I6.bare fun b hb => ⟨(f3 b hb).1.2.2.2.1, (f3 b hb).1.2.1, (f3 b hb).1.2.2.2.2.1, (f3 b hb).1.2.2.2.2.2⟩
      have nC : H5 s3.heap.objs.size = none := by
        have z : H5 ce.locals = none := I6.free
        rw [cL] at z
        exact z
      obtain ⟨m, hn, _⟩ := I6.loc
      have hn : s6.heap.Ns ce.locals m := hn
      rw [cL] at hn
      obtain ⟨c0, c1, c2, c3, c4, c5⟩ := I3.fpOk (Nat.le_refl _) nC
      exact ⟨m, hn, fun h'' sb => ⟨.ref D, H5, I7.turned (t' := s6.toks) (fun b o hb q => (sb.2 b hb).trans q) c0 c1 c3 c4 c5, rfl, qq⟩⟩
    · have ti := T.item (X.blk s3 H3 scope ce fp) rfl rfl rfl hc i [] s5 _ H5 (fun _ _ => False) I5 (stat I5 n5) st5 go
      refine thnF ti fun r s6 ⟨u, hr, h6⟩ => ?_
      subst hr
      refine thnF h6 fun _ s7 ⟨x, H7, I7, r7, y7, st7, n7⟩ => ?_
      have I7' := I7.pinned (stat I7 n7) (T.obj _ _ st7)
      refine thnF (pg.run _ s7 _ H7 x u _ I7' r7 (step x H7 y7)) fun _ s8 ⟨σ8, H8, I8, hw8, q8⟩ => ?_
      refine thnF (pt.run _ s8 σ8 H8 _ I8 q8) fun b s9 ⟨H9, I9, q9⟩ => ?_
      have fin : ∀ {s' : Shared} {H' : Hp}, Inv (X.blk s3 H3 scope ce fp) ([] ++ pinsAt fp s7.heap) σ8 H' s' → Nx H' → ∃ m, m < n ∧ ∃ i H', Inv (X.blk s3 H3 scope ce fp) [] (wipe σ (own.map (·.2))) H' s' ∧ tn i s'.heap ∧ (∀ b ∈ fp, H' b = none) ∧ W i m H' := fun {s' H'} I' nx => by
        obtain ⟨m', hm, w'⟩ := hNx H' nx
        have pin' : ∀ b ∈ fp, ∀ o, s7.heap.get? b = some o → s'.heap.get? b = some o ∧ H' b = none := fun b hb o q =>
          let z := I'.pin (b, o) (List.mem_append_right _ (List.mem_append_right _ (mem_pinsAt hb q)))
          ⟨z.1, z.2.1⟩
        have hl : (wipe σ (own.map (·.2))).length = σ8.length := by rw [← hw8, wipe_length]
        refine ⟨m', hm, i + 1, H', (I'.unpinned (pins := [])).weak hl (fun j v q => ?_), T.keep _ _ _ st7 fun b hb o q => (pin' b hb o q).1, fun b hb => ?_, w'⟩
        · rw [← hw8] at q
          exact (wipe_some q).1
        · obtain ⟨o, q, _⟩ := T.obj _ _ st7 b hb
          exact (pin' b hb o q).2
      cases b with
      | false =>
        simp only [Bool.false_eq_true, if_false] at q9 ⊢
        exact fin I9 q9
      | true =>
        simp only [if_true] at q9 ⊢
        refine thnF (pe.run _ s9 σ8 H9 _ I9 q9) fun z s10 ⟨yv, H10, I10, r10, acc, hD10, hz10, nx⟩ => ?_
        exact app_ok (X := X.blk s3 H3 scope ce fp) I10 hD10 hz10 r10 fun s11 I11 => fin I11 nx
  exact codeAny_compStart_list loop (T.self X.A 0 _ _ _ st4 loop)
/-- the same walk, told throughout -/
theorem walk_zipE {K : PySem.W.Frag} {e a b : Addr} {xs ys : List V} {n : Nat} (hn : n = min xs.length ys.length) : Walk (ItzE K e a b) n (fun H => (SqL K H a xs ∧ SqL K H b ys) ∧ Told H e) (YPair (fun i => xs[i]?) (fun i => ys[i]?)) :=
  let w := walk_zip (K := K) (a := a) (b := b) hn
  ⟨fun i H hi h => w.goes i H hi h.1, fun H h => ⟨w.stops H h.1, h.2⟩, fun i H x H' hi h y => w.yields i H x H' hi h.1 y⟩
end TS

namespace TS
open PySem PySem.Spec PyProof.Rows L2 TL
def top (i : Nat) : Stmt := PySem.Challenge.pw_termshelf_k02_letters_and_numbers.main.body.getD i (.Pass ⟨0, 0, 0, 0⟩)
/-! ### marks: whole numbers, names -/
def wholeD (lo hi : Int) : PyData → Bool
  | .int i => decide (lo ≤ i) && decide (i ≤ hi)
  | _ => false
def smallS (z : Str) : Bool := z.cps.toList.all fun c => decide (97 ≤ c) && decide (c ≤ 122)
def nameS (z : Str) : Bool := decide (1 ≤ z.length) && decide (z.length ≤ 8) && smallS z
def nameD : PyData → Bool
  | .str z => nameS z
  | _ => false
def SMALLs : Str := "abcdefghijklmnopqrstuvwxyz"
theorem in_small (c : Nat) : decide (c ∈ SMALLs.cps.toList) = (decide (97 ≤ c) && decide (c ≤ 122)) := by
  have e : SMALLs.cps.toList = (List.range 26).map (· + 97) := by decide +kernel
  rw [e]
  by_cases h : 97 ≤ c ∧ c ≤ 122
  · rw [decide_eq_true h.1, decide_eq_true h.2]
    exact decide_eq_true (List.mem_map.mpr ⟨c - 97, List.mem_range.mpr (by omega), by omega⟩)
  · have n : c ∉ (List.range 26).map (· + 97) := fun m => by
      obtain ⟨k, hk, rfl⟩ := List.mem_map.mp m
      have := List.mem_range.mp hk
      omega
    rw [decide_eq_false n]
    by_cases h1 : 97 ≤ c
    · rw [decide_eq_true h1, decide_eq_false (fun h2 => h ⟨h1, h2⟩)]; rfl
    · rw [decide_eq_false h1]; rfl
theorem sz5' {n : Nat} (h : n ≤ 100000) : n < sizeLine := Nat.lt_of_le_of_lt h (by decide)
theorem sz5 {n : Nat} (h : n ≤ 100000) : n ≤ sizeLine := Nat.le_trans h (by decide)
theorem take_map {α β : Type} (f : α → β) {l : List α} {i : Nat} {c : α} (h : l[i]? = some c) : (l.take (i + 1)).map f = (l.take i).map f ++ [f c] := by
  rw [List.take_add_one, h, List.map_append]
  rfl
/-- a comprehension over a text's signs, one value a sign -/
theorem lc_signs {z : Str} {g : TG} {te : TE} {vs : List Nat} {σ : L2.St} {H1 : Hp} {D : Addr} {Qd : Hp → Prop} (f : Nat → V) (hz : z.length ≤ 100000) (hs : ∀ c H' (C : VK), C (f c) H' → g (.str ⟨#[c]⟩) (wipe σ vs) H' fun σ2 H2 => wipe σ2 vs = wipe σ vs ∧ te σ2 H2 C)
    (hd : Qd (L2.upd H1 D (.lst ((tl z).map f)))) (hg : ∀ x σ H C C', (∀ s h, C s h → C' s h) → g x σ H C → g x σ H C') :
    ∃ W : Nat → Nat → Hp → Prop, (∃ m, W 0 m (L2.upd H1 D (.lst []))) ∧ ∀ i m H, W i m H →
      ((Its z).stop i H ∧ Qd H) ∨ ((Its z).go i H ∧ ∃ Nx : Hp → Prop, (∀ H', Nx H' → ∃ m', m' < m ∧ W (i + 1) m' H') ∧ ∀ x H', (Its z).yld i H x H' → g x (wipe σ vs) H' fun σ2 H2 => wipe σ2 vs = wipe σ vs ∧ tYes σ2 H2 fun b H3 =>
        if b = true then te σ2 H3 fun y H4 => ∃ acc, H4 D = some (.lst acc) ∧ acc.length < sizeLine ∧ Nx (L2.upd H4 D (.lst (acc ++ [y]))) else Nx H3) := by
  refine lc_it walk_str (fun i H' => H' = L2.upd H1 D (.lst (((tl z).take i).map f))) rfl (fun _ _ _ _ => trivial) ?_ ?_
  · rintro i x H2 H3 hi rfl ⟨rfl, c, hc, rfl⟩
    have hc' : (tl z)[i]? = some c := by rw [← hc]; simp [tl]
    refine hg _ _ _ _ _ (fun s h q => ⟨q.1, by
      unfold tYes
      dsimp only
      rw [if_pos rfl]
      exact q.2⟩) (hs c _ (fun y H4 => ∃ acc, H4 D = some (.lst acc) ∧ acc.length < sizeLine ∧ L2.upd H4 D (.lst (acc ++ [y])) = L2.upd H1 D (.lst (((tl z).take (i + 1)).map f))) ⟨_, upd_same, ?_, ?_⟩)
    · refine sz5' ?_
      rw [len_tl] at hz
      rw [List.length_map, List.length_take]
      omega
    · rw [upd_upd, take_map f hc']
  · rintro H2 rfl
    have e : (tl z).take z.cps.size = tl z := List.take_of_length_le (by simp [tl])
    rw [e]
    exact hd
theorem gName_mono {i : Nat} (x : V) (σ : L2.St) (H : Hp) (C C' : L2.St → Hp → Prop) (h : ∀ s h, C s h → C' s h) (q : gName i x σ H C) : gName i x σ H C' := h _ _ q
def spWhole (K : PySem.W.Frag) : Sp := fun vs H Q _ => ∃ (x : V) (d : PyData) (lo hi : Int), vs = [x, .int lo, .int hi] ∧ Dt K H x d ∧ Q (.bl (wholeD lo hi d)) H
def spName (K : PySem.W.Frag) : Sp := fun vs H Q _ => ∃ (x : V) (d : PyData), vs = [x] ∧ Dt K H x d ∧ (∀ z, d = .str z → z.length ≤ 100000) ∧ ∀ H', Same H H' → Q (.bl (nameD d)) H'
section
variable {P : Program} {w : World} {K : PySem.W.Frag} {mg : Str → Option Value} {base : Heap}
abbrev s_is_whole : Stmt := top 11
theorem sc_is_whole : FnScope ["thing", "low", "high"] ["thing", "low", "high"] (defScope s_is_whole) := ⟨rfl, rfl, rfl, by decide +kernel, rfl, by decide +kernel, by decide +kernel⟩

theorem ok_is_whole (bt : Bt mg) (D : Def K mg "is_whole" s_is_whole) : Prom P w K mg base 1 "is_whole" ["thing", "low", "high"] (spWhole K) := by
  refine prom_mk D sc_is_whole (fun vs H Q E h => ?_) (fun _ _ _ _ _ _ us hl => match us, hl with | [_, _, _], _ => rfl) (fun f cdv A outer s H vs Q E hr h => ?_)
  · obtain ⟨x, d, lo, hi, rfl, _⟩ := h
    rfl
  · obtain ⟨x, d, lo, hi, rfl, hd, q⟩ := h
    refine ⟨_, (pss_one (ps_ret (pe_and (pe_callB (id := "isinstance") (isiK (K := K)) (by rfl) bt.isinstance_ (by decide +kernel) (pa_cons (pv 0) (pa_cons (pe_bltn (v := .ty "int") rfl bt.int_ (by decide +kernel) rfl) pa_nil))) (pe_and (pe_not (pe_callB (id := "isinstance") (isiK (K := K)) (by rfl) bt.isinstance_ (by decide +kernel) (pa_cons (pv 0) (pa_cons (pe_bltn (v := .ty "bool") rfl bt.bool_ (by decide +kernel) rfl) pa_nil)))) (pe_one (pe_chain op_le op_le (pv 1) (pv 0) (pv 2))))))), ?_⟩
    refine ⟨_, rfl, _, _, _, _, isD "int" d, rfl, .ty "int", hd.ty, isi_int, _, rfl, ite2 (fun c => ?_) (fun c => ?_)⟩
    · refine ⟨_, rfl, _, _, _, _, isD "bool" d, rfl, .ty "bool", hd.ty, isi_bool, _, rfl, _, rfl, ?_⟩
      rcases isD_int c with ⟨i, rfl⟩ | ⟨b, rfl⟩
      · cases hd
        rw [isD_intb]
        refine iteT ⟨_, rfl, _, rfl, _, _, rfl, rfl, _, rfl, ?_⟩
        replace q : Q (.bl (decide (lo ≤ i) && decide (i ≤ hi))) H := q
        by_cases h1 : lo ≤ i
        · rw [decide_eq_true h1] at q ⊢
          exact iteT ⟨_, rfl, _, _, rfl, rfl, q⟩
        · rw [decide_eq_false h1] at q ⊢
          exact iteF q
      · rw [isD_bools]
        exact iteF q
    · have e : wholeD lo hi d = false := by
        cases d <;> first | rfl | exact absurd (isD_ints _) c
      rw [e] at q
      exact q
end

end TS

namespace TS
open PySem PySem.Spec PyProof.Rows L2 TL
/-! ### numbers and letters -/
theorem iteT' {b : Bool} {A B : Prop} (h : b = true) (a : A) : if b = true then A else B := by rw [h]; exact iteT a
theorem iteF' {b : Bool} {A B : Prop} (h : b = false) (a : B) : if b = true then A else B := by rw [h]; exact iteF a
theorem neV_int {i j : Int} : (!decide (V.int i = V.int j)) = !decide (i = j) := by
  by_cases h : i = j
  · rw [h]; simp
  · rw [decide_eq_false h, decide_eq_false (fun z => h (V.int.inj z))]
theorem eqV_int {i j : Int} : decide (V.int i = V.int j) = decide (i = j) := by
  by_cases h : i = j
  · rw [h]; simp
  · rw [decide_eq_false h, decide_eq_false (fun z => h (V.int.inj z))]
theorem vals_rev : ∀ {vs : List V} {us : List Value}, Vals vs us → Vals vs.reverse us.reverse
  | _, _, .nil => .nil
  | _, _, .cons r t => by
    rw [List.reverse_cons, List.reverse_cons]
    exact (vals_rev t).append (.cons r .nil)
def digit (c : Nat) : Bool := decide (48 ≤ c) && decide (c ≤ 57)
theorem in_figures (c : Nat) : decide (c ∈ ("0123456789" : Str).cps.toList) = digit c := by
  have e : ("0123456789" : Str).cps.toList = (List.range 10).map (· + 48) := by decide +kernel
  rw [e]
  unfold digit
  by_cases h : 48 ≤ c ∧ c ≤ 57
  · rw [decide_eq_true h.1, decide_eq_true h.2]
    exact decide_eq_true (List.mem_map.mpr ⟨c - 48, List.mem_range.mpr (by omega), by omega⟩)
  · have n : c ∉ (List.range 10).map (· + 48) := fun m => by
      obtain ⟨k, hk, rfl⟩ := List.mem_map.mp m
      have := List.mem_range.mp hk
      omega
    rw [decide_eq_false n]
    by_cases h1 : 48 ≤ c
    · rw [decide_eq_true h1, decide_eq_false (fun h2 => h ⟨h1, h2⟩)]; rfl
    · rw [decide_eq_false h1]; rfl
/-- plainly written -/
def plainL (l : List Nat) : Bool := (decide (1 ≤ l.length) && decide (l.length ≤ 30)) && (l.all digit && !(decide (l.head? = some 48) && !decide (l = [48])))
def numR (lo hi : Int) : PyData → V
  | .str z => if plainL (tl z) && (decide (lo ≤ (NumText.digitsVal (tl z) : Nat)) && decide (((NumText.digitsVal (tl z) : Nat) : Int) ≤ hi)) then .int (NumText.digitsVal (tl z) : Nat) else .non
  | _ => .non
def spNumIn (K : PySem.W.Frag) : Sp := fun vs H Q _ => ∃ (x : V) (d : PyData) (lo hi : Int), vs = [x, .int lo, .int hi] ∧ Dt K H x d ∧ (∀ z, d = .str z → z.length ≤ 100000) ∧ ∀ H', Same H H' → Q (numR lo hi d) H'
section
variable {P : Program} {w : World} {K : PySem.W.Frag} {mg : Str → Option Value} {base : Heap}
abbrev s_number_in : Stmt := top 12
theorem sc_number_in : FnScope ["thing", "low", "high", "number", "sign"] ["thing", "low", "high"] (defScope s_number_in) := ⟨rfl, rfl, rfl, by decide +kernel, rfl, by decide +kernel, by decide +kernel⟩

theorem ok_number_in (bt : Bt mg) (k_MOST_FIGURES : ∃ t, mg "MOST_FIGURES" = some (.int 30 t)) (k_FIGURES : ∃ t, mg "FIGURES" = some (.str "0123456789" t)) (D : DefK K mg "number_in" s_number_in [("low", .int 0), ("high", .int 9999)]) :
    FnK P w K mg base 1 "number_in" s_number_in ["thing", "low", "high"] (spNumIn K) [("low", .int 0), ("high", .int 9999)] := by
  obtain ⟨t_MOST_FIGURES, c_MOST_FIGURES⟩ := k_MOST_FIGURES
  obtain ⟨t_FIGURES, c_FIGURES⟩ := k_FIGURES
  refine fnK_mk D sc_number_in (fun vs H Q E h => ?_) (fun f cdv A outer s H vs Q E hr h => ?_)
  · obtain ⟨x, d, lo, hi, rfl, _⟩ := h
    rfl
  · obtain ⟨x, d, lo, hi, rfl, hd, hz, q⟩ := h
    refine ⟨_, (pss_cons (ps_if (PW.pt (pw_or (pt_not (pt_val (pe_callB (id := "isinstance") (isiK (K := K)) (by rfl) bt.isinstance_ (by decide +kernel) (pa_cons (pv 0) (pa_cons (pe_bltn (v := .ty "str") rfl bt.str_ (by decide +kernel) rfl) pa_nil))))) (pw_or1 (pt_not (pt_chain op_le op_le pe_int (pe_callB (id := "len") (lenK (K := K)) (by rfl) bt.len_ (by decide +kernel) (pa_cons (pv 0) pa_nil)) (pe_glob (v := .int 30) rfl c_MOST_FIGURES ⟨_, rfl⟩)))))) (pss_one (ps_ret pe_non)) pss_nil)
      (pss_cons (ps_if (PW.pt (pw_or (pt_not (pt_val (pe_callB (id := "all") (allK (K := K) rfl) (by rfl) bt.all_ (by decide +kernel) (pa_cons (pe_lc (own := [("sign", 4)]) (g := gName 4) rfl sc_number_in.nd (pi_str (pv 0)) (blkOk_by (N := ["thing", "low", "high", "number", "sign"]) (sc := defScope s_number_in) (by decide +kernel)) (fun _ _ _ _ _ => (pg_name (i := 4) sc_number_in.nd rfl (Or.inl rfl))) (fun _ _ _ _ _ => pts_nil) (fun _ _ _ _ _ => (pe_cmpR op_in_sign (pv 4) (pe_glob (v := .str "0123456789") rfl c_FIGURES ⟨_, rfl⟩) rfl))) pa_nil)))) (pw_or1 (PW.pt (pw_and (pt_cmpR op_eq (pe_ix ix_str (pv 0) pe_int (fun _ _ => rfl)) pe_str (nomark _)) (pw_and1 (pt_cmpR op_ne (pv 0) pe_str (nomark _)))))))) (pss_one (ps_ret pe_non)) pss_nil)
      (pss_cons (ps_set (i := 3) sc_number_in.nd rfl (Or.inl rfl) (pe_callTy (T := "int") call_int_str (by rfl) bt.int_ (by decide +kernel) (pa_cons (pv 0) pa_nil)))
      (pss_one (ps_ret (pe_ifExp (pt_chain op_le op_le (pv 1) (pv 3) (pv 2)) (pv 3) pe_non)))))), ?_⟩
    refine ⟨_, rfl, _, _, _, _, isD "str" d, rfl, .ty "str", hd.ty, isi_str, _, rfl, ?_⟩
    cases c : isD "str" d with
    | false =>
      have e : numR lo hi d = .non := by
        cases d <;> first | rfl | (rw [isD_strs] at c; cases c)
      rw [e] at q
      exact iteT (iteT (q _ (Same.refl _)))
    | true =>
      obtain ⟨z, rfl⟩ := isD_str c
      cases hd
      have hz' := hz z rfl
      refine iteF ⟨_, rfl, _, _, rfl, ⟨sz5 hz', rfl⟩, _, _, rfl, rfl, _, rfl, ?_⟩
      have non : plainL (tl z) = false → ∀ G, Same H G → Q .non G := fun e G sG => by
        have e2 : numR lo hi (.str z) = .non := by
          show (if (plainL (tl z) && _) = true then _ else _) = _
          rw [e]
          rfl
        have := q G sG
        rw [e2] at this
        exact this
      have len0 : (tl z).length = z.length := (len_tl z).symm
      by_cases h1 : 1 ≤ z.length
      · rw [decide_eq_true (show (1 : Int) ≤ (z.length : Nat) by omega)]
        refine iteT ⟨_, _, rfl, rfl, _, rfl, ?_⟩
        by_cases h2 : z.length ≤ 30
        · rw [decide_eq_true (show ((z.length : Nat) : Int) ≤ 30 by omega)]
          refine iteF ⟨_, rfl, z, rfl, fun L hL => ?_⟩
          have sL : ∀ o : HO, Same H (L2.upd H L o) := fun o => Same.new (Same.refl _) hL
          refine lc_signs (fun c => V.bl (decide (c ∈ ("0123456789" : Str).cps.toList))) hz' (fun c G C qq => ⟨rfl, _, rfl, c, _, rfl, rfl, qq⟩) ?_ gName_mono
          refine ⟨L, (tl z).map fun c => decide (c ∈ ("0123456789" : Str).cps.toList), rfl, .inl (.inl (by rw [upd_same, List.map_map]; rfl)), _, rfl, ?_⟩
          have e : ((tl z).map fun c => decide (c ∈ ("0123456789" : Str).cps.toList)).all id = (tl z).all digit := by
            rw [List.all_map]
            congr 1
            funext c
            exact in_figures c
          rw [e]
          have sG := sL (.lst ((tl z).map fun c => V.bl (decide (c ∈ ("0123456789" : Str).cps.toList))))
          generalize L2.upd H L _ = G at sG ⊢
          obtain ⟨c0, r0, er⟩ : ∃ c r, tl z = c :: r := by
            cases ez : tl z with
            | nil => rw [ez] at len0; simp at len0; omega
            | cons c r => exact ⟨c, r, rfl⟩
          cases al : (tl z).all digit with
          | false =>
            refine iteT (iteT (non ?_ _ sG))
            unfold plainL
            rw [al, Bool.false_and, Bool.and_false]
          | true =>
            refine iteF ⟨_, rfl, z, _, c0, rfl, rfl, sz5 hz', atI_nat (j := 0) (by show (tl z)[0]? = _; rw [er]; rfl), rfl, _, rfl, ?_⟩
            have dc : decide (V.str ⟨#[c0]⟩ = V.str "0") = decide (c0 = 48) := by
              have h : ("0" : Str) = ⟨#[48]⟩ := by decide +kernel
              rw [h]
              simp
            have dz : decide (V.str z = V.str "0") = decide (tl z = [48]) := by
              have h : ("0" : Str) = ⟨#[48]⟩ := by decide +kernel
              rw [h]
              by_cases hh : tl z = [48]
              · rw [decide_eq_true hh]
                exact decide_eq_true (congrArg V.str (ext_tl hh))
              · rw [decide_eq_false hh]
                exact decide_eq_false fun x => hh (by rw [V.str.inj x])
            have go : plainL (tl z) = true → ∀ C : Prop, True := fun _ _ => trivial
            have pl : plainL (tl z) = !(decide (c0 = 48) && !decide (tl z = [48])) := by
              unfold plainL
              rw [al, len0, decide_eq_true h1, decide_eq_true h2, er]
              simp
            have ci : PySem.intText? z = some ((NumText.digitsVal (tl z) : Nat) : Int) := PySem.intText_digits (by
              intro c hc
              have := List.all_eq_true.mp al c hc
              unfold digit at this
              obtain ⟨x1, x2⟩ := Bool.and_eq_true_iff.mp this
              exact ⟨of_decide_eq_true x1, of_decide_eq_true x2⟩) (by show tl z ≠ []; rw [er]; simp) (by omega)
            rw [dc]
            by_cases h48 : c0 = 48
            · rw [decide_eq_true h48]
              refine iteT ⟨_, rfl, rfl, _, rfl, ?_⟩
              rw [dz]
              by_cases hz0 : tl z = [48]
              · rw [decide_eq_true hz0]
                refine iteF ?_
                have plt : plainL (tl z) = true := by
                  rw [pl]
                  rw [decide_eq_true h48, decide_eq_true hz0]; rfl
                refine ⟨_, rfl, z, _, rfl, ci, by omega, _, rfl, _, rfl, _, _, rfl, rfl, _, rfl, ?_⟩
                have qq : Q (if (decide (lo ≤ ((NumText.digitsVal (tl z) : Nat) : Int)) && decide (((NumText.digitsVal (tl z) : Nat) : Int) ≤ hi)) = true then .int (NumText.digitsVal (tl z) : Nat) else .non) G := by
                  have := q G sG
                  rw [show numR lo hi (.str z) = (if (plainL (tl z) && (decide (lo ≤ ((NumText.digitsVal (tl z) : Nat) : Int)) && decide (((NumText.digitsVal (tl z) : Nat) : Int) ≤ hi))) = true then .int (NumText.digitsVal (tl z) : Nat) else .non) from rfl, plt, Bool.true_and] at this
                  exact this
                by_cases hlo : lo ≤ ((NumText.digitsVal (tl z) : Nat) : Int)
                · rw [decide_eq_true hlo, Bool.true_and] at qq
                  refine iteT' (decide_eq_true hlo) ⟨_, rfl, _, _, rfl, rfl, _, rfl, ?_⟩
                  by_cases hhi : ((NumText.digitsVal (tl z) : Nat) : Int) ≤ hi
                  · rw [decide_eq_true hhi] at qq
                    exact iteT' (decide_eq_true hhi) ⟨_, rfl, qq⟩
                  · rw [decide_eq_false hhi] at qq
                    exact iteF' (decide_eq_false hhi) qq
                · rw [decide_eq_false hlo] at qq
                  exact iteF' (decide_eq_false hlo) ⟨_, rfl, iteF qq⟩
              · rw [decide_eq_false hz0]
                refine iteT (non ?_ _ sG)
                rw [pl, decide_eq_true h48, decide_eq_false hz0]
                rfl
            · rw [decide_eq_false h48]
              refine iteF (iteF ?_)
              have plt : plainL (tl z) = true := by
                rw [pl]
                rw [decide_eq_false h48]; rfl
              refine ⟨_, rfl, z, _, rfl, ci, by omega, _, rfl, _, rfl, _, _, rfl, rfl, _, rfl, ?_⟩
              have qq : Q (if (decide (lo ≤ ((NumText.digitsVal (tl z) : Nat) : Int)) && decide (((NumText.digitsVal (tl z) : Nat) : Int) ≤ hi)) = true then .int (NumText.digitsVal (tl z) : Nat) else .non) G := by
                have := q G sG
                rw [show numR lo hi (.str z) = (if (plainL (tl z) && (decide (lo ≤ ((NumText.digitsVal (tl z) : Nat) : Int)) && decide (((NumText.digitsVal (tl z) : Nat) : Int) ≤ hi))) = true then .int (NumText.digitsVal (tl z) : Nat) else .non) from rfl, plt, Bool.true_and] at this
                exact this
              by_cases hlo : lo ≤ ((NumText.digitsVal (tl z) : Nat) : Int)
              · rw [decide_eq_true hlo, Bool.true_and] at qq
                refine iteT' (decide_eq_true hlo) ⟨_, rfl, _, _, rfl, rfl, _, rfl, ?_⟩
                by_cases hhi : ((NumText.digitsVal (tl z) : Nat) : Int) ≤ hi
                · rw [decide_eq_true hhi] at qq
                  exact iteT' (decide_eq_true hhi) ⟨_, rfl, qq⟩
                · rw [decide_eq_false hhi] at qq
                  exact iteF' (decide_eq_false hhi) qq
              · rw [decide_eq_false hlo] at qq
                exact iteF' (decide_eq_false hlo) ⟨_, rfl, iteF qq⟩
        · rw [decide_eq_false (show ¬ ((z.length : Nat) : Int) ≤ 30 by omega)]
          refine iteT (non ?_ _ (Same.refl _))
          unfold plainL
          rw [len0, decide_eq_false h2, Bool.and_false, Bool.false_and]
      · rw [decide_eq_false (show ¬ (1 : Int) ≤ (z.length : Nat) by omega)]
        refine iteF ⟨_, rfl, iteT (non ?_ _ (Same.refl _))⟩
        unfold plainL
        rw [len0, decide_eq_false h1]
        rfl
/-- number_in(t, high = u) -/
theorem num_high (h : FnK P w K mg base 1 "number_in" s_number_in ["thing", "low", "high"] (spNumIn K) [("low", .int 0), ("high", .int 9999)]) :
    PromK P w K mg base 1 "number_in" ["thing", "low", "high"] (spNumIn K) 1 ["high"] (fun vs zs => vs ++ ([V.int 0] ++ zs)) :=
  h.call 1 ["high"] [("low", .int 0)] (fun us mv ws => us ++ (mv ++ ws)) (by decide) (fun q hq => by rw [List.mem_singleton.mp hq]; simp) (fun r1 r2 r3 => r1.append (r2.append r3))
    (fun D doc pm an cdv ct us mv ws l1 l2 l3 => match us, l1, mv, l2, ws, l3 with | [u], _, [m], _, [v], _ => ⟨_, _, _, _, _, _, rfl, rfl, rfl⟩)
/-- number_in(t, low = u) -/
theorem num_low (h : FnK P w K mg base 1 "number_in" s_number_in ["thing", "low", "high"] (spNumIn K) [("low", .int 0), ("high", .int 9999)]) :
    PromK P w K mg base 1 "number_in" ["thing", "low", "high"] (spNumIn K) 1 ["low"] (fun vs zs => vs ++ (zs ++ [V.int 9999])) :=
  h.call 1 ["low"] [("high", .int 9999)] (fun us mv ws => us ++ (ws ++ mv)) (by decide) (fun q hq => by rw [List.mem_singleton.mp hq]; simp) (fun r1 r2 r3 => r1.append (r3.append r2))
    (fun D doc pm an cdv ct us mv ws l1 l2 l3 => match us, l1, mv, l2, ws, l3 with | [u], _, [m], _, [v], _ => ⟨_, _, _, _, _, _, rfl, rfl, rfl⟩)
/-- number_in(t, high = u, low = v) -/
theorem num_both (h : FnK P w K mg base 1 "number_in" s_number_in ["thing", "low", "high"] (spNumIn K) [("low", .int 0), ("high", .int 9999)]) :
    PromK P w K mg base 1 "number_in" ["thing", "low", "high"] (spNumIn K) 1 ["high", "low"] (fun vs zs => vs ++ zs.reverse) :=
  h.call 1 ["high", "low"] [] (fun us mv ws => us ++ ws.reverse) (by decide) (fun q hq => nomatch hq) (fun r1 r2 r3 => r1.append (vals_rev r3))
    (fun D doc pm an cdv ct us mv ws l1 l2 l3 => match us, l1, mv, l2, ws, l3 with | [u], _, [], _, [v, v2], _ => rfl)
/-- number_in(thing = t) -/
theorem num_thing (h : FnK P w K mg base 1 "number_in" s_number_in ["thing", "low", "high"] (spNumIn K) [("low", .int 0), ("high", .int 9999)]) :
    PromK P w K mg base 1 "number_in" ["thing", "low", "high"] (spNumIn K) 0 ["thing"] (fun vs zs => zs ++ [V.int 0, V.int 9999]) :=
  h.call 0 ["thing"] [("low", .int 0), ("high", .int 9999)] (fun us mv ws => ws ++ mv) (by decide) (fun q hq => hq) (fun r1 r2 r3 => r3.append r2)
    (fun D doc pm an cdv ct us mv ws l1 l2 l3 => match us, l1, mv, l2, ws, l3 with | [], _, [m, m2], _, [v], _ => ⟨_, _, _, _, _, _, rfl, rfl, _, _, _, _, _, _, rfl, rfl, rfl⟩)
def capL (c : Nat) : Bool := decide (65 ≤ c) && decide (c ≤ 90)
theorem in_caps (c : Nat) : decide (c ∈ ("ABCDEFGHIJKLMNOPQRSTUVWXYZ" : Str).cps.toList) = capL c := by
  have e : ("ABCDEFGHIJKLMNOPQRSTUVWXYZ" : Str).cps.toList = (List.range 26).map (· + 65) := by decide +kernel
  rw [e]
  unfold capL
  by_cases h : 65 ≤ c ∧ c ≤ 90
  · rw [decide_eq_true h.1, decide_eq_true h.2]
    exact decide_eq_true (List.mem_map.mpr ⟨c - 65, List.mem_range.mpr (by omega), by omega⟩)
  · have n : c ∉ (List.range 26).map (· + 65) := fun m => by
      obtain ⟨k, hk, rfl⟩ := List.mem_map.mp m
      have := List.mem_range.mp hk
      omega
    rw [decide_eq_false n]
    by_cases h1 : 65 ≤ c
    · rw [decide_eq_true h1, decide_eq_false (fun h2 => h ⟨h1, h2⟩)]; rfl
    · rw [decide_eq_false h1]; rfl
def letterL : List Nat → Bool
  | [] => false
  | c :: r => capL c && (decide (r = []) || (plainL r && decide (NumText.digitsVal r ≤ 99)))
def letterD : PyData → Bool
  | .str z => letterL (tl z)
  | _ => false
def spLetter (K : PySem.W.Frag) : Sp := fun vs H Q _ => ∃ (x : V) (d : PyData), vs = [x] ∧ Dt K H x d ∧ (∀ z, d = .str z → z.length ≤ 100000) ∧ ∀ H', Same H H' → Q (.bl (letterD d)) H'
abbrev s_is_letter : Stmt := top 13
theorem sc_is_letter : FnScope ["thing"] ["thing"] (defScope s_is_letter) := ⟨rfl, rfl, rfl, by decide +kernel, rfl, by decide +kernel, by decide +kernel⟩

theorem ok_is_letter (bt : Bt mg) (k_CAPITALS : ∃ t, mg "CAPITALS" = some (.str "ABCDEFGHIJKLMNOPQRSTUVWXYZ" t)) (k_LAST_LETTER : ∃ t, mg "LAST_LETTER" = some (.int 99 t)) (p_number_in : PromK P w K mg base 1 "number_in" ["thing", "low", "high"] (spNumIn K) 1 ["high"] (fun vs zs => vs ++ ([V.int 0] ++ zs))) (D : Def K mg "is_letter" s_is_letter) :
    Prom P w K mg base 2 "is_letter" ["thing"] (spLetter K) := by
  obtain ⟨t_CAPITALS, c_CAPITALS⟩ := k_CAPITALS
  obtain ⟨t_LAST_LETTER, c_LAST_LETTER⟩ := k_LAST_LETTER
  refine prom_mk D sc_is_letter (fun vs H Q E h => ?_) (fun _ _ _ _ _ _ us hl => match us, hl with | [_], _ => rfl) (fun f cdv A outer s H vs Q E hr h => ?_)
  · obtain ⟨x, d, rfl, _⟩ := h
    rfl
  · obtain ⟨x, d, rfl, hd, hz, q⟩ := h
    refine ⟨_, (pss_cons (ps_if (PW.pt (pw_or (pt_not (pt_val (pe_callB (id := "isinstance") (isiK (K := K)) (by rfl) bt.isinstance_ (by decide +kernel) (pa_cons (pv 0) (pa_cons (pe_bltn (v := .ty "str") rfl bt.str_ (by decide +kernel) rfl) pa_nil))))) (pw_or (pt_cmpR op_eq (pv 0) pe_str (nomark _)) (pw_or1 (pt_cmpR op_notIn_sign (pe_ix ix_str (pv 0) pe_int (fun _ _ => rfl)) (pe_glob (v := .str "ABCDEFGHIJKLMNOPQRSTUVWXYZ") rfl c_CAPITALS ⟨_, rfl⟩) rfl))))) (pss_one (ps_ret pe_bl)) pss_nil)
      (pss_one (ps_ret (pe_or (pe_cmpR op_eq (pe_callB (id := "len") (lenK (K := K)) (by rfl) bt.len_ (by decide +kernel) (pa_cons (pv 0) pa_nil)) pe_int (nomark _)) (pe_one (pe_cmpR op_notN (pe_pcK p_number_in (hr.mono (by decide)) rfl (pa_cons (pe_slice sl_str (pv 0) (po_some pe_int) po_none) pa_nil) (pk_cons (pe_glob (v := .int 99) rfl c_LAST_LETTER ⟨_, rfl⟩) pk_nil)) pe_non (nomark _))))))), ?_⟩
    refine ⟨_, rfl, _, _, _, _, isD "str" d, rfl, .ty "str", hd.ty, isi_str, _, rfl, ?_⟩
    cases c : isD "str" d with
    | false =>
      have e : letterD d = false := by
        cases d <;> first | rfl | (rw [isD_strs] at c; cases c)
      rw [e] at q
      exact iteT (iteT (q _ (Same.refl _)))
    | true =>
      obtain ⟨z, rfl⟩ := isD_str c
      cases hd
      have hz' := hz z rfl
      replace q : ∀ G, Same H G → Q (.bl (letterL (tl z))) G := q
      refine iteF ⟨_, rfl, rfl, _, rfl, ?_⟩
      have len0 : (tl z).length = z.length := (len_tl z).symm
      cases er : tl z with
      | nil =>
        have ez : z = "" := ext_tl (by rw [er]; decide +kernel)
        refine iteT' (by rw [ez]; simp) (iteT ?_)
        have := q H (Same.refl _)
        rw [er] at this
        exact this
      | cons c0 r0 =>
        have nz : ¬ V.str z = V.str "" := fun e => by
          rw [V.str.inj e] at er
          have : tl ("" : Str) = [] := by decide +kernel
          rw [this] at er
          cases er
        refine iteF' (decide_eq_false nz) ⟨_, rfl, z, _, c0, rfl, rfl, sz5 hz', atI_nat (j := 0) (by show (tl z)[0]? = _; rw [er]; rfl), c0, _, rfl, rfl, _, rfl, ?_⟩
        rw [in_caps]
        rw [er] at q
        replace q : ∀ G, Same H G → Q (.bl (capL c0 && (decide (r0 = []) || (plainL r0 && decide (NumText.digitsVal r0 ≤ 99))))) G := q
        cases hc : capL c0 with
        | false =>
          rw [hc] at q
          exact iteT (q _ (Same.refl _))
        | true =>
          rw [hc, Bool.true_and] at q
          refine iteF ⟨_, rfl, _, _, rfl, ⟨sz5 hz', rfl⟩, rfl, _, rfl, ?_⟩
          rw [eqV_int]
          have lz : z.length = r0.length + 1 := by rw [← len0, er]; rfl
          by_cases hr0 : r0 = []
          · rw [decide_eq_true hr0] at q
            refine iteT' (decide_eq_true (by rw [lz, hr0]; rfl)) ?_
            exact q _ (Same.refl _)
          · rw [decide_eq_false hr0, Bool.false_or] at q
            have hl : r0.length ≠ 0 := fun e => hr0 (List.length_eq_zero_iff.mp e)
            refine iteF' (decide_eq_false (by omega)) ?_
            have ec : cutS z (some 1) none = ⟨r0.toArray⟩ := by
              refine ext_tl ?_
              rw [tl_mk]
              show ((tl z).drop (HT.sIx z.length 0 (some ((1 : Nat) : Int)))).take (HT.sIx z.length z.length none - HT.sIx z.length 0 (some ((1 : Nat) : Int))) = r0
              rw [HT.sIx_nat, HT.sIx_none, Nat.min_eq_left (by omega), er]
              show r0.take (z.length - 1) = r0
              exact List.take_of_length_le (by omega)
            refine ⟨_, rfl, _, rfl, z, rfl, sz5 hz', rfl, rfl, _, .str (cutS z (some 1) none), 0, 99, rfl, .str _, fun y e => ?_, fun G sG => ⟨rfl, ?_⟩⟩
            · cases e
              rw [ec, len_tl, tl_mk]
              omega
            · rw [ec]
              have e2 : (!decide (numR 0 99 (.str ⟨r0.toArray⟩) = V.non)) = (plainL r0 && decide (NumText.digitsVal r0 ≤ 99)) := by
                show (!decide ((if (plainL (tl ⟨r0.toArray⟩) && (decide ((0 : Int) ≤ ((NumText.digitsVal (tl ⟨r0.toArray⟩) : Nat) : Int)) && decide (((NumText.digitsVal (tl ⟨r0.toArray⟩) : Nat) : Int) ≤ 99))) = true then V.int (NumText.digitsVal (tl ⟨r0.toArray⟩) : Nat) else V.non) = V.non)) = _
                rw [tl_mk, decide_eq_true (show (0 : Int) ≤ ((NumText.digitsVal r0 : Nat) : Int) by omega), Bool.true_and]
                have e3 : decide (((NumText.digitsVal r0 : Nat) : Int) ≤ 99) = decide (NumText.digitsVal r0 ≤ 99) := by
                  by_cases h : NumText.digitsVal r0 ≤ 99
                  · rw [decide_eq_true h, decide_eq_true (by omega)]
                  · rw [decide_eq_false h, decide_eq_false (by omega)]
                rw [e3]
                cases hp : (plainL r0 && decide (NumText.digitsVal r0 ≤ 99)) with
                | true => rw [if_pos rfl]; simp
                | false => rw [if_neg Bool.false_ne_true]; simp
              rw [e2]
              exact q G sG
end

end TS

namespace TS
open PySem PySem.Spec PyProof.Rows L2 TL
/-! ### rank of a letter; the letter of a number -/
/-- what letter_rank tells -/
def rankL : List Nat → Str × Int
  | [] => (Str.empty, -1)
  | c :: r => (⟨#[c]⟩, if r = [] then -1 else (NumText.digitsVal r : Nat))
def spRank (K : PySem.W.Frag) : Sp := fun vs H Q E => ∃ (x : V) (d : PyData), vs = [x] ∧ Dt K H x d ∧ (∀ z, d = .str z → z.length ≤ 100000) ∧
  (∀ z, d = .str z → letterL (tl z) = true → ∀ G p, Same H G → H p = none → G p = some (.tup [.str (rankL (tl z)).1, .int (rankL (tl z)).2]) → Q (.ref p) G) ∧
  (letterD d = false → ∀ G e, Same H G → H e = none → G e = some (.xd [("found", x)]) → E (.ref (He.ga K "NoLetter")) (some e) G)
def nTxt (i : Int) : Str := ("N" : Str) ++ (toString i : Str)
def spNormal (K : PySem.W.Frag) : Sp := fun vs H Q E => ∃ (x : V) (d : PyData), vs = [x] ∧ Dt K H x d ∧
  (∀ i, d = .int i → 0 ≤ i → i ≤ 99 → Q (.str (nTxt i)) H) ∧
  (wholeD 0 99 d = false → ∀ G e, Same H G → H e = none → G e = some (.xd [("found", x)]) → E (.ref (He.ga K "NoNumber")) (some e) G)
theorem int_len {a : Int} (h : a.natAbs < 10 ^ 40) : ((toString a : String) : Str).length ≤ 41 := by
  have e := int_text_length_le10 (k := 40) (by decide) h
  clear h
  rw [PySem.ofString_length]; omega
section
variable {P : Program} {w : World} {K : PySem.W.Frag} {mg : Str → Option Value} {base : Heap}
abbrev s_NoLetter___init__ : Stmt := inClass (top 3) 0
theorem sc_NoLetter___init__ : FnScope ["self", "found"] ["self", "found"] (defScope s_NoLetter___init__) := ⟨rfl, rfl, rfl, by decide +kernel, rfl, by decide +kernel, by decide +kernel⟩
theorem ok_NoLetter_ini (fam_TermError : FamV K (He.ga K "TermError")) (g_TermError : mg "TermError" = some (.ref (He.ga K "TermError"))) (x_NoLetter : OwnV K (He.ga K "NoLetter") "found") (D : DefM K (He.ma K (He.ga K "NoLetter") "__init__") "__init__" "NoLetter.__init__" s_NoLetter___init__) :
    PromA CX0 P w K mg base 1 (He.ma K (He.ga K "NoLetter") "__init__") ["self", "found"] (spIni (He.ga K "NoLetter") "found") := by
  refine meth_mk D sc_NoLetter___init__ (fun vs H Q E h => ?_) (fun _ _ _ _ _ _ us hl => match us, hl with | [_, _], _ => rfl) (fun cdv A outer s H vs Q E hr h => ?_)
  · obtain ⟨a, v, rfl, _⟩ := h
    rfl
  · obtain ⟨a, v, rfl, ha, q⟩ := h
    refine ⟨_, (pss_cons (ps_expr (pe_famInit fam_TermError rfl g_TermError (pa_cons (pv 0) (pa_cons pe_str pa_nil))))
      (pss_one (ps_ost (pv 0) (pv 1)))), ?_⟩
    exact ⟨_, rfl, a, _, _, rfl, by decide, x_NoLetter.ox, ha, _, rfl, _, rfl, a, _, rfl, x_NoLetter.ox, x_NoLetter.no, .inl ⟨ha, fun dx h1 h2 => q dx h1 h2⟩⟩

abbrev s_NoNumber___init__ : Stmt := inClass (top 4) 0
theorem sc_NoNumber___init__ : FnScope ["self", "found"] ["self", "found"] (defScope s_NoNumber___init__) := ⟨rfl, rfl, rfl, by decide +kernel, rfl, by decide +kernel, by decide +kernel⟩
theorem ok_NoNumber_ini (fam_TermError : FamV K (He.ga K "TermError")) (g_TermError : mg "TermError" = some (.ref (He.ga K "TermError"))) (x_NoNumber : OwnV K (He.ga K "NoNumber") "found") (D : DefM K (He.ma K (He.ga K "NoNumber") "__init__") "__init__" "NoNumber.__init__" s_NoNumber___init__) :
    PromA CX0 P w K mg base 1 (He.ma K (He.ga K "NoNumber") "__init__") ["self", "found"] (spIni (He.ga K "NoNumber") "found") := by
  refine meth_mk D sc_NoNumber___init__ (fun vs H Q E h => ?_) (fun _ _ _ _ _ _ us hl => match us, hl with | [_, _], _ => rfl) (fun cdv A outer s H vs Q E hr h => ?_)
  · obtain ⟨a, v, rfl, _⟩ := h
    rfl
  · obtain ⟨a, v, rfl, ha, q⟩ := h
    refine ⟨_, (pss_cons (ps_expr (pe_famInit fam_TermError rfl g_TermError (pa_cons (pv 0) (pa_cons pe_str pa_nil))))
      (pss_one (ps_ost (pv 0) (pv 1)))), ?_⟩
    exact ⟨_, rfl, a, _, _, rfl, by decide, x_NoNumber.ox, ha, _, rfl, _, rfl, a, _, rfl, x_NoNumber.ox, x_NoNumber.no, .inl ⟨ha, fun dx h1 h2 => q dx h1 h2⟩⟩

abbrev s_letter_rank : Stmt := top 14
theorem sc_letter_rank : FnScope ["letter", "number"] ["letter"] (defScope s_letter_rank) := ⟨rfl, rfl, rfl, by decide +kernel, rfl, by decide +kernel, by decide +kernel⟩

theorem ok_rank (bt : Bt mg) (k_LAST_LETTER : ∃ t, mg "LAST_LETTER" = some (.int 99 t)) (g_NoLetter : mg "NoLetter" = some (.ref (He.ga K "NoLetter"))) (x_NoLetter : OwnV K (He.ga K "NoLetter") "found") (pi_NoLetter : PromA CX0 P w K mg base 1 (He.ma K (He.ga K "NoLetter") "__init__") ["self", "found"] (spIni (He.ga K "NoLetter") "found"))
    (p_number_in : PromK P w K mg base 1 "number_in" ["thing", "low", "high"] (spNumIn K) 1 ["high"] (fun vs zs => vs ++ ([V.int 0] ++ zs))) (p_is_letter : Prom P w K mg base 2 "is_letter" ["thing"] (spLetter K)) (D : Def K mg "letter_rank" s_letter_rank) :
    PromXC P w K mg base 3 "letter_rank" ["letter"] (spRank K) := by
  obtain ⟨t_LAST_LETTER, c_LAST_LETTER⟩ := k_LAST_LETTER
  refine promXC_mk D sc_letter_rank (fun vs H Q E h => ?_) (fun _ _ _ _ _ _ us hl => match us, hl with | [_], _ => rfl) (fun f cdv A outer s H vs Q E hr h => ?_)
  · obtain ⟨x, d, rfl, _⟩ := h
    rfl
  · obtain ⟨x, d, rfl, hd, hz, q1, q2⟩ := h
    refine ⟨_, (pss_cons (ps_if (pt_not (pt_val (pe_pc p_is_letter (hr.mono (by decide)) rfl (pa_cons (pv 0) pa_nil)))) (pss_one (ps_raise1N x_NoLetter pi_NoLetter rfl takesFC (hr.mono (by decide)) rfl g_NoLetter (pv 0))) pss_nil)
      (pss_cons (ps_set (i := 1) sc_letter_rank.nd rfl (Or.inl rfl) (pe_pcK p_number_in (hr.mono (by decide)) rfl (pa_cons (pe_slice sl_str (pv 0) (po_some pe_int) po_none) pa_nil) (pk_cons (pe_glob (v := .int 99) rfl c_LAST_LETTER ⟨_, rfl⟩) pk_nil)))
      (pss_one (ps_ret (pe_tup (pa_cons (pe_ix ix_str (pv 0) pe_int (fun _ _ => rfl)) (pa_cons (pe_ifExp (pt_cmpR op_isN (pv 1) pe_non (nomark _)) (pe_un un_neg pe_int) (pv 1)) pa_nil))))))), ?_⟩
    refine ⟨_, rfl, x, d, rfl, hd, hz, fun G sG => ⟨_, rfl, ?_⟩⟩
    cases hl : letterD d with
    | false =>
      refine iteT ⟨_, rfl, fun e he => ?_⟩
      exact q2 hl _ e (sG.trans (Same.new (Same.refl _) he)) (sG.free he) (upd_same ..)
    | true =>
      obtain ⟨z, rfl⟩ : ∃ z, d = .str z := by
        cases d <;> first | exact ⟨_, rfl⟩ | exact absurd hl Bool.false_ne_true
      cases hd
      have hz' := hz z rfl
      have hl' : letterL (tl z) = true := hl
      have len0 : (tl z).length = z.length := (len_tl z).symm
      cases er : tl z with
      | nil => rw [er] at hl'; cases hl'
      | cons c0 r0 =>
      refine iteF ⟨_, rfl, _, rfl, z, rfl, sz5 hz', rfl, rfl, _, .str (cutS z (some 1) none), 0, 99, rfl, .str _, fun y e => ?_, fun G2 sG2 => ?_⟩
      · cases e
        exact Nat.le_trans (cutS_length _ _ _) hz'
      · have ec : cutS z (some 1) none = ⟨r0.toArray⟩ := by
          refine ext_tl ?_
          rw [tl_mk]
          show ((tl z).drop (HT.sIx z.length 0 (some ((1 : Nat) : Int)))).take (HT.sIx z.length z.length none - HT.sIx z.length 0 (some ((1 : Nat) : Int))) = r0
          have lz : z.length = r0.length + 1 := by rw [← len0, er]; rfl
          rw [HT.sIx_nat, HT.sIx_none, Nat.min_eq_left (by omega), er]
          show r0.take (z.length - 1) = r0
          exact List.take_of_length_le (by omega)
        rw [ec]
        have sG2' := sG.trans sG2
        have q1' := q1 z rfl hl'
        rw [er] at q1' hl'
        have e1 : (rankL (c0 :: r0)).1 = (⟨#[c0]⟩ : Str) := rfl
        have e2 : (rankL (c0 :: r0)).2 = if r0 = [] then -1 else ((NumText.digitsVal r0 : Nat) : Int) := rfl
        rw [e1, e2] at q1'
        have a0 : atI (tl z) 0 = some c0 := atI_nat (j := 0) (by rw [er]; rfl)
        refine ⟨_, rfl, z, _, c0, rfl, rfl, sz5 hz', a0, _, rfl, rfl, _, rfl, ?_⟩
        by_cases hr0 : r0 = []
        · subst hr0
          refine iteT' (decide_eq_true rfl) ?_
          refine ⟨_, rfl, (by show 2 ≤ sizeLine; decide), fun p hp => ?_⟩
          exact q1' _ p (sG2'.trans (Same.new (Same.refl _) hp)) (sG2'.free hp) (upd_same ..)
        · have hl2 : (plainL r0 && decide (NumText.digitsVal r0 ≤ 99)) = true := by
            have this : (capL c0 && (decide (r0 = []) || (plainL r0 && decide (NumText.digitsVal r0 ≤ 99)))) = true := hl'
            rw [decide_eq_false hr0, Bool.false_or] at this
            exact (Bool.and_eq_true_iff.mp this).2
          obtain ⟨h1, h2⟩ := Bool.and_eq_true_iff.mp hl2
          have h2 := of_decide_eq_true h2
          have en : numR 0 99 (.str ⟨r0.toArray⟩) = V.int (NumText.digitsVal r0 : Nat) := by
            show (if (plainL (tl ⟨r0.toArray⟩) && (decide ((0 : Int) ≤ ((NumText.digitsVal (tl ⟨r0.toArray⟩) : Nat) : Int)) && decide (((NumText.digitsVal (tl ⟨r0.toArray⟩) : Nat) : Int) ≤ 99))) = true then V.int (NumText.digitsVal (tl ⟨r0.toArray⟩) : Nat) else V.non) = _
            rw [tl_mk, h1, decide_eq_true (show (0 : Int) ≤ ((NumText.digitsVal r0 : Nat) : Int) by omega), decide_eq_true (show ((NumText.digitsVal r0 : Nat) : Int) ≤ 99 by omega)]
            rfl
          rw [en]
          rw [if_neg hr0] at q1'
          refine iteF' (decide_eq_false (by simp)) ⟨_, rfl, (by show 2 ≤ sizeLine; decide), fun p hp => ?_⟩
          exact q1' _ p (sG2'.trans (Same.new (Same.refl _) hp)) (sG2'.free hp) (upd_same ..)
abbrev s_normal_letter : Stmt := top 15
theorem sc_normal_letter : FnScope ["number"] ["number"] (defScope s_normal_letter) := ⟨rfl, rfl, rfl, by decide +kernel, rfl, by decide +kernel, by decide +kernel⟩

theorem ok_normal (bt : Bt mg) (k_LAST_LETTER : ∃ t, mg "LAST_LETTER" = some (.int 99 t)) (g_NoNumber : mg "NoNumber" = some (.ref (He.ga K "NoNumber"))) (x_NoNumber : OwnV K (He.ga K "NoNumber") "found") (pi_NoNumber : PromA CX0 P w K mg base 1 (He.ma K (He.ga K "NoNumber") "__init__") ["self", "found"] (spIni (He.ga K "NoNumber") "found"))
    (p_is_whole : Prom P w K mg base 1 "is_whole" ["thing", "low", "high"] (spWhole K)) (D : Def K mg "normal_letter" s_normal_letter) :
    PromXC P w K mg base 3 "normal_letter" ["number"] (spNormal K) := by
  obtain ⟨t_LAST_LETTER, c_LAST_LETTER⟩ := k_LAST_LETTER
  refine promXC_mk D sc_normal_letter (fun vs H Q E h => ?_) (fun _ _ _ _ _ _ us hl => match us, hl with | [_], _ => rfl) (fun f cdv A outer s H vs Q E hr h => ?_)
  · obtain ⟨x, d, rfl, _⟩ := h
    rfl
  · obtain ⟨x, d, rfl, hd, q1, q2⟩ := h
    refine ⟨_, (pss_cons (ps_if (pt_not (pt_val (pe_pc p_is_whole (hr.mono (by decide)) rfl (pa_cons (pv 0) (pa_cons pe_int (pa_cons (pe_glob (v := .int 99) rfl c_LAST_LETTER ⟨_, rfl⟩) pa_nil)))))) (pss_one (ps_raise1N x_NoNumber pi_NoNumber rfl takesFC (hr.mono (by decide)) rfl g_NoNumber (pv 0))) pss_nil)
      (pss_one (ps_ret (pe_joined (.cons pe_str (.cons (pe_fmt (pv 0)) .nil)))))), ?_⟩
    refine ⟨_, rfl, x, d, 0, 99, rfl, hd, ⟨_, rfl, ?_⟩⟩
    cases hl : wholeD 0 99 d with
    | false =>
      refine iteT ⟨_, rfl, fun e he => ?_⟩
      exact q2 hl _ e (Same.new (Same.refl _) he) he (upd_same ..)
    | true =>
      obtain ⟨i, rfl⟩ : ∃ i, d = .int i := by
        cases d <;> first | exact ⟨_, rfl⟩ | exact absurd hl Bool.false_ne_true
      cases hd
      obtain ⟨h0, h1⟩ := Bool.and_eq_true_iff.mp hl
      have h0 := of_decide_eq_true h0
      have h1 := of_decide_eq_true h1
      have li : i.natAbs.log2 < 1920 := by
        have : i.natAbs ≤ 99 := by omega
        exact Nat.lt_of_le_of_lt (Nat.log2_le_self _) (by omega)
      have ln : (Str.empty ++ ("N" : Str)) = "N" := by decide +kernel
      have lt : (("N" : Str) ++ (toString i : Str)).length ≤ sizeLine := by
        rw [add_len]
        exact sz5 (by have := int_len (a := i) (by omega); have : ("N" : Str).length = 1 := by decide +kernel
                      omega)
      refine iteF ⟨_, rfl, (by rw [ln]; decide +kernel), _, rfl, .inr ⟨i, rfl, li, _, rfl, ?_, ?_⟩⟩
      · rw [ln]; exact lt
      · have := q1 i rfl h0 h1
        unfold nTxt at this
        rw [← ln] at this
        exact this
end

end TS

namespace TS
open PySem PySem.Spec PyProof.Rows L2 TL
/-- things of other kinds -/
def anyD : List PyData := [.none, .bool true, .bool false, .int (-1), .int 100000000000000000000000000000, .str "", .str "no", .str "a b", .list [], .list [.str "a"], .tuple [.str "a"], .tuple [], .dict [],
  .dict [(.str "a", .int 1)], .list [.list [.int 1]]]
def spAny (K : PySem.W.Frag) : Sp := fun vs H Q _ => ∃ (b : Addr) (o : HO) (n : Nat), vs = [.ref b] ∧ H b = some o ∧ Bag (n + 1) o ∧
  ∀ (v : V) (d : PyData) (H' : Hp) (o' : HO), d ∈ anyD → Fx b H H' → H' b = some o' → Bag n o' → Dt K (hide H' b) v d → Q v H'
section
variable {P : Program} {w : World} {K : PySem.W.Frag} {mg : Str → Option Value} {base : Heap}
abbrev s__law_any : Stmt := top 22
theorem sc__law_any : FnScope ["_law_bag_here", "_law_some"] ["_law_bag_here"] (defScope s__law_any) := ⟨rfl, rfl, rfl, by decide +kernel, rfl, by decide +kernel, by decide +kernel⟩

theorem ok_any (p__law_take : Prom P w K mg base 1 "_law_take" ["_law_bag_here", "_law_many"] spTake) (D : Def K mg "_law_any" s__law_any) : Prom P w K mg base 2 "_law_any" ["_law_bag_here"] (spAny K) := by
  refine prom_mk D sc__law_any (fun vs H Q E h => ?_) (fun _ _ _ _ _ _ us hl => match us, hl with | [_], _ => rfl) (fun f cdv A outer s H vs Q E hr h => ?_)
  · obtain ⟨b, o, n, rfl, _⟩ := h
    rfl
  · obtain ⟨b, o, n, rfl, hb, bg, q⟩ := h
    refine ⟨_, (pss_cons (ps_set (i := 1) sc__law_any.nd rfl (Or.inl rfl) (pe_lst (pa_cons pe_non (pa_cons pe_bl (pa_cons pe_bl (pa_cons (pe_op op_sub pe_int pe_int) (pa_cons (pe_op op_pow pe_int pe_int) (pa_cons pe_str (pa_cons pe_str (pa_cons pe_str (pa_cons (pe_lst pa_nil) (pa_cons (pe_lst (pa_cons pe_str pa_nil)) (pa_cons (pe_tup (pa_cons pe_str pa_nil)) (pa_cons (pe_tup pa_nil) (pa_cons pe_dnewK (pa_cons (pe_disp (pps_cons pe_str pe_int pps_nil) (by rfl) (by rfl) (fun z => by cases z) (by decide)) (pa_cons (pe_lst (pa_cons (pe_lst (pa_cons pe_int pa_nil)) pa_nil)) pa_nil)))))))))))))))))
      (pss_one (ps_ret (pe_ix (ix_listK (K := K)) (pv 1) (pe_pc p__law_take (hr.mono (by decide)) rfl (pa_cons (pv 0) (pa_cons pe_int pa_nil))) (fun _ _ => rfl))))), ?_⟩
    refine ⟨_, _, rfl, rfl, _, _, rfl, rfl, ⟨by decide, by decide, by decide⟩, (by show 0 ≤ sizeLine; decide), fun p1 h1 => ⟨(by show 1 ≤ sizeLine; decide), fun p2 h2 => ⟨(by show 1 ≤ sizeLine; decide), fun p3 h3 => ⟨(by show 0 ≤ sizeLine; decide), fun p4 h4 => fun p5 h5 => ?_⟩⟩⟩⟩
    intro p6 h6
    refine ⟨upd_same, [(Sum.inr "a", V.int 1)], rfl, by decide, (by show 1 ≤ sizeLine; decide), fun p7 h7 => ⟨(by show 1 ≤ sizeLine; decide), fun p8 h8 => ⟨(by show 15 ≤ sizeLine; decide), fun p9 h9 => ?_⟩⟩⟩
    generalize hG : L2.upd _ p9 _ = Hf
    have eu : ∀ {H : Hp} {a : Addr} {o1 o2 : HO}, L2.upd (L2.upd H a o1) a o2 = L2.upd H a o2 := upd_upd
    rw [eu] at h7 h8 h9 hG
    have h6' : ∀ o : HO, Same _ (L2.upd _ p6 o) := fun o => Same.new (Same.refl _) h6
    have s1 := Same.new (o := .lst []) (Same.refl _) h1
    have s2 := Same.new (o := .lst [.str "a"]) (Same.refl _) h2
    have s3 := Same.new (o := .tup [.str "a"]) (Same.refl _) h3
    have s4 := Same.new (o := .tup []) (Same.refl _) h4
    have s5 := Same.new (o := .dK []) (Same.refl _) h5
    have s6 := h6' (.dK (mergeK [] [(Sum.inr "a", V.int 1)]))
    have s7 := Same.new (o := .lst [.int 1]) (Same.refl _) h7
    have s8 := Same.new (o := .lst [.ref p7]) (Same.refl _) h8
    have s9 := fun o : HO => Same.new (o := o) (Same.refl _) h9
    have t7 := fun o => s8.trans (s9 o)
    have t6 := fun o => s7.trans (t7 o)
    have t5 := fun o => s6.trans (t6 o)
    have t4 := fun o => s5.trans (t5 o)
    have t3 := fun o => s4.trans (t4 o)
    have t2 := fun o => s3.trans (t3 o)
    have t1 := fun o => s2.trans (t2 o)
    have t0 : Same H Hf := by
      rw [← hG]
      exact s1.trans (t1 _)
    have f1 : Hf p1 = some (.lst []) := by
      rw [← hG]
      exact t1 _ p1 _ upd_same
    have f2 : Hf p2 = some (.lst [.str "a"]) := by
      rw [← hG]
      exact t2 _ p2 _ upd_same
    have f3 : Hf p3 = some (.tup [.str "a"]) := by
      rw [← hG]
      exact t3 _ p3 _ upd_same
    have f4 : Hf p4 = some (.tup []) := by
      rw [← hG]
      exact t4 _ p4 _ upd_same
    have f5 : Hf p5 = some (.dK []) := by
      rw [← hG]
      exact t5 _ p5 _ upd_same
    have f6 : Hf p6 = some (.dK [(Sum.inr "a", V.int 1)]) := by
      rw [← hG]
      exact t6 _ p6 _ upd_same
    have f7 : Hf p7 = some (.lst [.int 1]) := by
      rw [← hG]
      exact t7 _ p7 _ upd_same
    have f8 : Hf p8 = some (.lst [.ref p7]) := by
      rw [← hG]
      exact s9 _ p8 _ upd_same
    have f9 := congrFun hG p9
    rw [upd_same] at f9
    replace f9 := f9.symm
    have fb := t0 b _ hb
    have nb : ∀ {p : Addr}, H p = none → p ≠ b := fun h => (ne_of_none hb h).symm
    have n1 := nb h1
    have n2 := nb (s1.free h2)
    have n3 := nb (s1.free (s2.free h3))
    have n4 := nb (s1.free (s2.free (s3.free h4)))
    have n5 := nb (s1.free (s2.free (s3.free (s4.free h5))))
    have n6 := nb (s1.free (s2.free (s3.free (s4.free (s5.free h6)))))
    have n7 := nb (s1.free (s2.free (s3.free (s4.free (s5.free (s6.free h7))))))
    have n8 := nb (s1.free (s2.free (s3.free (s4.free (s5.free (s6.free (s7.free h8)))))))
    have n9 := nb (s1.free (s2.free (s3.free (s4.free (s5.free (s6.free (s7.free (s8.free h9))))))))
    refine ⟨_, rfl, _, rfl, b, o, n, 15, rfl, fb, bg, by decide, by decide +kernel, fun d o' d0 d1 bg' => ?_⟩
    have fin : ∀ v dd, dd ∈ anyD → Dt K (hide (L2.upd Hf b o') b) v dd → Q v (L2.upd Hf b o') := fun v dd hd hv => q v dd _ o' hd (Fx.of t0).upd upd_same bg' hv
    have g : ∀ {p : Addr} {u : HO}, p ≠ b → Hf p = some u → hide (L2.upd Hf b o') b p = some u := fun h e => by rw [hide_ne h, upd_ne h]; exact e
    have L9 : SqL K (L2.upd Hf b o') p9 _ := .inl (.inl ((upd_ne n9).trans f9))
    have gl : ∀ {p : Addr} {xs : List V}, p ≠ b → Hf p = some (.lst xs) → SqL K (hide (L2.upd Hf b o') b) p xs := fun h e => .inl (.inl (g h e))
    have gt : ∀ {p : Addr} {xs : List V}, p ≠ b → Hf p = some (.tup xs) → SqT K (hide (L2.upd Hf b o') b) p xs := fun h e => .inl (.inl (g h e))
    have e29 : (10 : Int) ^ (29 : Int).toNat = 100000000000000000000000000000 := by decide +kernel
    have c15 : d = 0 ∨ d = 1 ∨ d = 2 ∨ d = 3 ∨ d = 4 ∨ d = 5 ∨ d = 6 ∨ d = 7 ∨ d = 8 ∨ d = 9 ∨ d = 10 ∨ d = 11 ∨ d = 12 ∨ d = 13 ∨ d = 14 := by omega
    rcases c15 with rfl | rfl | rfl | rfl | rfl | rfl | rfl | rfl | rfl | rfl | rfl | rfl | rfl | rfl | rfl
    · exact ⟨p9, _, _, _, rfl, rfl, L9, rfl, fin _ _ (by simp [anyD]) .non⟩
    · exact ⟨p9, _, _, _, rfl, rfl, L9, rfl, fin _ _ (by simp [anyD]) (.bl true)⟩
    · exact ⟨p9, _, _, _, rfl, rfl, L9, rfl, fin _ _ (by simp [anyD]) (.bl false)⟩
    · exact ⟨p9, _, _, _, rfl, rfl, L9, rfl, fin _ _ (by simp [anyD]) (.int (-1))⟩
    · exact ⟨p9, _, _, _, rfl, rfl, L9, rfl, fin _ (.int 100000000000000000000000000000) (by simp [anyD]) (by show Dt K _ (V.int ((10 : Int) ^ (29 : Int).toNat)) _; rw [e29]; exact .int _)⟩
    · exact ⟨p9, _, _, _, rfl, rfl, L9, rfl, fin _ (.str "") (by simp [anyD]) (.str "")⟩
    · exact ⟨p9, _, _, _, rfl, rfl, L9, rfl, fin _ (.str "no") (by simp [anyD]) (.str "no")⟩
    · exact ⟨p9, _, _, _, rfl, rfl, L9, rfl, fin _ (.str "a b") (by simp [anyD]) (.str "a b")⟩
    · exact ⟨p9, _, _, _, rfl, rfl, L9, rfl, fin _ (.list []) (by simp [anyD]) (.lst (gl n1 f1) .nil)⟩
    · exact ⟨p9, _, _, _, rfl, rfl, L9, rfl, fin _ (.list [.str "a"]) (by simp [anyD]) (.lst (gl n2 f2) (.cons (.str "a") .nil))⟩
    · exact ⟨p9, _, _, _, rfl, rfl, L9, rfl, fin _ (.tuple [.str "a"]) (by simp [anyD]) (.tup (gt n3 f3) (.cons (.str "a") .nil))⟩
    · exact ⟨p9, _, _, _, rfl, rfl, L9, rfl, fin _ (.tuple []) (by simp [anyD]) (.tup (gt n4 f4) .nil)⟩
    · exact ⟨p9, _, _, _, rfl, rfl, L9, rfl, fin _ (.dict []) (by simp [anyD]) (.dct (ks := []) (xs := []) (g n5 f5) rfl .nil)⟩
    · exact ⟨p9, _, _, _, rfl, rfl, L9, rfl, fin _ (.dict [(.str "a", .int 1)]) (by simp [anyD]) (.dct (ks := [Sum.inr "a"]) (xs := [.int 1]) (g n6 f6) rfl (.cons (.int 1) .nil))⟩
    · exact ⟨p9, _, _, _, rfl, rfl, L9, rfl, fin _ (.list [.list [.int 1]]) (by simp [anyD]) (.lst (gl n8 f8) (.cons (.lst (gl n7 f7) (.cons (.int 1) .nil)) .nil))⟩
end

end TS

namespace TS
open PySem PySem.Spec PyProof.Rows L2 TL
/-! ### the very thing -/
def spVery (K : PySem.W.Frag) : Sp := fun vs H Q _ => ∃ (x : V) (d : PyData), vs = [x, x] ∧ Dt K H x d ∧ Shows d ∧
  (∀ ds, d = .list ds → ∃ (a : Addr) (y : V) (dy : PyData), x = .ref a ∧ H a = some (.lst [y]) ∧ (∀ G, Dt K G y dy) ∧ Shows (.list [dy, .str "late"])) ∧ ∀ H', Same H H' → Q (.bl true) H'
section
variable {P : Program} {w : World} {K : PySem.W.Frag} {mg : Str → Option Value} {base : Heap}
abbrev s__law_very : Stmt := top 21
theorem sc__law_very : FnScope ["_law_found", "_law_matter", "_law_same_here"] ["_law_found", "_law_matter"] (defScope s__law_very) := ⟨rfl, rfl, rfl, by decide +kernel, rfl, by decide +kernel, by decide +kernel⟩

theorem ok_very (Y : Sys K) (bt : Bt mg) (D : Def K mg "_law_very" s__law_very) : PromT P w K mg base 1 "_law_very" ["_law_found", "_law_matter"] (fun _ => spVery K) := by
  refine promT_mk D sc__law_very (fun _ vs H Q E h => ?_) (fun _ _ _ _ _ _ us hl => match us, hl with | [_, _], _ => rfl) (fun f ex cdv A outer s H vs Q hgd hh hr h => ?_)
  · obtain ⟨x, d, rfl, _⟩ := h
    rfl
  · obtain ⟨x, d, rfl, hd, sh, hl, q⟩ := h
    refine ⟨_, (pss_cons (ps_if (pt_cmpR op_ne (pe_callB (id := "repr") (reprK (K := K) Y hgd hr.units) (by rfl) bt.repr_ (by decide +kernel) (pa_cons (pv 0) pa_nil)) (pe_callB (id := "repr") (reprK (K := K) Y hgd hr.units) (by rfl) bt.repr_ (by decide +kernel) (pa_cons (pv 1) pa_nil)) (nomark _)) (pss_one (ps_ret pe_bl)) pss_nil)
      (pss_cons (ps_if (pt_not (pt_val (pe_callB (id := "isinstance") (isiK (K := K)) (by rfl) bt.isinstance_ (by decide +kernel) (pa_cons (pv 1) (pa_cons (pe_bltn (v := .ty "list") rfl bt.list_ (by decide +kernel) rfl) pa_nil))))) (pss_one (ps_ret pe_bl)) pss_nil)
      (pss_cons (ps_expr (pe_appendK (K := K) rfl (pv 1) pe_str))
      (pss_cons (ps_set (i := 2) sc__law_very.nd rfl (Or.inl rfl) (pe_cmpR op_eq (pe_callB (id := "repr") (reprK (K := K) Y hgd hr.units) (by rfl) bt.repr_ (by decide +kernel) (pa_cons (pv 0) pa_nil)) (pe_callB (id := "repr") (reprK (K := K) Y hgd hr.units) (by rfl) bt.repr_ (by decide +kernel) (pa_cons (pv 1) pa_nil)) (nomark _)))
      (pss_cons (ps_expr (pe_bm0 PySem.F.plainAttrs_list PySem.F.slot_list_pop PySem.F.type_list_pop mt_pop (pv 1)))
      (pss_one (ps_ret (pv 2)))))))), ?_⟩
    refine ⟨_, rfl, x, d, rfl, hd, sh.1, sh.2, sh.3, _, rfl, x, d, rfl, hd, sh.1, sh.2, sh.3, rfl, _, rfl, ?_⟩
    refine iteF' (by simp) ?_
    refine ⟨_, rfl, _, _, _, _, isD "list" d, rfl, .ty "list", hd.ty, isi_list, _, rfl, ?_⟩
    cases c : isD "list" d with
    | false => exact iteT (q H (Same.refl _))
    | true =>
      obtain ⟨ds, rfl⟩ := isD_list c
      obtain ⟨a, y, dy, rfl, ha, hy, s2⟩ := hl ds rfl
      refine iteF ?_
      refine ⟨_, rfl, .inl ⟨rfl, _, .inl (.inl ha)⟩, a, [y], _, rfl, rfl, ha, (by show 1 < sizeLine; decide), ?_⟩
      have d2 : Dt K (L2.upd H a (.lst ([y] ++ [.str "late"]))) (.ref a) (.list [dy, .str "late"]) := .lst (.inl (.inl (upd_same ..))) (.cons (hy _) (.cons (.str _) .nil))
      refine ⟨_, rfl, _, _, rfl, d2, s2.1, s2.2, s2.3, _, rfl, _, _, rfl, d2, s2.1, s2.2, s2.3, rfl, ?_⟩
      refine ⟨_, rfl, .inl ⟨rfl, _, .inl (.inl (upd_same ..))⟩, a, _, _, rfl, rfl, upd_same .., rfl, _, rfl, ?_⟩
      have eb : (decide (V.str (PyData.list [dy, .str "late"]).shown = V.str (PyData.list [dy, .str "late"]).shown)) = true := decide_eq_true rfl
      rw [eb]
      refine q _ fun b o e => ?_
      by_cases z : b = a
      · rw [z, upd_same]
        rw [z, ha] at e
        exact e
      · rw [upd_ne z, upd_ne z]; exact e
end

end TS

namespace TS
open PySem PySem.Spec PyProof.Rows L2 TL
/-! ### letters drawn -/
def CAPs : Str := "ABCDEFGHIJKLMNOPQRSTUVWXYZ"
theorem caps_size : CAPs.cps.toList.length = 26 := by decide +kernel
theorem caps_all : ∀ c ∈ CAPs.cps.toList, capL c = true := by decide +kernel
def LetA (c : Nat) (i : Int) : Prop := capL c = true ∧ -1 ≤ i ∧ i ≤ 99
abbrev pairL (c : Nat) (i : Int) : HO := .tup [.str ⟨#[c]⟩, .int i]
def shownS (c : Nat) (i : Int) : Str := (⟨#[c]⟩ : Str) ++ (if 0 ≤ i then ((toString i : String) : Str) else "")
def spLet : Sp := fun vs H Q _ => ∃ (b : Addr) (n : Nat), vs = [.ref b] ∧ (∃ o, H b = some o ∧ Bag (n + 4) o) ∧ ∀ H' p c i, Dr b n H H' → p ≠ b → H' p = some (pairL c i) → LetA c i → Q (.ref p) H'
def spNear : Sp := fun vs H Q _ => ∃ (b p : Addr) (n c : Nat) (i : Int), vs = [.ref b, .ref p] ∧ (∃ o, H b = some o ∧ Bag (n + 3) o) ∧ p ≠ b ∧ H p = some (pairL c i) ∧ LetA c i ∧
  ∀ H' p' c' i', Dr b n H H' → p' ≠ b → H' p' = some (pairL c' i') → LetA c' i' → Q (.ref p') H'
def spShown : Sp := fun vs H Q _ => ∃ (p : Addr) (c : Nat) (i : Int), vs = [.ref p] ∧ H p = some (pairL c i) ∧ LetA c i ∧ ∀ H', Same H H' → Q (.str (shownS c i)) H'
section
variable {P : Program} {w : World} {K : PySem.W.Frag} {mg : Str → Option Value} {base : Heap}
abbrev s__law_letter : Stmt := top 23
theorem sc__law_letter : FnScope ["_law_bag_here", "_law_capital"] ["_law_bag_here"] (defScope s__law_letter) := ⟨rfl, rfl, rfl, by decide +kernel, rfl, by decide +kernel, by decide +kernel⟩

theorem ok_let (p__law_take : Prom P w K mg base 1 "_law_take" ["_law_bag_here", "_law_many"] spTake) (D : Def K mg "_law_letter" s__law_letter) : Prom P w K mg base 2 "_law_letter" ["_law_bag_here"] spLet := by
  refine prom_mk D sc__law_letter (fun vs H Q E h => ?_) (fun _ _ _ _ _ _ us hl => match us, hl with | [_], _ => rfl) (fun f cdv A outer s H vs Q E hr h => ?_)
  · obtain ⟨b, n, rfl, _⟩ := h
    rfl
  · obtain ⟨b, n, rfl, hb, q⟩ := h
    refine ⟨_, (pss_cons (ps_set (i := 1) sc__law_letter.nd rfl (Or.inl rfl) (pe_ix ix_str pe_str (pe_pc p__law_take (hr.mono (by decide)) rfl (pa_cons (pv 0) (pa_cons pe_int pa_nil))) (fun _ _ => rfl)))
      (pss_one (ps_ret (pe_tup (pa_cons (pv 1) (pa_cons (pe_ix (ix_listK (K := K)) (pe_lst (pa_cons (pe_op op_sub pe_int pe_int) (pa_cons (pe_pc p__law_take (hr.mono (by decide)) rfl (pa_cons (pv 0) (pa_cons pe_int pa_nil))) (pa_cons (pe_pc p__law_take (hr.mono (by decide)) rfl (pa_cons (pv 0) (pa_cons pe_int pa_nil))) (pa_cons pe_int pa_nil))))) (pe_pc p__law_take (hr.mono (by decide)) rfl (pa_cons (pv 0) (pa_cons pe_int pa_nil))) (fun _ _ => rfl)) pa_nil)))))), ?_⟩
    refine ⟨_, rfl, b, _, n + 3, 26, rfl, hb.choose_spec.1, hb.choose_spec.2, by decide, by decide +kernel, fun x1 o1 l1 u1 g1 => ?_⟩
    (generalize hG : L2.upd _ b _ = H1; have d1 := dr_of hG g1; clear hG)
    obtain ⟨c, hc, hcm⟩ := atI_in (xs := CAPs.cps.toList) l1 (by rw [caps_size]; exact u1)
    refine ⟨CAPs, _, c, rfl, rfl, by decide +kernel, hc, ?_⟩
    refine ⟨_, rfl, _, _, rfl, rfl, _, rfl, b, _, n + 2, 100, rfl, d1.bag.choose_spec.1, d1.bag.choose_spec.2, by decide, by decide +kernel, fun x2 o2 l2 u2 g2 => ?_⟩
    (generalize hG : L2.upd _ b _ = H2; have d2 := dr_of hG g2; clear hG)
    refine ⟨_, rfl, b, _, n + 1, 3, rfl, d2.bag.choose_spec.1, d2.bag.choose_spec.2, by decide, by decide +kernel, fun x3 o3 l3 u3 g3 => ?_⟩
    (generalize hG : L2.upd _ b _ = H3; have d3 := dr_of hG g3; clear hG)
    refine ⟨(by show 4 ≤ sizeLine; decide), fun L hL => ?_⟩
    have D3 := (d1.trans d2).trans d3
    have nL := D3.ne hL
    (generalize hG : L2.upd _ L _ = H4; have sL := same_of hG hL; have eL := at_of hG; clear hG)
    have b4 : ∃ o, H4 b = some o ∧ Bag (n + 1) o := let ⟨o, e, g⟩ := D3.bag; ⟨o, sL _ _ e, g⟩
    refine ⟨_, rfl, b, _, n, 4, rfl, b4.choose_spec.1, b4.choose_spec.2, by decide, by decide +kernel, fun x5 o5 l5 u5 g5 => ?_⟩
    (generalize hG : L2.upd _ b _ = H5; have d5 := dr_of hG g5; clear hG)
    have D5 : Dr b n H H5 := (D3.trans (Dr.same sL D3.bag)).trans d5
    obtain ⟨v, hv, hvm⟩ := atI_in (xs := [V.int (0 - 1), .int x2, .int x3, .int 99]) l5 u5
    obtain ⟨i, ei, hi⟩ : ∃ i, v = .int i ∧ -1 ≤ i ∧ i ≤ 99 := by
      simp only [List.mem_cons, List.not_mem_nil, or_false] at hvm
      rcases hvm with rfl | rfl | rfl | rfl
      · exact ⟨_, rfl, by decide, by decide⟩
      · exact ⟨_, rfl, by omega, by omega⟩
      · exact ⟨_, rfl, by omega, by omega⟩
      · exact ⟨_, rfl, by decide, by decide⟩
    subst ei
    refine ⟨L, _, _, _, rfl, rfl, .inl (.inl (d5.at nL eL)), hv, (by show 2 ≤ sizeLine; decide), fun p hp => ?_⟩
    exact q _ p c i (D5.trans (Dr.same (Same.new (Same.refl _) hp) D5.bag)) (D5.ne hp) (upd_same ..) ⟨caps_all c hcm, hi⟩
abbrev s__law_near : Stmt := top 24
theorem sc__law_near : FnScope ["_law_bag_here", "_law_letter_here", "_law_capital", "_law_number", "_law_some"] ["_law_bag_here", "_law_letter_here"] (defScope s__law_near) := ⟨rfl, rfl, rfl, by decide +kernel, rfl, by decide +kernel, by decide +kernel⟩

theorem ok_near (bt : Bt mg) (p__law_take : Prom P w K mg base 1 "_law_take" ["_law_bag_here", "_law_many"] spTake) (D : Def K mg "_law_near" s__law_near) : Prom P w K mg base 2 "_law_near" ["_law_bag_here", "_law_letter_here"] spNear := by
  refine prom_mk D sc__law_near (fun vs H Q E h => ?_) (fun _ _ _ _ _ _ us hl => match us, hl with | [_, _], _ => rfl) (fun f cdv A outer s H vs Q E hr h => ?_)
  · obtain ⟨b, p, n, c, i, rfl, _⟩ := h
    rfl
  · obtain ⟨b, p, n, c, i, rfl, hb, np, hp, hc, q⟩ := h
    refine ⟨_, (pss_cons (ps_asg (pv 1) (pg_tupK (K := K) (n := 2) rfl rfl (pgs_cons (pg_name (i := 2) sc__law_near.nd rfl (Or.inl rfl)) (pgs_cons (pg_name (i := 3) sc__law_near.nd rfl (Or.inl rfl)) pgs_nil))))
      (pss_cons (ps_set (i := 4) sc__law_near.nd rfl (Or.inl rfl) (pe_lst (pa_cons (pv 1) (pa_cons (pe_tup (pa_cons (pv 2) (pa_cons (pe_op op_sub pe_int pe_int) pa_nil))) (pa_cons (pe_tup (pa_cons (pv 2) (pa_cons pe_int pa_nil))) (pa_cons (pe_tup (pa_cons (pv 2) (pa_cons (pe_op op_mod (pe_callB (id := "max") (call_max2 rfl) (by rfl) bt.max_ (by decide +kernel) (pa_cons pe_int (pa_cons (pe_op op_sub (pe_op op_add (pv 3) (pe_pc p__law_take (hr.mono (by decide)) rfl (pa_cons (pv 0) (pa_cons pe_int pa_nil)))) pe_int) pa_nil))) pe_int) pa_nil))) pa_nil))))))
      (pss_cons (ps_expr (pe_appendK (K := K) rfl (pv 4) (pe_tup (pa_cons (pe_ix ix_str pe_str (pe_pc p__law_take (hr.mono (by decide)) rfl (pa_cons (pv 0) (pa_cons pe_int pa_nil))) (fun _ _ => rfl)) (pa_cons (pv 3) pa_nil)))))
      (pss_one (ps_ret (pe_ix (ix_listK (K := K)) (pv 4) (pe_pc p__law_take (hr.mono (by decide)) rfl (pa_cons (pv 0) (pa_cons pe_int pa_nil))) (fun _ _ => rfl))))))), ?_⟩
    have sp : SqT K H p [.str ⟨#[c]⟩, .int i] := .inl (.inl hp)
    refine ⟨_, rfl, p, _, rfl, sp, rfl, _, _, rfl, _, _, rfl, rfl, ?_⟩
    refine ⟨_, rfl, _, rfl, _, _, rfl, rfl, (by show 2 ≤ sizeLine; decide), fun p1 h1 => ?_⟩
    have n1 : p1 ≠ b := fun z => by rw [z, hb.choose_spec.1] at h1; cases h1
    (generalize hG : L2.upd _ p1 _ = H1; have s1 := same_of hG h1; have e1 := at_of hG; clear hG)
    refine ⟨_, rfl, (by show 2 ≤ sizeLine; decide), fun p2 h2 => ?_⟩
    have b1 : ∃ o, H1 b = some o ∧ Bag (n + 3) o := let ⟨o, e, g⟩ := hb; ⟨o, s1 _ _ e, g⟩
    have n2 : p2 ≠ b := fun z => by rw [z, b1.choose_spec.1] at h2; cases h2
    (generalize hG : L2.upd _ p2 _ = H2; have s2 := same_of hG h2; have e2 := at_of hG; clear hG)
    have b2 : ∃ o, H2 b = some o ∧ Bag (n + 3) o := let ⟨o, e, g⟩ := b1; ⟨o, s2 _ _ e, g⟩
    refine ⟨_, rfl, _, rfl, _, rfl, b, _, n + 2, 3, rfl, b2.choose_spec.1, b2.choose_spec.2, by decide, by decide +kernel, fun x3 o3 l3 u3 g3 => ?_⟩
    (generalize hG : L2.upd _ b _ = H3; have d3 := dr_of hG g3; clear hG)
    refine ⟨_, _, rfl, rfl, _, _, rfl, rfl, _, _, rfl, _, _, rfl, rfl, (by show (0 : Int) < 100; decide), (by show 2 ≤ sizeLine; decide), fun p3 h3 => ?_⟩
    obtain ⟨m, em⟩ : ∃ m, m = (if i + x3 - 1 > 0 then i + x3 - 1 else 0) % 100 := ⟨_, rfl⟩
    have hm : 0 ≤ m ∧ m < 100 := by rw [em]; exact ⟨Int.emod_nonneg _ (by decide), Int.emod_lt_of_pos _ (by decide)⟩
    rw [show (fun i j : Int => V.int (i % j)) (if i + x3 - 1 > 0 then i + x3 - 1 else 0) 100 = V.int m by rw [em]]
    have D3 : Dr b (n + 2) H H3 := (Dr.same (s1.trans s2) hb).trans d3
    have n3 := D3.ne h3
    (generalize hG : L2.upd _ p3 _ = H4; have s3 := same_of hG h3; have e3 := at_of hG; clear hG)
    have b4 : ∃ o, H4 b = some o ∧ Bag (n + 2) o := let ⟨o, e, g⟩ := D3.bag; ⟨o, s3 _ _ e, g⟩
    refine ⟨(by show 4 ≤ sizeLine; decide), fun L hL => ?_⟩
    have nL : L ≠ b := fun z => by rw [z, b4.choose_spec.1] at hL; cases hL
    (generalize hG : L2.upd _ L _ = H5; have sL := same_of hG hL; have eL := at_of hG; clear hG)
    have b5 : ∃ o, H5 b = some o ∧ Bag (n + 2) o := let ⟨o, e, g⟩ := b4; ⟨o, sL _ _ e, g⟩
    refine ⟨_, rfl, .inl ⟨rfl, _, .inl (.inl eL)⟩, _, rfl, b, _, n + 1, 26, rfl, b5.choose_spec.1, b5.choose_spec.2, by decide, by decide +kernel, fun x6 o6 l6 u6 g6 => ?_⟩
    (generalize hG : L2.upd _ b _ = H6; have d6 := dr_of hG g6; clear hG)
    obtain ⟨c', hc', hcm⟩ := atI_in (xs := CAPs.cps.toList) l6 (by rw [caps_size]; exact u6)
    refine ⟨CAPs, _, c', rfl, rfl, by decide +kernel, hc', _, rfl, (by show 2 ≤ sizeLine; decide), fun p4 h4 => ?_⟩
    have D6 : Dr b (n + 1) H H6 := (D3.trans (Dr.same (s3.trans sL) D3.bag)).trans d6
    have n4 := D6.ne h4
    (generalize hG : L2.upd _ p4 _ = H7; have s4 := same_of hG h4; have e4 := at_of hG; clear hG)
    have eL7 : H7 L = _ := s4 _ _ (d6.at nL eL)
    refine ⟨L, _, _, rfl, rfl, eL7, (by show 4 < sizeLine; decide), ?_⟩
    have q1 : H6 p1 = some (pairL c (0 - 1)) := d6.at n1 (sL _ _ (s3 _ _ (d3.at n1 (s2 _ _ e1))))
    have q2 : H6 p2 = _ := d6.at n2 (sL _ _ (s3 _ _ (d3.at n2 e2)))
    have q3 : H6 p3 = _ := d6.at n3 (sL _ _ e3)
    have qp : H6 p = _ := D6.at np hp
    have b7 : ∃ o, H7 b = some o ∧ Bag (n + 1) o := let ⟨o, e, g⟩ := D6.bag; ⟨o, s4 _ _ e, g⟩
    have D7 : Dr b (n + 1) H H7 := D6.trans (Dr.same s4 D6.bag)
    have neb : b ≠ L := Ne.symm nL
    have nLp : ∀ {a : Addr} {c i}, H7 a = some (pairL c i) → a ≠ L := fun {a c i} e z => by rw [z, eL7] at e; cases e
    have b8 : ∃ o, (L2.upd H7 L (.lst ([.ref p, .ref p1, .ref p2, .ref p3] ++ [.ref p4]))) b = some o ∧ Bag (n + 1) o := let ⟨o, e, g⟩ := b7; ⟨o, by rw [upd_ne neb]; exact e, g⟩
    refine ⟨_, rfl, _, rfl, b, _, n, 5, rfl, b8.choose_spec.1, b8.choose_spec.2, by decide, by decide +kernel, fun x9 o9 l9 u9 g9 => ?_⟩
    obtain ⟨v, hv, hvm⟩ := atI_in (xs := [V.ref p, .ref p1, .ref p2, .ref p3] ++ [V.ref p4]) l9 u9
    have key : ∀ a c i, v = .ref a → a ≠ b → H7 a = some (pairL c i) → LetA c i → Q v (L2.upd (L2.upd H7 L (.lst ([.ref p, .ref p1, .ref p2, .ref p3] ++ [.ref p4]))) b o9) := fun a c i ev na ea hla => by
      rw [ev]
      refine q _ a c i ⟨fun x o hx e => ?_, o9, upd_same .., g9⟩ na ?_ hla
      · have e7 := D7.fx x o hx e
        rw [upd_ne hx]
        by_cases z : x = L
        · exfalso
          have f1 := D3.free (s3.free hL)
          rw [← z, e] at f1
          cases f1
        · rw [upd_ne z]; exact e7
      · rw [upd_ne na, upd_ne (nLp ea)]; exact ea
    have eL8 : SqL K (L2.upd (L2.upd H7 L (.lst ([.ref p, .ref p1, .ref p2, .ref p3] ++ [.ref p4]))) b o9) L ([.ref p, .ref p1, .ref p2, .ref p3] ++ [.ref p4]) := .inl (.inl (by rw [upd_ne nL, upd_same]))
    refine ⟨L, _, _, _, rfl, rfl, eL8, hv, ?_⟩
    have c1 := caps_all c' hcm
    simp only [List.mem_append, List.mem_cons, List.not_mem_nil, or_false, false_or] at hvm
    rcases hvm with (rfl | rfl | rfl | rfl) | rfl
    · exact key p c i rfl np (s4 _ _ qp) hc
    · exact key p1 c (0 - 1) rfl n1 (s4 _ _ q1) ⟨hc.1, by decide, by decide⟩
    · exact key p2 c 0 rfl n2 (s4 _ _ q2) ⟨hc.1, by decide, by decide⟩
    · exact key p3 c m rfl n3 (s4 _ _ q3) ⟨hc.1, by omega, by omega⟩
    · exact key p4 c' i rfl n4 e4 ⟨c1, hc.2⟩
abbrev s__law_shown : Stmt := top 25
theorem sc__law_shown : FnScope ["_law_letter_here"] ["_law_letter_here"] (defScope s__law_shown) := ⟨rfl, rfl, rfl, by decide +kernel, rfl, by decide +kernel, by decide +kernel⟩

theorem ok_shown (bt : Bt mg) (D : Def K mg "_law_shown" s__law_shown) : Prom P w K mg base 1 "_law_shown" ["_law_letter_here"] spShown := by
  refine prom_mk D sc__law_shown (fun vs H Q E h => ?_) (fun _ _ _ _ _ _ us hl => match us, hl with | [_], _ => rfl) (fun f cdv A outer s H vs Q E hr h => ?_)
  · obtain ⟨p, c, i, rfl, _⟩ := h
    rfl
  · obtain ⟨p, c, i, rfl, hp, hc, q⟩ := h
    refine ⟨_, (pss_one (ps_ret (pe_op op_add_str (pe_ix (ix_tupK (K := K)) (pv 0) pe_int (fun _ _ => rfl)) (pe_ix (ix_listK (K := K)) (pe_lst (pa_cons pe_str (pa_cons (pe_callTy (T := "str") call_str_int (by rfl) bt.str_ (by decide +kernel) (pa_cons (pe_ix (ix_tupK (K := K)) (pv 0) pe_int (fun _ _ => rfl)) pa_nil)) pa_nil))) (pe_callTy (T := "int") call_int1 (by rfl) bt.int_ (by decide +kernel) (pa_cons (pe_cmpR op_ge (pe_ix (ix_tupK (K := K)) (pv 0) pe_int (fun _ _ => rfl)) pe_int (nomark _)) pa_nil)) (fun _ _ => rfl))))), ?_⟩
    have sp : SqT K H p [.str ⟨#[c]⟩, .int i] := .inl (.inl hp)
    have li : i.natAbs.log2 < 1920 := Nat.lt_of_le_of_lt (Nat.log2_le_self _) (by have := hc.2.1; have := hc.2.2; omega)
    refine ⟨_, rfl, p, _, _, _, rfl, rfl, sp, rfl, _, rfl, p, _, _, _, rfl, rfl, sp, rfl, i, rfl, li, (by show 2 ≤ sizeLine; decide), fun L hL => ?_⟩
    (generalize hG : L2.upd _ L _ = H4; have sL := same_of hG hL; have eL := at_of hG; clear hG)
    refine ⟨_, rfl, p, _, _, _, rfl, rfl, SqT.same sL sp, rfl, _, _, rfl, rfl, .inr ⟨_, rfl, ?_⟩⟩
    by_cases h0 : 0 ≤ i
    · rw [if_pos (decide_eq_true h0)]
      refine ⟨L, _, _, _, rfl, rfl, .inl (.inl eL), rfl, _, _, rfl, rfl, ?_, ?_⟩
      · have := int_len (a := i) (by have := hc.2.2; omega)
        have : (⟨#[c]⟩ : Str).length = 1 := rfl
        exact sz5 (by omega)
      · have := q H4 sL
        unfold shownS at this
        rw [if_pos h0] at this
        exact this
    · rw [if_neg (by simpa using h0)]
      refine ⟨L, _, _, _, rfl, rfl, .inl (.inl eL), rfl, _, _, rfl, rfl, ?_, ?_⟩
      · have : (⟨#[c]⟩ : Str).length = 1 := rfl
        have : ("" : Str).length = 0 := by decide +kernel
        exact sz5 (by omega)
      · have := q H4 sL
        unfold shownS at this
        rw [if_neg h0] at this
        exact this
end

end TS

namespace TS
open PySem PySem.Spec PyProof.Rows L2 TL
/-! ### the kind of an exception -/
def tTru (K : PySem.W.Frag) (ta : TE) : TT := fun σ H Q => ta σ H fun x H' => ∃ k, TruV K x H' k ∧ Q k H'
theorem pt_truthK {X : Cx} {K : PySem.W.Frag} {a : Expr} {ta : TE} (hK : X.K = K) (ha : PE X a ta) (he : ∀ whole, isTrue a X.env whole = (do let v ← whole; standAt a.pos; holding [v] (truthy v))) :
    PT X a (tTru K ta) := by subst hK; exact pt_truth ha he
/-- an exception's class, told -/
structure KindOf (K : PySem.W.Frag) (D : Addr) (w : Str) : Prop where
  is_ : exI K D = true
  k1 : PySem.W.kitOne K (.ref D) (.ref (He.ga K "NoLetter")) = some (decide (w = "letter"))
  k2 : PySem.W.kitOne K (.ref D) (.ref (He.ga K "NoNumber")) = some (decide (w = "number"))
  k3 : PySem.W.kitOne K (.ref D) (.ref (He.ga K "NoName")) = some false
  k4 : PySem.W.kitOne K (.ref D) (.ref (He.ga K "TermError")) = some true
  w2 : w = "letter" ∨ w = "number"
def spKind (K : PySem.W.Frag) (a : Addr) : Sp := fun vs H Q _ => ∃ (D dx : Addr) (oe : Obj) (fs : List (Str × V)) (w : Str), vs = [.ref a] ∧ H a = some (exE a oe) ∧ Zc (.ref D) (some dx) oe ∧ (∃ vs, oe.data = .fields vs ∧ vs[2]? = some .none) ∧ H dx = some (.xd fs) ∧ KindOf K D w ∧
  ∀ G p, Same H G → H p = none → G p = some (.lst [.str w, .str "base"]) → Q (.ref p) G
section
variable {P : Program} {w : World} {K : PySem.W.Frag} {mg : Str → Option Value} {base : Heap}
abbrev s__law_kind : Stmt := top 26
theorem sc__law_kind : FnScope ["_law_e", "_law_own", "_law_here", "_law_word"] ["_law_e"] (defScope s__law_kind) := ⟨rfl, rfl, rfl, by decide +kernel, rfl, by decide +kernel, by decide +kernel⟩

theorem ok_kind (bt : Bt mg) (g_NoLetter : mg "NoLetter" = some (.ref (He.ga K "NoLetter"))) (g_NoNumber : mg "NoNumber" = some (.ref (He.ga K "NoNumber"))) (g_NoName : mg "NoName" = some (.ref (He.ga K "NoName"))) (g_TermError : mg "TermError" = some (.ref (He.ga K "TermError")))
    (D : Def K mg "_law_kind" s__law_kind) : PromT P w K mg base 1 "_law_kind" ["_law_e"] (spKind K) := by
  refine promT_mk D sc__law_kind (fun e vs H Q E h => ?_) (fun _ _ _ _ _ _ us hl => match us, hl with | [_], _ => rfl) (fun f a cdv A outer s H vs Q hgd hh hr h => ?_)
  · obtain ⟨D, dx, oe, fs, w, rfl, _⟩ := h
    rfl
  · obtain ⟨D, dx, oe, fs, u, rfl, ha, zc, ⟨fv, hf1, hf2⟩, hx, kd, q⟩ := h
    have hf : ∃ vs, oe.data = .fields vs := ⟨fv, hf1⟩
    have told : Told H a := ⟨oe, fv, ha, hf1, hf2⟩
    refine ⟨_, (pss_cons (ps_set (i := 1) sc__law_kind.nd rfl (Or.inl rfl) (pe_lst (pa_cons (pe_callB (id := "isinstance") (call_isX rfl) (by rfl) bt.isinstance_ (by decide +kernel) (pa_cons (pv 0) (pa_cons (pe_glob (v := .ref (He.ga K "NoLetter")) rfl g_NoLetter rfl) pa_nil))) (pa_cons (pe_callB (id := "isinstance") (call_isX rfl) (by rfl) bt.isinstance_ (by decide +kernel) (pa_cons (pv 0) (pa_cons (pe_glob (v := .ref (He.ga K "NoNumber")) rfl g_NoNumber rfl) pa_nil))) (pa_cons (pe_callB (id := "isinstance") (call_isX rfl) (by rfl) bt.isinstance_ (by decide +kernel) (pa_cons (pv 0) (pa_cons (pe_glob (v := .ref (He.ga K "NoName")) rfl g_NoName rfl) pa_nil))) (pa_cons (pe_callB (id := "isinstance") (call_isX rfl) (by rfl) bt.isinstance_ (by decide +kernel) (pa_cons (pv 0) (pa_cons (pe_glob (v := .ref (He.ga K "TermError")) rfl g_TermError rfl) pa_nil))) pa_nil))))))
      (pss_one (ps_ret (pe_lcE (own := [("_law_word", 3), ("_law_here", 2)]) hh sc__law_kind.nd (pi_zipE (K := K) rfl rfl bt.zip_ (pa_cons (pe_lst (pa_cons pe_str (pa_cons pe_str (pa_cons pe_str (pa_cons pe_str pa_nil))))) (pa_cons (pv 1) pa_nil))) (blkOk_by (N := ["_law_e", "_law_own", "_law_here", "_law_word"]) (sc := defScope s__law_kind) (by decide +kernel)) (fun _ _ _ _ _ => (pg_tupE (K := K) (n := 2) rfl hh (pgs_cons (pg_name (i := 3) sc__law_kind.nd rfl (Or.inl rfl)) (pgs_cons (pg_name (i := 2) sc__law_kind.nd rfl (Or.inl rfl)) pgs_nil)))) (fun _ _ _ _ _ => (pts_one (pt_truthK (K := K) rfl (pv 2) (by intro _; rfl)))) (fun _ _ _ _ _ => (pv 3)))))), ?_⟩
    have ref1 : ∀ {c : Addr} {u : Value}, RelV (.ref c) u → u = .ref c := fun h => h
    refine ⟨_, rfl, a, D, dx, oe, fs, _, _, _, rfl, ha, zc, hf, hx, kd.is_, fun _ h => ref1 h, kd.k1, ?_⟩
    refine ⟨_, rfl, a, D, dx, oe, fs, _, _, _, rfl, ha, zc, hf, hx, kd.is_, fun _ h => ref1 h, kd.k2, ?_⟩
    refine ⟨_, rfl, a, D, dx, oe, fs, _, _, _, rfl, ha, zc, hf, hx, kd.is_, fun _ h => ref1 h, kd.k3, ?_⟩
    refine ⟨_, rfl, a, D, dx, oe, fs, _, _, _, rfl, ha, zc, hf, hx, kd.is_, fun _ h => ref1 h, kd.k4, (by show 4 ≤ sizeLine; decide), fun L hL => ?_⟩
    (generalize hG : L2.upd _ L _ = H1; have sL := same_of hG hL; have eL := at_of hG; clear hG)
    refine ⟨(by show 4 ≤ sizeLine; decide), fun M hM => ?_⟩
    (generalize hG : L2.upd _ M _ = H2; have sM := same_of hG hM; have eM := at_of hG; clear hG)
    have eL2 := sM _ _ eL
    refine ⟨_, rfl, M, L, _, _, rfl, .inl (.inl eM), .inl (.inl eL2), fun R hR => ?_⟩
    obtain ⟨bs, ebs⟩ : ∃ bs, bs = [decide (u = "letter"), decide (u = "number"), false, true] := ⟨_, rfl⟩
    obtain ⟨ws, ews⟩ : ∃ ws : List Str, ws = ([("letter" : Str), "number", "name", "base"] : List Str) := ⟨_, rfl⟩
    have eM' : H2 M = some (.lst (ws.map V.str)) := by rw [ews]; exact eM
    have eL' : H2 L = some (.lst (bs.map V.bl)) := by rw [ebs]; exact eL2
    have l1 : ws.length = 4 := by rw [ews]; rfl
    have l2 : bs.length = 4 := by rw [ebs]; rfl
    refine lc_it (walk_zipE (e := a) (n := 4) (xs := ws.map V.str) (ys := bs.map V.bl) (by rw [List.length_map, List.length_map, l1, l2]; rfl)) (fun i G => Same H2 G ∧ G R = some (.lst ((((ws.zip bs).take i).filter (·.2)).map fun p => V.str p.1))) ⟨Same.new (Same.refl _) hR, upd_same ..⟩
      (fun i G _ p => ⟨⟨.inl (.inl (p.1 _ _ eM')), .inl (.inl (p.1 _ _ eL'))⟩, ((told.same sL).same sM).same p.1⟩) ?_ ?_
    · rintro i x G G' hi ⟨p1, p2⟩ ⟨T, y, z, rfl, hT, rfl, hy, hz⟩
      replace hy : (ws.map V.str)[i]? = some y := hy
      replace hz : (bs.map V.bl)[i]? = some z := hz
      rw [List.getElem?_map] at hy hz
      have i1 : i < ws.length := by omega
      have i2 : i < bs.length := by omega
      rw [List.getElem?_eq_getElem i1] at hy
      rw [List.getElem?_eq_getElem i2] at hz
      obtain rfl : V.str ws[i] = y := Option.some.inj hy
      obtain rfl : V.bl bs[i] = z := Option.some.inj hz
      have sT : Same G (L2.upd G T (.tup [.str ws[i], .bl bs[i]])) := Same.new (Same.refl _) hT
      have it : (ws.zip bs)[i]? = some (ws[i], bs[i]) := by rw [List.getElem?_eq_getElem (by simp; omega)]; simp
      refine ⟨T, _, rfl, .inl (.inl (upd_same ..)), rfl, (((told.same sL).same sM).same p1).same sT, _, _, rfl, _, _, rfl, rfl, rfl, _, rfl, bs[i], rfl, ?_⟩
      cases hb : bs[i] with
      | false =>
        refine iteF ⟨p1.trans (hb ▸ sT), ?_⟩
        rw [hb] at sT it
        rw [sT _ _ p2, List.take_add_one, it]
        simp
      | true =>
        rw [hb] at sT it
        refine iteT ⟨_, rfl, _, sT _ _ p2, ?_, ?_, ?_⟩
        · rw [List.length_map]
          have := List.length_filter_le (·.2) ((ws.zip bs).take i)
          have := List.length_take_le i (ws.zip bs)
          exact sz5' (by omega)
        · intro b o e
          rw [upd_ne (ne_of_none e hR)]
          exact sT _ _ (p1 _ _ e)
        · rw [upd_same, List.take_add_one, it]
          simp
    · rintro G ⟨p1, p2⟩
      refine q G R ((sL.trans sM).trans p1) (sL.free (sM.free hR)) ?_
      rw [p2, List.take_of_length_le (by simp; omega), ebs, ews]
      rcases kd.w2 with rfl | rfl
      · rw [show decide (("letter" : Str) = "letter") = true by decide +kernel, show decide (("letter" : Str) = "number") = false by decide +kernel]; rfl
      · rw [show decide (("number" : Str) = "letter") = false by decide +kernel, show decide (("number" : Str) = "number") = true by decide +kernel]; rfl
end

end TS

namespace TS
open PySem PySem.Spec PyProof.Rows L2 TL
/-! ### refusals -/
/-- the thing handed in, and how it may be shown -/
structure OddT (K : PySem.W.Frag) (H : Hp) (x : V) (d : PyData) : Prop where
  dt : Dt K H x d
  sh : Shows d
  ls : ∀ ds, d = .list ds → ∃ (a : Addr) (y : V) (dy : PyData), x = .ref a ∧ H a = some (.lst [y]) ∧ (∀ G, Dt K G y dy) ∧ Shows (.list [dy, .str "late"])
  len : ∀ z, d = .str z → z.length ≤ 100000
theorem OddT.same {K : PySem.W.Frag} {H G : Hp} {x : V} {d : PyData} (s : Same H G) (h : OddT K H x d) : OddT K G x d :=
  ⟨h.dt.same s, h.sh, fun ds e => let ⟨a, y, dy, h1, h2, h3⟩ := h.ls ds e; ⟨a, y, dy, h1, s _ _ h2, h3⟩, h.len⟩
def spRefused (K : PySem.W.Frag) : Sp := fun vs H Q _ => ∃ (way : Int) (x : V) (d : PyData), vs = [.int way, x] ∧ OddT K H x d ∧ ((way = 0 ∧ letterD d = false) ∨ (way = 1 ∧ wholeD 0 99 d = false)) ∧ ∀ G, Same H G → Q (.bl true) G
section
variable {P : Program} {w : World} {K : PySem.W.Frag} {mg : Str → Option Value} {base : Heap}
abbrev s__law_refused : Stmt := top 27
theorem sc__law_refused : FnScope ["_law_way", "_law_matter", "_law_e"] ["_law_way", "_law_matter"] (defScope s__law_refused) := ⟨rfl, rfl, rfl, by decide +kernel, rfl, by decide +kernel, by decide +kernel⟩

theorem ok_refused (bt : Bt mg) (g_NoLetter : mg "NoLetter" = some (.ref (He.ga K "NoLetter"))) (g_NoNumber : mg "NoNumber" = some (.ref (He.ga K "NoNumber"))) (x_NoLetter : OwnV K (He.ga K "NoLetter") "found") (x_NoNumber : OwnV K (He.ga K "NoNumber") "found")
    (k_NoLetter : KindOf K (He.ga K "NoLetter") "letter") (k_NoNumber : KindOf K (He.ga K "NoNumber") "number")
    (e1 : PySem.W.exmAny K (.ref (He.ga K "NoLetter")) [.ref (He.ga K "NoLetter"), .ref (He.ga K "NoNumber")] = some true) (e2 : PySem.W.exmAny K (.ref (He.ga K "NoNumber")) [.ref (He.ga K "NoLetter"), .ref (He.ga K "NoNumber")] = some true)
    (p_letter_rank : PromXC P w K mg base 3 "letter_rank" ["letter"] (spRank K)) (p_normal_letter : PromXC P w K mg base 3 "normal_letter" ["number"] (spNormal K)) (p__law_kind : PromT P w K mg base 1 "_law_kind" ["_law_e"] (spKind K))
    (p__law_very : PromT P w K mg base 1 "_law_very" ["_law_found", "_law_matter"] (fun _ => spVery K)) (D : Def K mg "_law_refused" s__law_refused) : PromG P w K mg base 4 "_law_refused" ["_law_way", "_law_matter"] (spRefused K) := by
  refine promG_mk D sc__law_refused (fun vs H Q E h => ?_) (fun _ _ _ _ _ _ us hl => match us, hl with | [_, _], _ => rfl) (fun f cdv A outer s H vs Q E hgd hr h => ?_)
  · obtain ⟨way, x, d, rfl, _⟩ := h
    rfl
  · obtain ⟨way, x, d, rfl, od, hw, q⟩ := h
    refine ⟨_, (pss_cons (ps_tryN rfl rfl sc__law_refused.nd (fun W pn xe tk po => (pss_one (ps_if (pt_cmpR op_eq (pv 0) pe_int (nomark _)) (pss_one (ps_expr (pe_pcXC p_letter_rank tk (hr.mono (by decide)) rfl (pa_cons (pv 1) pa_nil)))) (pss_one (ps_expr (pe_pcXC p_normal_letter tk (hr.mono (by decide)) rfl (pa_cons (pv 1) pa_nil))))))) (ClausesOkN.as_ (i := 2) rfl rfl (.two ⟨rfl, by decide, .inl g_NoLetter⟩ ⟨rfl, by decide, .inl g_NoNumber⟩) (fun a oe cls d pn bna zn hfl => (pss_one (ps_ret (pe_and (pe_cmpR (op_eqDK (K := K) hr.units) (pe_giveT bna zn hfl p__law_kind (hr.mono (by decide)) hgd rfl (pa_cons (pv 2) pa_nil)) (pe_lst (pa_cons (pe_ix (ix_listK (K := K)) (pe_lst (pa_cons pe_str (pa_cons pe_str pa_nil))) (pv 0) (fun _ _ => rfl)) (pa_cons pe_str pa_nil))) (nomark _)) (pe_one (pe_callT p__law_very (hr.mono (by decide)) hgd rfl (pa_cons (pe_either (pe_xf x_NoLetter.xf x_NoLetter.no zn.zc hfl (pv 2)) (pe_xf x_NoNumber.xf x_NoNumber.no zn.zc hfl (pv 2))) (pa_cons (pv 1) pa_nil)))))))) ClausesOkN.stop))
      (pss_one (ps_ret pe_bl))), ?_⟩
    have lay : ∀ u : Str, u = "letter" ∨ u = "number" → Lays [u, "base"] := fun u hu => by
      rcases hu with rfl | rfl <;> exact Lays.of_plain (fun z hz => by
        simp only [List.mem_cons, List.not_mem_nil, or_false] at hz
        rcases hz with rfl | rfl <;> exact plainB (by decide +kernel))
    rcases hw with ⟨rfl, hw⟩ | ⟨rfl, hw⟩
    · refine ⟨_, rfl, rfl, _, rfl, ?_⟩
      refine iteT' (by decide) ?_
      refine ⟨_, rfl, x, d, rfl, od.dt, od.len, fun z hz hl => ?_, fun _ G e sG he eG => ?_⟩
      · rw [hz] at hw
        rw [show letterD (.str z) = letterL (tl z) from rfl, hl] at hw
        cases hw
      refine ⟨true, e1, fun _ a na => ?_, fun z => by cases z⟩
      refine ⟨_, rfl, fun oe zn hf na' => ?_⟩
      obtain ⟨fv, hfv⟩ := hf
      have nea : e ≠ a := fun z => by rw [z, na] at eG; cases eG
      refine ⟨He.ga K "NoLetter", e, oe, [("found", x)], "letter", rfl, upd_same .., zn.zc, ⟨fv, hfv, zn.2.2 fv hfv⟩, ?_, k_NoLetter, fun G2 p s2 hp ep => ⟨s2 a _ (upd_same ..), ?_⟩⟩
      · rw [upd_ne nea]; exact eG
      have npa : p ≠ a := fun z => by rw [z, upd_same] at hp; cases hp
      have s3 : Same G (ItX.dropH G2 a) := fun b o eb => by
        have nb : b ≠ a := ne_of_none eb na
        rw [ItX.dropH_ne nb]
        exact s2 b o (by rw [upd_ne nb]; exact eb)
      have ep3 : ItX.dropH G2 a p = some (.lst [.str "letter", .str "base"]) := by rw [ItX.dropH_ne npa]; exact ep
      generalize ItX.dropH G2 a = G3 at s3 ep3 ⊢
      refine ⟨(by show 2 ≤ sizeLine; decide), fun L hL => ?_⟩
      (generalize hG : L2.upd _ L _ = G4; have sL := same_of hG hL; have eL := at_of hG; clear hG)
      refine ⟨_, rfl, L, _, _, _, rfl, rfl, .inl (.inl eL), rfl, (by show 2 ≤ sizeLine; decide), fun M hM => ?_⟩
      (generalize hG : L2.upd _ M _ = G5; have sM := same_of hG hM; have eM := at_of hG; clear hG)
      have lw := lay "letter" (by exact .inl rfl)
      refine strs_eq (zs := ["letter", "base"]) (ys := ["letter", "base"]) (.inl (.inl (sM _ _ (sL _ _ ep3)))) (.inl (.inl eM)) lw lw ⟨_, rfl, ?_⟩
      refine iteT' (decide_eq_true rfl) ?_
      have s5 := (s3.trans sL).trans sM
      have eG5 := s5 _ _ eG
      refine .inl ⟨_, rfl, rfl, rfl, e, _, x, rfl, eG5, rfl, ?_⟩
      have od5 := od.same (sG.trans s5)
      exact ⟨_, rfl, x, d, rfl, od5.dt, od5.sh, od5.ls, fun G6 s6 => q G6 ((sG.trans s5).trans s6)⟩
    · refine ⟨_, rfl, rfl, _, rfl, ?_⟩
      refine iteF' (by decide) ?_
      refine ⟨_, rfl, x, d, rfl, od.dt, fun i hi h0 h1 => ?_, fun _ G e sG he eG => ?_⟩
      · rw [hi] at hw
        rw [show wholeD 0 99 (.int i) = (decide (0 ≤ i) && decide (i ≤ 99)) from rfl, decide_eq_true h0, decide_eq_true h1] at hw
        cases hw
      refine ⟨true, e2, fun _ a na => ?_, fun z => by cases z⟩
      refine ⟨_, rfl, fun oe zn hf na' => ?_⟩
      obtain ⟨fv, hfv⟩ := hf
      have nea : e ≠ a := fun z => by rw [z, na] at eG; cases eG
      refine ⟨He.ga K "NoNumber", e, oe, [("found", x)], "number", rfl, upd_same .., zn.zc, ⟨fv, hfv, zn.2.2 fv hfv⟩, ?_, k_NoNumber, fun G2 p s2 hp ep => ⟨s2 a _ (upd_same ..), ?_⟩⟩
      · rw [upd_ne nea]; exact eG
      have npa : p ≠ a := fun z => by rw [z, upd_same] at hp; cases hp
      have s3 : Same G (ItX.dropH G2 a) := fun b o eb => by
        have nb : b ≠ a := ne_of_none eb na
        rw [ItX.dropH_ne nb]
        exact s2 b o (by rw [upd_ne nb]; exact eb)
      have ep3 : ItX.dropH G2 a p = some (.lst [.str "number", .str "base"]) := by rw [ItX.dropH_ne npa]; exact ep
      generalize ItX.dropH G2 a = G3 at s3 ep3 ⊢
      refine ⟨(by show 2 ≤ sizeLine; decide), fun L hL => ?_⟩
      (generalize hG : L2.upd _ L _ = G4; have sL := same_of hG hL; have eL := at_of hG; clear hG)
      refine ⟨_, rfl, L, _, _, _, rfl, rfl, .inl (.inl eL), rfl, (by show 2 ≤ sizeLine; decide), fun M hM => ?_⟩
      (generalize hG : L2.upd _ M _ = G5; have sM := same_of hG hM; have eM := at_of hG; clear hG)
      have lw := lay "number" (by exact .inr rfl)
      refine strs_eq (zs := ["number", "base"]) (ys := ["number", "base"]) (.inl (.inl (sM _ _ (sL _ _ ep3)))) (.inl (.inl eM)) lw lw ⟨_, rfl, ?_⟩
      refine iteT' (decide_eq_true rfl) ?_
      have s5 := (s3.trans sL).trans sM
      have eG5 := s5 _ _ eG
      refine .inr ⟨_, rfl, rfl, rfl, e, _, x, rfl, eG5, rfl, ?_⟩
      have od5 := od.same (sG.trans s5)
      exact ⟨_, rfl, x, d, rfl, od5.dt, od5.sh, od5.ls, fun G6 s6 => q G6 ((sG.trans s5).trans s6)⟩
end

end TS

namespace TS
open PySem PySem.Spec PyProof.Rows L2 TL
/-! ### letters, plainly -/
theorem letterL_cons (c : Nat) (r : List Nat) : letterL (c :: r) = (capL c && (decide (r = []) || (plainL r && decide (NumText.digitsVal r ≤ 99)))) := rfl
theorem rankL_cons (c : Nat) (r : List Nat) : rankL (c :: r) = (⟨#[c]⟩, if r = [] then -1 else ((NumText.digitsVal r : Nat) : Int)) := rfl
theorem low_cap : ∀ c ∈ (List.range 26).map (· + 65), Unicode.lowerOf c = [c + 32] := by decide +kernel
theorem cap_in {c : Nat} (h : capL c = true) : c ∈ (List.range 26).map (· + 65) := by
  unfold capL at h
  obtain ⟨h1, h2⟩ := Bool.and_eq_true_iff.mp h
  have h1 := of_decide_eq_true h1
  have h2 := of_decide_eq_true h2
  exact List.mem_map.mpr ⟨c - 65, List.mem_range.mpr (by omega), by omega⟩
theorem lower_head {z : Str} {c : Nat} {r : List Nat} (h : tl z = c :: r) (hc : capL c = true) : ∃ t, tl (Txt.lower z) = (c + 32) :: t := by
  obtain ⟨⟨l⟩⟩ := z
  have hl : l = c :: r := h
  subst hl
  have e0 : Unicode.lowerAt (c :: r).toArray 0 = [c + 32] := by
    unfold Unicode.lowerAt
    have : (c :: r).toArray[0]? = some c := by simp
    rw [this]
    have hn : (c == 0x3A3) = false := by
      have := List.mem_map.mp (cap_in hc)
      obtain ⟨k, hk, e⟩ := this
      have := List.mem_range.mp hk
      exact beq_eq_false_iff_ne.mpr (by omega)
    simp only [hn, Bool.false_and]
    exact low_cap c (cap_in hc)
  have e1 : tl (Txt.lower ⟨(c :: r).toArray⟩) = (((c :: r).mapIdx fun i _ => Unicode.lowerAt (c :: r).toArray i)).flatten := by
    show (((c :: r).toArray.mapIdx fun i _ => (Unicode.lowerAt (c :: r).toArray i).toArray).flatten).toList = _
    simp [List.mapIdx_eq_zipIdx_map]
    rfl
  rw [e1, List.mapIdx_cons, List.flatten_cons, e0]
  exact ⟨_, rfl⟩
theorem num_facts : ∀ n ∈ List.range 100, plainL (tl ((toString (n : Int) : String) : Str)) = true ∧ NumText.digitsVal (tl ((toString (n : Int) : String) : Str)) = n ∧ tl ((toString (n : Int) : String) : Str) ≠ [] := by decide +kernel
theorem tl_shown (c : Nat) (i : Int) : tl (shownS c i) = c :: (if 0 ≤ i then tl ((toString i : String) : Str) else []) := by
  unfold shownS
  rw [tl_append]
  split
  · rfl
  · rw [show tl ("" : Str) = [] by decide +kernel]
    rfl
theorem shown_rank {c : Nat} {i : Int} (h : LetA c i) : letterL (tl (shownS c i)) = true ∧ rankL (tl (shownS c i)) = (⟨#[c]⟩, i) := by
  obtain ⟨h1, h2, h3⟩ := h
  rw [tl_shown]
  by_cases h0 : 0 ≤ i
  · rw [if_pos h0]
    obtain ⟨n, rfl⟩ : ∃ n : Nat, i = n := ⟨i.toNat, by omega⟩
    obtain ⟨f1, f2, f3⟩ := num_facts n (List.mem_range.mpr (by omega))
    refine ⟨?_, ?_⟩
    · rw [letterL_cons, h1, f1, f2, decide_eq_true (show n ≤ 99 by omega)]; simp
    · rw [rankL_cons, if_neg f3, f2]
  · rw [if_neg h0]
    obtain rfl : i = -1 := by omega
    rw [letterL_cons, rankL_cons, h1]
    simp
theorem lower_no {c : Nat} {i : Int} (h : LetA c i) : letterL (tl (Txt.lower (shownS c i))) = false := by
  obtain ⟨t, e⟩ := lower_head (tl_shown c i) h.1
  rw [e, letterL_cons]
  have h1 := h.1
  unfold capL at h1
  obtain ⟨a, b⟩ := Bool.and_eq_true_iff.mp h1
  have a := of_decide_eq_true a
  have b := of_decide_eq_true b
  have : capL (c + 32) = false := by
    unfold capL
    rw [decide_eq_false (show ¬ c + 32 ≤ 90 by omega), Bool.and_false]
  rw [this]
  rfl
theorem spaced_no {c : Nat} {i : Int} (h : LetA c i) : letterL (tl (shownS c i ++ (" " : Str))) = false := by
  rw [tl_append, tl_shown, show tl (" " : Str) = [32] by decide +kernel, List.cons_append, letterL_cons]
  have hp : plainL ((if 0 ≤ i then tl ((toString i : String) : Str) else []) ++ [32]) = false := by
    unfold plainL
    have : (((if 0 ≤ i then tl ((toString i : String) : Str) else []) ++ [32]).all digit) = false := by
      rw [List.all_append]
      have : ([32] : List Nat).all digit = false := by decide
      rw [this, Bool.and_false]
    rw [this, Bool.false_and, Bool.and_false]
  rw [hp, decide_eq_false (by simp)]
  simp
theorem low_dig : ∀ c ∈ (List.range 10).map (· + 48), Unicode.lowerOf c = [c] := by decide +kernel
theorem dig_in {c : Nat} (h : digit c = true) : c ∈ (List.range 10).map (· + 48) := by
  unfold digit at h
  obtain ⟨h1, h2⟩ := Bool.and_eq_true_iff.mp h
  have h1 := of_decide_eq_true h1
  have h2 := of_decide_eq_true h2
  exact List.mem_map.mpr ⟨c - 48, List.mem_range.mpr (by omega), by omega⟩
theorem lower_plain {z : Str} (h : ∀ c ∈ tl z, capL c = true ∨ digit c = true) : Plain (Txt.lower z) := by
  intro x hx
  obtain ⟨⟨l⟩⟩ := z
  have e1 : tl (Txt.lower ⟨l.toArray⟩) = ((l.mapIdx fun i _ => Unicode.lowerAt l.toArray i)).flatten := by
    show ((l.toArray.mapIdx fun i _ => (Unicode.lowerAt l.toArray i).toArray).flatten).toList = _
    simp [List.mapIdx_eq_zipIdx_map]
    rfl
  rw [show tl (Txt.lower (⟨⟨l⟩⟩ : Str)) = ((l.mapIdx fun i _ => Unicode.lowerAt l.toArray i)).flatten from e1] at hx
  obtain ⟨m, hm, hxm⟩ := List.mem_flatten.mp hx
  obtain ⟨i, hi, rfl⟩ := List.mem_iff_getElem.mp hm
  rw [List.length_mapIdx] at hi
  rw [List.getElem_mapIdx] at hxm
  unfold Unicode.lowerAt at hxm
  have eg : l.toArray[i]? = some l[i] := by simp [hi]
  rw [eg] at hxm
  have hc := h l[i] (List.getElem_mem hi)
  have b1 : l[i] ≤ 90 := by
    rcases hc with hc | hc
    · unfold capL at hc; exact of_decide_eq_true (Bool.and_eq_true_iff.mp hc).2
    · unfold digit at hc; have := of_decide_eq_true (Bool.and_eq_true_iff.mp hc).2; omega
  have hn : (l[i] == 0x3A3) = false := beq_eq_false_iff_ne.mpr (by omega)
  simp only [hn, Bool.false_and] at hxm
  rcases hc with hc | hc
  · rw [if_neg Bool.false_ne_true, low_cap _ (cap_in hc)] at hxm
    rw [List.mem_singleton.mp hxm]; omega
  · rw [if_neg Bool.false_ne_true, low_dig _ (dig_in hc)] at hxm
    rw [List.mem_singleton.mp hxm]; omega
theorem shown_signs {c : Nat} {i : Int} (h : LetA c i) : ∀ x ∈ tl (shownS c i), capL x = true ∨ digit x = true := by
  rw [tl_shown]
  intro x hx
  rcases List.mem_cons.mp hx with rfl | hx
  · exact .inl h.1
  · by_cases h0 : 0 ≤ i
    · rw [if_pos h0] at hx
      obtain ⟨n, rfl⟩ : ∃ n : Nat, i = n := ⟨i.toNat, by omega⟩
      obtain ⟨f1, _, _⟩ := num_facts n (List.mem_range.mpr (by have := h.2.2; omega))
      unfold plainL at f1
      have := (Bool.and_eq_true_iff.mp (Bool.and_eq_true_iff.mp f1).2).1
      exact .inr (List.all_eq_true.mp this x hx)
    · rw [if_neg h0] at hx
      cases hx
theorem shown_plain {c : Nat} {i : Int} (h : LetA c i) : Plain (shownS c i) := fun x hx => by
  rcases shown_signs h x hx with hc | hc
  · unfold capL at hc; have := of_decide_eq_true (Bool.and_eq_true_iff.mp hc).2; omega
  · unfold digit at hc; have := of_decide_eq_true (Bool.and_eq_true_iff.mp hc).2; omega
theorem shown_len {c : Nat} {i : Int} (h : LetA c i) : (shownS c i).length ≤ 50 := by
  unfold shownS
  rw [add_len]
  have o1 : (⟨#[c]⟩ : Str).length = 1 := rfl
  split
  · have := int_len (a := i) (by have := h.2.1; have := h.2.2; omega)
    omega
  · have : ("" : Str).length = 0 := by decide +kernel
    omega
/-- texts handed in -/
theorem oddS {K : PySem.W.Frag} {H : Hp} {z : Str} (hz : z.length ≤ 200) (hp : Plain z) : OddT K H (.str z) (.str z) :=
  ⟨.str z, (Sm.str (k := 0) (n := 200) (fun c hc => Nat.lt_of_lt_of_le (hp c hc) (by decide)) hz).shows, fun ds e => (by cases e), fun y e => (by cases e; omega)⟩
theorem oddN {K : PySem.W.Frag} {H : Hp} : OddT K H .non .none := ⟨.non, (Sm.none (k := 0) (n := 0)).shows, fun ds e => (by cases e), fun y e => (by cases e)⟩
theorem oddB {K : PySem.W.Frag} {H : Hp} (b : Bool) : OddT K H (.bl b) (.bool b) := ⟨.bl b, (Sm.bool (k := 0) (n := 0)).shows, fun ds e => (by cases e), fun y e => (by cases e)⟩
theorem oddI {K : PySem.W.Frag} {H : Hp} {i : Int} (h : Shows (.int i)) : OddT K H (.int i) (.int i) := ⟨.int i, h, fun ds e => (by cases e), fun y e => (by cases e)⟩
theorem oddL {K : PySem.W.Frag} {H : Hp} {a : Addr} {y : V} {dy : PyData} (h : H a = some (.lst [y])) (hy : ∀ G, Dt K G y dy) (s1 : Shows (.list [dy])) (s2 : Shows (.list [dy, .str "late"])) : OddT K H (.ref a) (.list [dy]) :=
  ⟨.lst (.inl (.inl h)) (.cons (hy _) .nil), s1, fun ds e => ⟨a, y, dy, rfl, h, hy, s2⟩, fun y e => (by cases e)⟩

end TS

namespace TS
open PySem PySem.Spec PyProof.Rows L2 TL
/-! ### letters are right -/
def spLRight : Sp := fun vs H Q _ => ∃ (b : Addr) (n : Nat), vs = [.ref b] ∧ (∃ o, H b = some o ∧ Bag (n + 8) o) ∧ ∀ H', Dr b n H H' → Q (.bl true) H'
section
variable {P : Program} {w : World} {K : PySem.W.Frag} {mg : Str → Option Value} {base : Heap}
abbrev s__law_letters_right : Stmt := top 28
theorem sc__law_letters_right : FnScope ["_law_bag_here", "_law_one", "_law_other", "_law_first", "_law_second", "_law_number", "_law_odd"] ["_law_bag_here"] (defScope s__law_letters_right) := ⟨rfl, rfl, rfl, by decide +kernel, rfl, by decide +kernel, by decide +kernel⟩

theorem ok_lright (bt : Bt mg) (p__law_take : Prom P w K mg base 1 "_law_take" ["_law_bag_here", "_law_many"] spTake) (p__law_letter : Prom P w K mg base 2 "_law_letter" ["_law_bag_here"] spLet) (p__law_near : Prom P w K mg base 2 "_law_near" ["_law_bag_here", "_law_letter_here"] spNear)
    (p__law_shown : Prom P w K mg base 1 "_law_shown" ["_law_letter_here"] spShown) (p_letter_rank : PromXC P w K mg base 3 "letter_rank" ["letter"] (spRank K)) (p_normal_letter : PromXC P w K mg base 3 "normal_letter" ["number"] (spNormal K))
    (p__law_refused : PromG P w K mg base 4 "_law_refused" ["_law_way", "_law_matter"] (spRefused K)) (D : Def K mg "_law_letters_right" s__law_letters_right) : PromG P w K mg base 5 "_law_letters_right" ["_law_bag_here"] spLRight := by
  refine promG_mk D sc__law_letters_right (fun vs H Q E h => ?_) (fun _ _ _ _ _ _ us hl => match us, hl with | [_], _ => rfl) (fun f cdv A outer s H vs Q E hgd hr h => ?_)
  · obtain ⟨b, n, rfl, _⟩ := h
    rfl
  · obtain ⟨b, n, rfl, hb, q⟩ := h
    refine ⟨_, (pss_cons (ps_set (i := 1) sc__law_letters_right.nd rfl (Or.inl rfl) (pe_pc p__law_letter (hr.mono (by decide)) rfl (pa_cons (pv 0) pa_nil)))
      (pss_cons (ps_set (i := 2) sc__law_letters_right.nd rfl (Or.inl rfl) (pe_pc p__law_near (hr.mono (by decide)) rfl (pa_cons (pv 0) (pa_cons (pv 1) pa_nil))))
      (pss_cons (ps_par (i := 3) (j := 4) (by rfl) sc__law_letters_right.nd rfl rfl (by decide) rfl rfl (pa_cons (pe_pcXC p_letter_rank takes0C (hr.mono (by decide)) rfl (pa_cons (pe_pc p__law_shown (hr.mono (by decide)) rfl (pa_cons (pv 1) pa_nil)) pa_nil)) (pa_cons (pe_pcXC p_letter_rank takes0C (hr.mono (by decide)) rfl (pa_cons (pe_pc p__law_shown (hr.mono (by decide)) rfl (pa_cons (pv 2) pa_nil)) pa_nil)) pa_nil)) (by rfl))
      (pss_cons (ps_if (PW.pt (pw_or (pt_not (pt_val (pe_callB (id := "isinstance") (isiK (K := K)) (by rfl) bt.isinstance_ (by decide +kernel) (pa_cons (pv 3) (pa_cons (pe_bltn (v := .ty "tuple") rfl bt.tuple_ (by decide +kernel) rfl) pa_nil))))) (pw_or1 (pt_not (pt_val (pe_callB (id := "isinstance") (isiK (K := K)) (by rfl) bt.isinstance_ (by decide +kernel) (pa_cons (pv 4) (pa_cons (pe_bltn (v := .ty "tuple") rfl bt.tuple_ (by decide +kernel) rfl) pa_nil)))))))) (pss_one (ps_ret pe_bl)) pss_nil)
      (pss_cons (ps_if (PW.pt (pw_or (pt_cmpR op_ne (pe_cmpR (op_ltSI (K := K) rfl hr.units0) (pv 3) (pv 4) (nomark _)) (pe_cmpR (op_ltSI (K := K) rfl hr.units0) (pv 1) (pv 2) (nomark _)) (nomark _)) (pw_or (pt_cmpR op_ne (pe_cmpR (op_eqDK (K := K) hr.units) (pv 3) (pv 4) (nomark _)) (pe_cmpR (op_eqDK (K := K) hr.units) (pv 1) (pv 2) (nomark _)) (nomark _)) (pw_or1 (pt_cmpR op_ne (pe_cmpR (op_gtSI (K := K) rfl hr.units0) (pv 3) (pv 4) (nomark _)) (pe_cmpR (op_gtSI (K := K) rfl hr.units0) (pv 1) (pv 2) (nomark _)) (nomark _)))))) (pss_one (ps_ret pe_bl)) pss_nil)
      (pss_cons (ps_set (i := 5) sc__law_letters_right.nd rfl (Or.inl rfl) (pe_pc p__law_take (hr.mono (by decide)) rfl (pa_cons (pv 0) (pa_cons pe_int pa_nil))))
      (pss_cons (ps_if (PW.pt (pw_or (pt_cmpR op_ne (pe_pcXC p_normal_letter takes0C (hr.mono (by decide)) rfl (pa_cons (pv 5) pa_nil)) (pe_op op_add_str pe_str (pe_callTy (T := "str") call_str_int (by rfl) bt.str_ (by decide +kernel) (pa_cons (pv 5) pa_nil))) (nomark _)) (pw_or1 (pt_cmpR op_ne (pe_pcXC p_normal_letter takes0C (hr.mono (by decide)) rfl (pa_cons (pv 5) pa_nil)) (pe_op op_add_str pe_str (pe_callTy (T := "str") call_str_int (by rfl) bt.str_ (by decide +kernel) (pa_cons (pv 5) pa_nil))) (nomark _))))) (pss_one (ps_ret pe_bl)) pss_nil)
      (pss_cons (ps_for PassesOwn.never rfl (pi_listK (K := K) rfl (pe_lst (pa_cons (pe_lower (pe_pc p__law_shown (hr.mono (by decide)) rfl (pa_cons (pv 1) pa_nil))) (pa_cons (pe_op op_add_str (pe_pc p__law_shown (hr.mono (by decide)) rfl (pa_cons (pv 1) pa_nil)) pe_str) (pa_cons pe_str (pa_cons pe_str (pa_cons pe_str (pa_cons pe_str (pa_cons pe_non (pa_cons pe_int (pa_cons (pe_lst (pa_cons pe_str pa_nil)) (pa_cons pe_bl pa_nil)))))))))))) (pg_name (i := 6) sc__law_letters_right.nd rfl (Or.inl rfl)) (pss_one (ps_if (pt_not (pt_val (pe_pcG p__law_refused hgd (hr.mono (by decide)) rfl (pa_cons pe_int (pa_cons (pv 6) pa_nil))))) (pss_one (ps_ret pe_bl)) pss_nil)))
      (pss_cons (ps_for PassesOwn.never rfl (pi_listK (K := K) rfl (pe_lst (pa_cons pe_int (pa_cons (pe_op op_sub pe_int pe_int) (pa_cons pe_bl (pa_cons pe_str (pa_cons pe_non (pa_cons (pe_lst (pa_cons (pv 5) pa_nil)) (pa_cons (pe_op op_pow pe_int pe_int) pa_nil))))))))) (pg_name (i := 6) sc__law_letters_right.nd rfl (Or.inl rfl)) (pss_one (ps_if (pt_not (pt_val (pe_pcG p__law_refused hgd (hr.mono (by decide)) rfl (pa_cons pe_int (pa_cons (pv 6) pa_nil))))) (pss_one (ps_ret pe_bl)) pss_nil)))
      (pss_one (ps_ret pe_bl))))))))))), ?_⟩
    refine ⟨_, rfl, b, n + 4, rfl, hb, fun H1 p1 c1 i1 d1 n1 e1 a1 => ?_⟩
    refine ⟨_, rfl, _, rfl, b, p1, n + 1, c1, i1, rfl, d1.bag, n1, e1, a1, fun H2 p2 c2 i2 d2 n2 e2 a2 => ?_⟩
    have e1' := d2.at n1 e1
    obtain ⟨l1, r1⟩ := shown_rank a1
    obtain ⟨l2, r2⟩ := shown_rank a2
    have sl : ∀ {c : Nat} {i : Int}, LetA c i → (shownS c i).length ≤ 50 := fun {c i} h => by
      unfold shownS
      rw [add_len]
      have o1 : (⟨#[c]⟩ : Str).length = 1 := rfl
      split
      · have := int_len (a := i) (by have := h.2.1; have := h.2.2; omega)
        omega
      · have : ("" : Str).length = 0 := by decide +kernel
        omega
    refine ⟨_, rfl, p1, c1, i1, rfl, e1', a1, fun H3 s3 => ?_⟩
    refine ⟨_, .str (shownS c1 i1), rfl, .str _, fun z hz => ?_, fun z hz hl G3 q1 sG hq1 eq1 => ?_, fun hf => ?_⟩
    · cases hz; exact Nat.le_trans (sl a1) (by decide)
    rotate_left
    · rw [show letterD (.str (shownS c1 i1)) = letterL (tl (shownS c1 i1)) from rfl, l1] at hf; cases hf
    cases hz
    rw [r1] at eq1
    refine ⟨_, rfl, p2, c2, i2, rfl, sG _ _ (s3 _ _ e2), a2, fun H4 s4 => ?_⟩
    refine ⟨_, .str (shownS c2 i2), rfl, .str _, fun z hz => ?_, fun z hz hl G4 q2 sG4 hq2 eq2 => ?_, fun hf => ?_⟩
    · cases hz; exact Nat.le_trans (sl a2) (by decide)
    rotate_left
    · rw [show letterD (.str (shownS c2 i2)) = letterL (tl (shownS c2 i2)) from rfl, l2] at hf; cases hf
    cases hz
    rw [r2] at eq2
    refine ⟨_, _, rfl, ?_⟩
    have s24 : Same H2 G4 := ((s3.trans sG).trans s4).trans sG4
    have f1 : SqT K G4 q1 [.str ⟨#[c1]⟩, .int i1] := .inl (.inl (sG4 _ _ (s4 _ _ eq1)))
    have f2 : SqT K G4 q2 [.str ⟨#[c2]⟩, .int i2] := .inl (.inl eq2)
    have g1 : SqT K G4 p1 [.str ⟨#[c1]⟩, .int i1] := .inl (.inl (s24 _ _ e1'))
    have g2 : SqT K G4 p2 [.str ⟨#[c2]⟩, .int i2] := .inl (.inl (s24 _ _ e2))
    have t1 : Dt K G4 (.ref q1) (.tuple [.str ⟨#[c1]⟩, .int i1]) := .tup f1 (.cons (.str _) (.cons (.int _) .nil))
    have t2 : Dt K G4 (.ref q2) (.tuple [.str ⟨#[c2]⟩, .int i2]) := .tup f2 (.cons (.str _) (.cons (.int _) .nil))
    have t3 : Dt K G4 (.ref p1) (.tuple [.str ⟨#[c1]⟩, .int i1]) := .tup g1 (.cons (.str _) (.cons (.int _) .nil))
    have t4 : Dt K G4 (.ref p2) (.tuple [.str ⟨#[c2]⟩, .int i2]) := .tup g2 (.cons (.str _) (.cons (.int _) .nil))
    refine ⟨_, rfl, _, _, _, _, isD "tuple" (.tuple [.str ⟨#[c1]⟩, .int i1]), rfl, .ty "tuple", t1.ty, isi_tuple, _, rfl, ?_⟩
    rw [isD_tuples]
    refine iteF ⟨_, rfl, _, _, _, _, isD "tuple" (.tuple [.str ⟨#[c2]⟩, .int i2]), rfl, .ty "tuple", t2.ty, isi_tuple, _, rfl, ?_⟩
    rw [isD_tuples]
    refine iteF ?_
    have eb : ∀ k : Bool, (!decide (V.bl k = V.bl k)) = false := fun k => by simp
    refine ⟨_, rfl, _, rfl, q1, q2, _, _, _, _, rfl, rfl, f1, f2, _, rfl, _, rfl, p1, p2, _, _, _, _, rfl, rfl, g1, g2, rfl, _, rfl, ?_⟩
    have lay : ∀ {c : Nat} {i : Int}, LetA c i → (PyData.tuple [.str ⟨#[c]⟩, .int i]).canLay0 = true ∧ SeqAt.shaped (.tuple [.str ⟨#[c]⟩, .int i]) = true := fun {c i} h => by
      have hc : c < 0x110000 := by
        have := h.1
        unfold capL at this
        have := of_decide_eq_true (Bool.and_eq_true_iff.mp this).2
        omega
      have h1 : (PyData.tuple [.str ⟨#[c]⟩, .int i]).canLay0 = true := by
        unfold PyData.canLay0
        refine lay_all fun e he => ?_
        simp only [List.mem_cons, List.not_mem_nil, or_false] at he
        rcases he with rfl | rfl
        · show (#[c] : Array Nat).all (· < 0x110000) = true
          simp [hc]
        · rfl
      refine ⟨h1, ?_⟩
      unfold SeqAt.shaped
      rw [h1, Bool.true_and]
      exact decide_eq_true (by simp [PyData.depth, PyData.depthAll])
    obtain ⟨la1, sh1⟩ := lay a1
    obtain ⟨la2, sh2⟩ := lay a2
    refine iteF' (eb _) ⟨_, rfl, _, rfl, _, _, t1.dp la1, t2.dp la2, sh1, sh2, _, rfl, _, rfl, _, _, t3.dp la1, t4.dp la2, sh1, sh2, rfl, _, rfl, ?_⟩
    refine iteF' (eb _) ⟨_, rfl, _, rfl, q1, q2, _, _, _, _, rfl, rfl, f1, f2, _, rfl, _, rfl, p1, p2, _, _, _, _, rfl, rfl, g1, g2, rfl, _, rfl, ?_⟩
    refine iteF' (eb _) ?_
    have D4 : Dr b (n + 1) H G4 := (d1.trans d2).trans (Dr.same s24 d2.bag)
    refine ⟨_, rfl, b, _, n, 100, rfl, D4.bag.choose_spec.1, D4.bag.choose_spec.2, by decide, by decide +kernel, fun m o5 m0 m1 g5 => ?_⟩
    (generalize hG : L2.upd _ b _ = H5; have d5 := dr_of hG g5; clear hG)
    have D5 := D4.trans d5
    have lm : m.natAbs.log2 < 1920 := Nat.lt_of_le_of_lt (Nat.log2_le_self _) (by omega)
    have ls : (("N" : Str)).length + ((toString m : String) : Str).length ≤ sizeLine := by
      have := int_len (a := m) (by omega)
      have : ("N" : Str).length = 1 := by decide +kernel
      exact sz5 (by omega)
    have en : ∀ z : Str, (!decide (V.str z = V.str z)) = false := fun z => by simp
    refine ⟨_, rfl, .int m, .int m, rfl, .int m, fun i hi h0 h1 => ?_, fun hf => ?_⟩
    rotate_left
    · rw [show wholeD 0 99 (.int m) = (decide (0 ≤ m) && decide (m ≤ 99)) from rfl, decide_eq_true m0, decide_eq_true (show m ≤ 99 by omega)] at hf; cases hf
    cases hi
    refine ⟨_, rfl, m, rfl, lm, _, _, rfl, rfl, ls, rfl, _, rfl, ?_⟩
    refine iteF' (en _) ?_
    refine ⟨_, rfl, .int m, .int m, rfl, .int m, fun i hi h0 h1 => ?_, fun hf => ?_⟩
    rotate_left
    · rw [show wholeD 0 99 (.int m) = (decide (0 ≤ m) && decide (m ≤ 99)) from rfl, decide_eq_true m0, decide_eq_true (show m ≤ 99 by omega)] at hf; cases hf
    cases hi
    refine ⟨_, rfl, m, rfl, lm, _, _, rfl, rfl, ls, rfl, _, rfl, ?_⟩
    refine iteF' (en _) ?_
    have sl1 := shown_len a1
    have e15 : H5 p1 = some (pairL c1 i1) := d5.at n1 (s24 _ _ e1')
    refine ⟨_, rfl, p1, c1, i1, rfl, e15, a1, fun H6 s6 => ⟨⟨_, rfl⟩, _, rfl, rfl, Nat.le_trans sl1 (by decide), ?_⟩⟩
    refine ⟨_, rfl, p1, c1, i1, rfl, s6 _ _ e15, a1, fun H7 s7 => ⟨_, _, rfl, rfl, ?_, ?_⟩⟩
    · have : (" " : Str).length = 1 := by decide +kernel
      exact sz5 (by omega)
    refine ⟨(by show 1 ≤ sizeLine; decide), fun L hL => ?_⟩
    (generalize hG : L2.upd _ L _ = H8; have sL := same_of hG hL; have eL := at_of hG; clear hG)
    refine ⟨(by show 10 ≤ sizeLine; decide), fun M hM => ?_⟩
    (generalize hG : L2.upd _ M _ = H9; have sM := same_of hG hM; have eM := at_of hG; clear hG)
    have eL9 := sM _ _ eL
    have s59 : Same H5 H9 := ((s6.trans s7).trans sL).trans sM
    have odd0 : ∀ (x : V), x ∈ ([V.str (Txt.lower (shownS c1 i1)), .str (shownS c1 i1 ++ " "), .str "A00", .str "A100", .str "AB", .str "", .non, .int 7, .ref L, .bl true] : List V) → ∀ G, Same H9 G → ∃ d, OddT K G x d ∧ letterD d = false := by
      intro x hx G sG
      simp only [List.mem_cons, List.not_mem_nil, or_false] at hx
      rcases hx with rfl | rfl | rfl | rfl | rfl | rfl | rfl | rfl | rfl | rfl
      · exact ⟨_, oddS (Nat.le_trans (len_lower _) (by omega)) (lower_plain (shown_signs a1)), lower_no a1⟩
      · refine ⟨_, oddS ?_ ((shown_plain a1).app (plainB (by decide +kernel))), spaced_no a1⟩
        rw [add_len]
        have : (" " : Str).length = 1 := by decide +kernel
        omega
      · exact ⟨_, oddS (by decide +kernel) (plainB (by decide +kernel)), by decide +kernel⟩
      · exact ⟨_, oddS (by decide +kernel) (plainB (by decide +kernel)), by decide +kernel⟩
      · exact ⟨_, oddS (by decide +kernel) (plainB (by decide +kernel)), by decide +kernel⟩
      · exact ⟨_, oddS (by decide +kernel) (plainB (by decide +kernel)), by decide +kernel⟩
      · exact ⟨_, oddN, rfl⟩
      · exact ⟨_, oddI (Sm.int (k := 0) (by decide) (by decide)).shows, rfl⟩
      · exact ⟨_, oddL (dy := .str "A") (sG _ _ eL9) (fun _ => .str "A") ⟨by decide +kernel, by decide +kernel, by decide +kernel⟩ ⟨by decide +kernel, by decide +kernel, by decide +kernel⟩, rfl⟩
      · exact ⟨_, oddB true, rfl⟩
    refine ⟨M, rfl, ⟨_, .inl (.inl eM)⟩, ?_⟩
    refine for_it (walk_list (xs := [V.str (Txt.lower (shownS c1 i1)), .str (shownS c1 i1 ++ " "), .str "A00", .str "A100", .str "AB", .str "", .non, .int 7, .ref L, .bl true])) (fun _ σ' G => (∃ v, σ' = List.set [some (V.ref b), some (.ref p1), some (.ref p2), some (.ref q1), some (.ref q2), some (.int m), none] 6 v) ∧ Same H9 G) ⟨⟨none, rfl⟩, Same.refl _⟩ (fun i σ' G _ p => .inl (.inl (p.2 _ _ eM))) ?_ ?_
    · rintro i x σ' G G' hi ⟨⟨v, rfl⟩, sG⟩ ⟨rfl, hx⟩
      obtain ⟨d, od, hd⟩ := odd0 x (List.mem_of_getElem? hx) _ sG
      refine ⟨_, rfl, 0, x, d, rfl, od, .inl ⟨rfl, hd⟩, fun G2 s2 => ⟨_, rfl, iteF ⟨⟨some x, rfl⟩, sG.trans s2⟩⟩⟩
    rintro σ' G ⟨⟨v, rfl⟩, sG⟩
    have D10 : Dr b n H G := D5.trans (Dr.same (s59.trans sG) D5.bag)
    refine ⟨_, _, rfl, rfl, _, rfl, (by show 1 ≤ sizeLine; decide), fun LB hLB => ?_⟩
    (generalize hG : L2.upd _ LB _ = G1; have sLB := same_of hG hLB; have eLB := at_of hG; clear hG)
    refine ⟨_, _, rfl, rfl, ⟨by decide, by decide, by decide⟩, (by show 7 ≤ sizeLine; decide), fun M2 hM2 => ?_⟩
    (generalize hG : L2.upd _ M2 _ = G2; have sM2 := same_of hG hM2; have eM2 := at_of hG; clear hG)
    have eLB2 := sM2 _ _ eLB
    have e29 : (10 : Int) ^ (29 : Int).toNat = 100000000000000000000000000000 := by decide +kernel
    have odd1 : ∀ (x : V), x ∈ ([V.int 100, .int (0 - 1), .bl true, .str "7", .non, .ref LB, .int ((10 : Int) ^ (29 : Int).toNat)] : List V) → ∀ G, Same G2 G → ∃ d, OddT K G x d ∧ wholeD 0 99 d = false := by
      intro x hx G sG
      simp only [List.mem_cons, List.not_mem_nil, or_false] at hx
      rcases hx with rfl | rfl | rfl | rfl | rfl | rfl | rfl
      · exact ⟨_, oddI (Sm.int (k := 0) (by decide) (by decide)).shows, rfl⟩
      · exact ⟨_, oddI (Sm.int (k := 0) (by decide) (by decide)).shows, rfl⟩
      · exact ⟨_, oddB true, rfl⟩
      · exact ⟨_, oddS (by decide +kernel) (plainB (by decide +kernel)), rfl⟩
      · exact ⟨_, oddN, rfl⟩
      · have hm : Sm 1 40 (.list [.int m, .str "late"]) := by
          have h := Sm.list (k := 0) (n := 19) (ds := [.int m, .str "late"]) (m := 2) (fun d hd => by
            simp only [List.mem_cons, List.not_mem_nil, or_false] at hd
            rcases hd with rfl | rfl
            · exact (Sm.int (k := 0) (by omega) (by omega)).mono (Nat.le_refl _) (by decide)
            · exact Sm.str (by decide +kernel) (by decide +kernel)) (Nat.le_refl 2)
          exact h
        have hm1 : Sm 1 20 (.list [.int m]) := by
          have h := Sm.list (k := 0) (n := 19) (ds := [.int m]) (m := 1) (fun d hd => by
            simp only [List.mem_cons, List.not_mem_nil, or_false] at hd
            rw [hd]
            exact (Sm.int (k := 0) (by omega) (by omega)).mono (Nat.le_refl _) (by decide)) (Nat.le_refl 1)
          exact h
        exact ⟨_, oddL (dy := .int m) (sG _ _ eLB2) (fun _ => .int m) hm1.shows hm.shows, rfl⟩
      · rw [e29]
        exact ⟨_, oddI ⟨by decide +kernel, by decide +kernel, by decide +kernel⟩, rfl⟩
    refine ⟨M2, rfl, ⟨_, .inl (.inl eM2)⟩, ?_⟩
    refine for_it (walk_list (xs := [V.int 100, .int (0 - 1), .bl true, .str "7", .non, .ref LB, .int ((10 : Int) ^ (29 : Int).toNat)])) (fun _ σ' G => (∃ v, σ' = List.set [some (V.ref b), some (.ref p1), some (.ref p2), some (.ref q1), some (.ref q2), some (.int m), none] 6 v) ∧ Same G2 G) ⟨⟨v, rfl⟩, Same.refl _⟩ (fun i σ' G _ p => .inl (.inl (p.2 _ _ eM2))) ?_ ?_
    · rintro i x σ' G' G'' hi ⟨⟨v, rfl⟩, sG'⟩ ⟨rfl, hx⟩
      obtain ⟨d, od, hd⟩ := odd1 x (List.mem_of_getElem? hx) _ sG'
      refine ⟨_, rfl, 1, x, d, rfl, od, .inr ⟨rfl, hd⟩, fun G3 s3 => ⟨_, rfl, iteF ⟨⟨some x, rfl⟩, sG'.trans s3⟩⟩⟩
    rintro σ' G' ⟨⟨v, rfl⟩, sG'⟩
    exact q G' (D10.trans (Dr.same ((sLB.trans sM2).trans sG') D10.bag))
end

end TS

namespace TS
open PySem PySem.Spec PyProof.Rows L2 TL
/-! ### texts spoilt -/
def spSpoilt : Sp := fun vs H Q _ => ∃ (b : Addr) (z : Str) (n : Nat), vs = [.ref b, .str z] ∧ z.length ≤ 1000 ∧ Plain z ∧ (∃ o, H b = some o ∧ Bag (n + 3) o) ∧ ∀ H' y, Dr b n H H' → y.length ≤ 2 * z.length + 1 → Plain y → Q (.str y) H'
def oddSigns : Str := "0019 -+_a\nA."
theorem odd_size : oddSigns.cps.toList.length = 12 := by decide +kernel
theorem odd_plain : ∀ c ∈ oddSigns.cps.toList, c < 256 := by decide +kernel
section
variable {P : Program} {w : World} {K : PySem.W.Frag} {mg : Str → Option Value} {base : Heap}
abbrev s__law_spoilt : Stmt := top 29
theorem sc__law_spoilt : FnScope ["_law_bag_here", "_law_text", "_law_sign", "_law_at", "_law_way"] ["_law_bag_here", "_law_text"] (defScope s__law_spoilt) := ⟨rfl, rfl, rfl, by decide +kernel, rfl, by decide +kernel, by decide +kernel⟩

theorem ok_spoilt (bt : Bt mg) (p__law_take : Prom P w K mg base 1 "_law_take" ["_law_bag_here", "_law_many"] spTake) (D : Def K mg "_law_spoilt" s__law_spoilt) : Prom P w K mg base 2 "_law_spoilt" ["_law_bag_here", "_law_text"] spSpoilt := by
  refine prom_mk D sc__law_spoilt (fun vs H Q E h => ?_) (fun _ _ _ _ _ _ us hl => match us, hl with | [_, _], _ => rfl) (fun f cdv A outer s H vs Q E hr h => ?_)
  · obtain ⟨b, z, n, rfl, _⟩ := h
    rfl
  · obtain ⟨b, z, n, rfl, hz, pz, hb, q⟩ := h
    refine ⟨_, (pss_cons (ps_set (i := 2) sc__law_spoilt.nd rfl (Or.inl rfl) (pe_ix ix_str pe_str (pe_pc p__law_take (hr.mono (by decide)) rfl (pa_cons (pv 0) (pa_cons pe_int pa_nil))) (fun _ _ => rfl)))
      (pss_cons (ps_set (i := 3) sc__law_spoilt.nd rfl (Or.inl rfl) (pe_pc p__law_take (hr.mono (by decide)) rfl (pa_cons (pv 0) (pa_cons (pe_op op_add (pe_callB (id := "len") (lenK (K := K)) (by rfl) bt.len_ (by decide +kernel) (pa_cons (pv 1) pa_nil)) pe_int) pa_nil))))
      (pss_cons (ps_set (i := 4) sc__law_spoilt.nd rfl (Or.inl rfl) (pe_pc p__law_take (hr.mono (by decide)) rfl (pa_cons (pv 0) (pa_cons pe_int pa_nil))))
      (pss_cons (ps_if (pt_cmpR op_eq (pv 4) pe_int (nomark _)) (pss_one (ps_ret (pe_op op_add_str (pe_slice sl_str (pv 1) po_none (po_some (pv 3))) (pe_slice sl_str (pv 1) (po_some (pe_op op_add (pv 3) pe_int)) po_none)))) pss_nil)
      (pss_cons (ps_if (pt_cmpR op_eq (pv 4) pe_int (nomark _)) (pss_one (ps_ret (pe_op op_add_str (pe_op op_add_str (pe_slice sl_str (pv 1) po_none (po_some (pv 3))) (pv 2)) (pe_slice sl_str (pv 1) (po_some (pv 3)) po_none)))) pss_nil)
      (pss_cons (ps_if (pt_cmpR op_eq (pv 4) pe_int (nomark _)) (pss_one (ps_ret (pe_op op_add_str (pe_op op_add_str (pe_slice sl_str (pv 1) po_none (po_some (pv 3))) (pv 2)) (pe_slice sl_str (pv 1) (po_some (pe_op op_add (pv 3) pe_int)) po_none)))) pss_nil)
      (pss_one (ps_ret (pv 1))))))))), ?_⟩
    refine ⟨_, rfl, b, _, n + 2, 12, rfl, hb.choose_spec.1, hb.choose_spec.2, by decide, by decide +kernel, fun x o1 x0 x1 g1 => ?_⟩
    (generalize hG : L2.upd _ b _ = H1; have d1 := dr_of hG g1; clear hG)
    obtain ⟨c, hc, hcm⟩ := atI_in (xs := oddSigns.cps.toList) x0 (by rw [odd_size]; exact x1)
    have p200 : (1000000 : Int) < 2 ^ 200 := by decide +kernel
    refine ⟨oddSigns, _, c, rfl, rfl, by decide +kernel, hc, ?_⟩
    refine ⟨_, rfl, _, rfl, _, _, rfl, ⟨sz5 (by omega), rfl⟩, _, _, rfl, rfl, b, _, n + 1, _, rfl, d1.bag.choose_spec.1, d1.bag.choose_spec.2, by omega, Int.lt_trans (by omega) p200, fun at_ o2 a0 a1 g2 => ?_⟩
    (generalize hG : L2.upd _ b _ = H2; have d2 := dr_of hG g2; clear hG)
    refine ⟨_, rfl, b, _, n, 6, rfl, d2.bag.choose_spec.1, d2.bag.choose_spec.2, by decide, by decide +kernel, fun way o3 w0 w6 g3 => ?_⟩
    (generalize hG : L2.upd _ b _ = H3; have d3 := dr_of hG g3; clear hG)
    have D3 := (d1.trans d2).trans d3
    have pc : Plain ⟨#[c]⟩ := fun e he => by
      rw [show tl (⟨#[c]⟩ : Str) = [c] from rfl] at he
      rw [List.mem_singleton.mp he]
      exact odd_plain c hcm
    have l1 : (⟨#[c]⟩ : Str).length = 1 := rfl
    have szz : ∀ {n : Nat}, n ≤ 90000 → n ≤ sizeLine := fun h => sz5 (by omega)
    have cl : ∀ lo hi, (cutS z lo hi).length ≤ 1000 := fun lo hi => cut_le hz
    have fin : ∀ y : Str, y.length ≤ 2 * z.length + 1 → Plain y → Q (.str y) H3 := fun y hy py => q H3 y D3 hy py
    have cle : ∀ lo hi, (cutS z lo hi).length ≤ z.length := fun lo hi => cutS_length z lo hi
    refine ⟨_, rfl, rfl, _, rfl, ite2 (fun c0 => ?_) (fun c0 => ?_)⟩
    · refine ⟨_, rfl, _, rfl, _, rfl, z, rfl, szz (by omega), _, rfl, _, rfl, _, _, rfl, rfl, _, rfl, z, rfl, szz (by omega), _, _, rfl, rfl, ?_, ?_⟩
      · have := cl none (some at_); have := cl (some (at_ + 1)) none; exact szz (by omega)
      · refine fin _ ?_ ((pz.cut _ _).app (pz.cut _ _))
        rw [add_len]
        have := cle none (some at_); have := cle (some (at_ + 1)) none
        omega
    refine ⟨_, rfl, rfl, _, rfl, ite2 (fun c1 => ?_) (fun c1 => ?_)⟩
    · refine ⟨_, rfl, _, rfl, _, rfl, z, rfl, szz (by omega), _, rfl, _, _, rfl, rfl, ?_, _, rfl, _, rfl, _, rfl, z, rfl, szz (by omega), _, _, rfl, rfl, ?_, ?_⟩
      · have := cl none (some at_); rw [l1]; exact szz (by omega)
      · rw [add_len, l1]; have := cl none (some at_); have := cl (some at_) none; exact szz (by omega)
      · refine fin _ ?_ (((pz.cut _ _).app pc).app (pz.cut _ _))
        rw [add_len, add_len, l1]
        have := cle none (some at_); have := cle (some at_) none
        omega
    refine ⟨_, rfl, rfl, _, rfl, ite2 (fun c2 => ?_) (fun c2 => ?_)⟩
    · refine ⟨_, rfl, _, rfl, _, rfl, z, rfl, szz (by omega), _, rfl, _, _, rfl, rfl, ?_, _, rfl, _, rfl, _, _, rfl, rfl, _, rfl, z, rfl, szz (by omega), _, _, rfl, rfl, ?_, ?_⟩
      · have := cl none (some at_); rw [l1]; exact szz (by omega)
      · rw [add_len, l1]; have := cl none (some at_); have := cl (some (at_ + 1)) none; exact szz (by omega)
      · refine fin _ ?_ (((pz.cut _ _).app pc).app (pz.cut _ _))
        rw [add_len, add_len, l1]
        have := cle none (some at_); have := cle (some (at_ + 1)) none
        omega
    exact ⟨_, rfl, fin z (by omega) pz⟩
end

end TS

namespace TS
open PySem PySem.Spec PyProof.Rows L2 TL
/-! ### the number that a text writes, by the law's own look -/
def spNumOf (K : PySem.W.Frag) : Sp := fun vs H Q _ => ∃ (x : V) (d : PyData) (lo hi : Int), vs = [x, .int lo, .int hi] ∧ Dt K H x d ∧ (∀ z, d = .str z → z.length ≤ 100000 ∧ Plain z) ∧ ∀ H', Same H H' → Q (numR lo hi d) H'
def intD : PyData → Bool
  | .int _ => true
  | _ => false
def spLWhole (K : PySem.W.Frag) : Sp := fun vs H Q _ => ∃ (x : V) (d : PyData), vs = [x] ∧ Dt K H x d ∧ Q (.bl (intD d)) H
def spLSame : Sp := fun vs H Q _ => ∃ (x : V), vs = [x, x] ∧ (x = .non ∨ ∃ i, x = .int i) ∧ Q (.bl true) H
theorem numR_kind (lo hi : Int) (d : PyData) : numR lo hi d = .non ∨ ∃ i, numR lo hi d = .int i := by
  cases d <;> first | exact .inl rfl | (rename_i z; unfold numR; dsimp only; split; exact .inr ⟨_, rfl⟩; exact .inl rfl)
theorem index_dig : ∀ c ∈ (List.range 10).map (· + 48), Txt.index0 "0123456789" ⟨#[c]⟩ = some (c - 48) := by decide +kernel
section
variable {P : Program} {w : World} {K : PySem.W.Frag} {mg : Str → Option Value} {base : Heap}
abbrev s__law_whole : Stmt := top 20
theorem sc__law_whole : FnScope ["_law_matter"] ["_law_matter"] (defScope s__law_whole) := ⟨rfl, rfl, rfl, by decide +kernel, rfl, by decide +kernel, by decide +kernel⟩

theorem ok_lwhole (bt : Bt mg) (D : Def K mg "_law_whole" s__law_whole) : Prom P w K mg base 1 "_law_whole" ["_law_matter"] (spLWhole K) := by
  refine prom_mk D sc__law_whole (fun vs H Q E h => ?_) (fun _ _ _ _ _ _ us hl => match us, hl with | [_], _ => rfl) (fun f cdv A outer s H vs Q E hr h => ?_)
  · obtain ⟨x, d, rfl, _⟩ := h
    rfl
  · obtain ⟨x, d, rfl, hd, q⟩ := h
    refine ⟨_, (pss_one (ps_ret (pe_and (pe_callB (id := "isinstance") (isiK (K := K)) (by rfl) bt.isinstance_ (by decide +kernel) (pa_cons (pv 0) (pa_cons (pe_bltn (v := .ty "int") rfl bt.int_ (by decide +kernel) rfl) pa_nil))) (pe_one (pe_not (pe_callB (id := "isinstance") (isiK (K := K)) (by rfl) bt.isinstance_ (by decide +kernel) (pa_cons (pv 0) (pa_cons (pe_bltn (v := .ty "bool") rfl bt.bool_ (by decide +kernel) rfl) pa_nil)))))))), ?_⟩
    refine ⟨_, rfl, _, _, _, _, isD "int" d, rfl, .ty "int", hd.ty, isi_int, _, rfl, ite2 (fun c => ?_) (fun c => ?_)⟩
    · refine ⟨_, rfl, _, _, _, _, isD "bool" d, rfl, .ty "bool", hd.ty, isi_bool, _, rfl, ?_⟩
      rcases isD_int c with ⟨i, rfl⟩ | ⟨b, rfl⟩
      · rw [isD_intb]
        exact q
      · rw [isD_bools]
        exact q
    · have e : (intD d) = false := by
        cases d <;> first | rfl | exact absurd (isD_ints _) c
      rw [e] at q
      exact q
abbrev s__law_number_of : Stmt := top 30
theorem sc__law_number_of : FnScope ["_law_text", "_law_lower", "_law_upper", "_law_total", "_law_sign"] ["_law_text", "_law_lower", "_law_upper"] (defScope s__law_number_of) := ⟨rfl, rfl, rfl, by decide +kernel, rfl, by decide +kernel, by decide +kernel⟩

theorem ok_numof (bt : Bt mg) (D : Def K mg "_law_number_of" s__law_number_of) : Prom P w K mg base 1 "_law_number_of" ["_law_text", "_law_lower", "_law_upper"] (spNumOf K) := by
  refine prom_mk D sc__law_number_of (fun vs H Q E h => ?_) (fun _ _ _ _ _ _ us hl => match us, hl with | [_, _, _], _ => rfl) (fun f cdv A outer s H vs Q E hr h => ?_)
  · obtain ⟨x, d, lo, hi, rfl, _⟩ := h
    rfl
  · obtain ⟨x, d, lo, hi, rfl, hd, hz, q⟩ := h
    refine ⟨_, (pss_cons (ps_if (PW.pt (pw_or (pt_not (pt_val (pe_callB (id := "isinstance") (isiK (K := K)) (by rfl) bt.isinstance_ (by decide +kernel) (pa_cons (pv 0) (pa_cons (pe_bltn (v := .ty "str") rfl bt.str_ (by decide +kernel) rfl) pa_nil))))) (pw_or (pt_not (pt_chain op_lt op_lt pe_int (pe_callB (id := "len") (lenK (K := K)) (by rfl) bt.len_ (by decide +kernel) (pa_cons (pv 0) pa_nil)) pe_int)) (pw_or1 (pt_cmpR (op_neDK (K := K) hr.units) (pe_lc (own := [("_law_sign", 4)]) (g := gName 4) rfl sc__law_number_of.nd (pi_str (pv 0)) (blkOk_by (N := ["_law_text", "_law_lower", "_law_upper", "_law_total", "_law_sign"]) (sc := defScope s__law_number_of) (by decide +kernel)) (fun _ _ _ _ _ => (pg_name (i := 4) sc__law_number_of.nd rfl (Or.inl rfl))) (fun _ _ _ _ _ => (pts_one (pt_cmpR op_notIn_sign (pv 4) pe_str rfl))) (fun _ _ _ _ _ => (pv 4))) (pe_lst pa_nil) (nomark _)))))) (pss_one (ps_ret pe_non)) pss_nil)
      (pss_cons (ps_if (PW.pt (pw_and (pt_cmpR op_eq (pe_ix ix_str (pv 0) pe_int (fun _ _ => rfl)) pe_str (nomark _)) (pw_and1 (pt_cmpR op_ne (pv 0) pe_str (nomark _))))) (pss_one (ps_ret pe_non)) pss_nil)
      (pss_cons (ps_set (i := 3) sc__law_number_of.nd rfl (Or.inl rfl) pe_int)
      (pss_cons (ps_for PassesOwn.never rfl (pi_str (pv 0)) (pg_name (i := 4) sc__law_number_of.nd rfl (Or.inl rfl)) (pss_one (ps_set (i := 3) sc__law_number_of.nd rfl (Or.inl rfl) (pe_op op_add (pe_op op_mul pe_int (pv 3)) (pe_m1 PySem.F.slot_str_index PySem.F.type_str_index mt_index0 pe_str (pv 4))))))
      (pss_one (ps_ret (pe_ifExp (pt_chain op_le op_le (pv 1) (pv 3) (pv 2)) (pv 3) pe_non))))))), ?_⟩
    refine ⟨_, rfl, _, _, _, _, isD "str" d, rfl, .ty "str", hd.ty, isi_str, _, rfl, ?_⟩
    cases c : isD "str" d with
    | false =>
      have e : numR lo hi d = .non := by
        cases d <;> first | rfl | (rw [isD_strs] at c; cases c)
      rw [e] at q
      exact iteT (iteT (q _ (Same.refl _)))
    | true =>
      obtain ⟨z, rfl⟩ := isD_str c
      cases hd
      obtain ⟨hz', pz⟩ := hz z rfl
      refine iteF ⟨_, rfl, _, _, rfl, ⟨sz5 hz', rfl⟩, _, _, rfl, rfl, _, rfl, ?_⟩
      have non : plainL (tl z) = false → ∀ G, Same H G → Q .non G := fun e G sG => by
        have e2 : numR lo hi (.str z) = .non := by
          show (if (plainL (tl z) && _) = true then _ else _) = _
          rw [e]
          rfl
        have := q G sG
        rw [e2] at this
        exact this
      have len0 : (tl z).length = z.length := (len_tl z).symm
      by_cases h1 : 1 ≤ z.length
      · refine iteT' (decide_eq_true (by omega)) ⟨_, _, rfl, rfl, _, rfl, ?_⟩
        by_cases h2 : z.length ≤ 30
        · refine iteF' (by rw [decide_eq_true (show ((z.length : Nat) : Int) < 31 by omega)]; rfl) ?_
          refine ⟨_, rfl, z, rfl, fun L hL => ?_⟩
          have sgn : ∀ l : List Nat, (l.map fun c => V.str ⟨#[c]⟩) = (l.map fun c => (⟨#[c]⟩ : Str)).map V.str := fun l => by rw [List.map_map]; rfl
          refine lc_it walk_str (fun i G => G = L2.upd H L (.lst ((((tl z).take i).filter fun c => !digit c).map fun c => V.str ⟨#[c]⟩))) rfl (fun _ _ _ _ => trivial) ?_ ?_
          · rintro i x G1 G2 hi rfl ⟨rfl, c, hc, rfl⟩
            have hc' : (tl z)[i]? = some c := by rw [← hc]; simp [tl]
            refine ⟨rfl, _, rfl, c, _, rfl, rfl, ?_⟩
            rw [in_figures]
            have et : (tl z).take (i + 1) = (tl z).take i ++ [c] := by rw [List.take_add_one, hc']; rfl
            cases hdg : digit c with
            | true =>
              refine ⟨_, rfl, iteF ?_⟩
              rw [et, List.filter_append]
              simp [hdg]
            | false =>
              refine ⟨_, rfl, iteT ⟨_, rfl, _, upd_same, ?_, ?_⟩⟩
              · rw [List.length_map]
                have := List.length_filter_le (fun c => !digit c) ((tl z).take i)
                have : ((tl z).take i).length ≤ (tl z).length := by rw [List.length_take]; omega
                exact sz5' (by omega)
              · rw [upd_upd, et, List.filter_append]
                simp [hdg]
          · rintro G rfl
            have e : (tl z).take z.cps.size = tl z := List.take_of_length_le (by simp [tl])
            rw [e, sgn]
            (generalize hG : L2.upd _ L _ = G1; have sL := same_of hG hL; have eL := at_of hG; clear hG)
            refine ⟨(by show 0 ≤ sizeLine; decide), fun M hM => ?_⟩
            (generalize hG : L2.upd _ M _ = G2; have sM := same_of hG hM; have eM := at_of hG; clear hG)
            have lays : Lays (((tl z).filter fun c => !digit c).map fun c => (⟨#[c]⟩ : Str)) := Lays.of_plain fun y hy => by
              obtain ⟨c, hc, rfl⟩ := List.mem_map.mp hy
              intro e he
              rw [List.mem_singleton.mp (show e ∈ [c] from he)]
              exact pz c (List.mem_filter.mp hc).1
            refine strs_ne (zs := ((tl z).filter fun c => !digit c).map fun c => (⟨#[c]⟩ : Str)) (ys := []) (.inl (.inl (sM _ _ eL))) (.inl (.inl eM)) lays (fun _ h => by cases h) ⟨_, rfl, ?_⟩
            have sG := sL.trans sM
            have ef : (((tl z).filter fun c => !digit c).map fun c => (⟨#[c]⟩ : Str)) = [] ↔ (tl z).all digit = true := by
              rw [List.map_eq_nil_iff, List.filter_eq_nil_iff, List.all_eq_true]
              simp
            by_cases al : (tl z).all digit = true
            · refine iteF' (by rw [decide_eq_true (ef.mpr al)]; rfl) ?_
              obtain ⟨c0, r0, er⟩ : ∃ c r, tl z = c :: r := by
                cases ez : tl z with
                | nil => rw [ez] at len0; simp at len0; omega
                | cons c r => exact ⟨c, r, rfl⟩
              refine ⟨_, rfl, z, _, c0, rfl, rfl, sz5 hz', atI_nat (j := 0) (by show (tl z)[0]? = _; rw [er]; rfl), rfl, _, rfl, ?_⟩
              have dc : decide (V.str ⟨#[c0]⟩ = V.str "0") = decide (c0 = 48) := by
                have h : ("0" : Str) = ⟨#[48]⟩ := by decide +kernel
                rw [h]
                simp
              have dz : decide (V.str z = V.str "0") = decide (tl z = [48]) := by
                have h : ("0" : Str) = ⟨#[48]⟩ := by decide +kernel
                rw [h]
                by_cases hh : tl z = [48]
                · rw [decide_eq_true hh]
                  exact decide_eq_true (congrArg V.str (ext_tl hh))
                · rw [decide_eq_false hh]
                  exact decide_eq_false fun x => hh (by rw [V.str.inj x])
              have pl : plainL (tl z) = !(decide (c0 = 48) && !decide (tl z = [48])) := by
                unfold plainL
                rw [al, len0, decide_eq_true h1, decide_eq_true h2, er]
                simp
              have rest : plainL (tl z) = true → tSeq (tAsg (tC (V.int 0)) (gName 3)) (tSeq (tFor (iStr (tVar 0)) (gName 4)
                  (tAsg (tOp (rI0 fun i j => V.int (i + j)) (tOp (rI CMul fun i j => V.int (i * j)) (tC (V.int 10)) (tVar 3))
                    (tM1 (fun x xs H Q => ∃ a b k, x = V.str a ∧ xs = [V.str b] ∧ Txt.index0 a b = some k ∧ Q (V.int ((k : Nat) : Int)) H) (tC (V.str "0123456789")) (tVar 4))) (gName 3)))
                  (tRet (tIf (tTest (tChain (rI0 fun i j => V.bl (decide (i ≤ j))) (rI0 fun i j => V.bl (decide (i ≤ j))) (tVar 1) (tVar 3) (tVar 2))) (tVar 3) (tC V.non))))
                  { nx := fun _ H' => Q V.non H', rt := Q } [some (V.str z), some (.int lo), some (.int hi), none, none] G2 := fun plt => by
                refine ⟨_, rfl, z, rfl, for_it walk_str (fun i σ G => G = G2 ∧ ∃ sv, σ = [some (V.str z), some (.int lo), some (.int hi), some (.int (NumText.digitsVal ((tl z).take i) : Nat)), sv]) ⟨rfl, none, rfl⟩ (fun _ _ _ _ _ => trivial) ?_ ?_⟩
                · rintro i x σ G G' hi ⟨rfl, sv, rfl⟩ ⟨rfl, c, hc, rfl⟩
                  have hc' : (tl z)[i]? = some c := by rw [← hc]; simp [tl]
                  have hdg := List.all_eq_true.mp al c (List.mem_of_getElem? hc')
                  have hmem : c ∈ (List.range 10).map (· + 48) := dig_in hdg
                  refine ⟨_, rfl, _, _, rfl, rfl, .inl ⟨by decide, by decide⟩, ⟨_, rfl⟩, _, rfl, _, _, _, rfl, rfl, index_dig c hmem, _, _, rfl, rfl, rfl, some (.str ⟨#[c]⟩), ?_⟩
                  have et : (tl z).take (i + 1) = (tl z).take i ++ [c] := by rw [List.take_add_one, hc']; rfl
                  have ed : NumText.digitsVal ((tl z).take i ++ [c]) = NumText.digitsVal ((tl z).take i) * 10 + (c - 48) := by
                    unfold NumText.digitsVal
                    rw [List.foldl_append]
                    rfl
                  rw [et, ed]
                  show [_, _, _, some (V.int (10 * ((NumText.digitsVal ((tl z).take i) : Nat) : Int) + ((c - 48 : Nat) : Int))), _] = _
                  rw [show 10 * ((NumText.digitsVal ((tl z).take i) : Nat) : Int) + ((c - 48 : Nat) : Int) = ((NumText.digitsVal ((tl z).take i) * 10 + (c - 48) : Nat) : Int) by rw [Int.natCast_add, Int.natCast_mul]; omega]
                · rintro σ G ⟨rfl, sv, rfl⟩
                  have e : (tl z).take z.cps.size = tl z := List.take_of_length_le (by simp [tl])
                  rw [e]
                  refine ⟨_, rfl, _, rfl, _, _, rfl, rfl, _, rfl, ?_⟩
                  have qq : Q (if (decide (lo ≤ ((NumText.digitsVal (tl z) : Nat) : Int)) && decide (((NumText.digitsVal (tl z) : Nat) : Int) ≤ hi)) = true then .int (NumText.digitsVal (tl z) : Nat) else .non) G := by
                    have := q G sG
                    rw [show numR lo hi (.str z) = (if (plainL (tl z) && (decide (lo ≤ ((NumText.digitsVal (tl z) : Nat) : Int)) && decide (((NumText.digitsVal (tl z) : Nat) : Int) ≤ hi))) = true then .int (NumText.digitsVal (tl z) : Nat) else .non) from rfl, plt, Bool.true_and] at this
                    exact this
                  by_cases hlo : lo ≤ ((NumText.digitsVal (tl z) : Nat) : Int)
                  · rw [decide_eq_true hlo, Bool.true_and] at qq
                    refine iteT' (decide_eq_true hlo) ⟨_, rfl, _, _, rfl, rfl, _, rfl, ?_⟩
                    by_cases hhi : ((NumText.digitsVal (tl z) : Nat) : Int) ≤ hi
                    · rw [decide_eq_true hhi] at qq
                      exact iteT' (decide_eq_true hhi) ⟨_, rfl, qq⟩
                    · rw [decide_eq_false hhi] at qq
                      exact iteF' (decide_eq_false hhi) qq
                  · rw [decide_eq_false hlo] at qq
                    exact iteF' (decide_eq_false hlo) ⟨_, rfl, iteF qq⟩
              rw [dc]
              by_cases h48 : c0 = 48
              · rw [decide_eq_true h48]
                refine iteT ⟨_, rfl, rfl, _, rfl, ?_⟩
                rw [dz]
                by_cases hz0 : tl z = [48]
                · rw [decide_eq_true hz0]
                  refine iteF (rest ?_)
                  rw [pl, decide_eq_true h48, decide_eq_true hz0]; rfl
                · rw [decide_eq_false hz0]
                  refine iteT (non ?_ _ sG)
                  rw [pl, decide_eq_true h48, decide_eq_false hz0]
                  rfl
              · rw [decide_eq_false h48]
                refine iteF (iteF (rest ?_))
                rw [pl, decide_eq_false h48]; rfl
            · refine iteT' (by rw [decide_eq_false (fun h => al (ef.mp h))]; rfl) (non ?_ _ sG)
              unfold plainL
              rw [Bool.eq_false_iff.mpr al, Bool.false_and, Bool.and_false]
        · exact iteT' (by rw [decide_eq_false (show ¬ ((z.length : Nat) : Int) < 31 by omega)]; rfl) (iteT (non (by unfold plainL; rw [len0, decide_eq_false h2, Bool.and_false, Bool.false_and]) _ (Same.refl _)))
      · refine iteF' (decide_eq_false (by omega)) ?_
        refine ⟨_, rfl, iteT (iteT (non (by unfold plainL; rw [len0, decide_eq_false h1, Bool.false_and, Bool.false_and]) _ (Same.refl _)))⟩
abbrev s__law_same : Stmt := top 31
theorem sc__law_same : FnScope ["_law_found", "_law_due"] ["_law_found", "_law_due"] (defScope s__law_same) := ⟨rfl, rfl, rfl, by decide +kernel, rfl, by decide +kernel, by decide +kernel⟩

theorem ok_lsame (bt : Bt mg) (p__law_whole : Prom P w K mg base 1 "_law_whole" ["_law_matter"] (spLWhole K)) (D : Def K mg "_law_same" s__law_same) : Prom P w K mg base 2 "_law_same" ["_law_found", "_law_due"] spLSame := by
  refine prom_mk D sc__law_same (fun vs H Q E h => ?_) (fun _ _ _ _ _ _ us hl => match us, hl with | [_, _], _ => rfl) (fun f cdv A outer s H vs Q E hr h => ?_)
  · obtain ⟨x, rfl, _⟩ := h
    rfl
  · obtain ⟨x, rfl, hx, q⟩ := h
    refine ⟨_, (pss_cons (ps_if (pt_cmpR op_isN (pv 1) pe_non (nomark _)) (pss_one (ps_ret (pe_cmpR op_isN (pv 0) pe_non (nomark _)))) pss_nil)
      (pss_one (ps_ret (pe_and (pe_pc p__law_whole (hr.mono (by decide)) rfl (pa_cons (pv 0) pa_nil)) (pe_one (pe_cmpR op_eq (pv 0) (pv 1) (nomark _))))))), ?_⟩
    rcases hx with rfl | ⟨i, rfl⟩
    · refine ⟨_, rfl, rfl, _, rfl, iteT' (by simp) ⟨_, rfl, rfl, ?_⟩⟩
      have e : decide (V.non = V.non) = true := decide_eq_true rfl
      rw [e]
      exact q
    · refine ⟨_, rfl, rfl, _, rfl, iteF' (by simp) ⟨_, rfl, _, .int i, rfl, .int i, true, rfl, iteT ⟨_, rfl, _, rfl, rfl, ?_⟩⟩⟩
      have e : decide (V.int i = V.int i) = true := decide_eq_true rfl
      rw [e]
      exact q
end

end TS

namespace TS
open PySem PySem.Spec PyProof.Rows L2 TL
/-! ### numbers are right -/
theorem int_plain (N : Int) : ∀ c ∈ tl ((toString N : String) : Str), c < 200 := by
  intro c hc
  refine Nat.lt_of_not_le fun h => ?_
  exact PyProof.Rows.int_text_free' c ⟨by omega, .inr (by omega)⟩ N hc
theorem any_txt : ∀ d ∈ anyD, (match d with | .str z => decide (z.length ≤ 100) && z.cps.toList.all (fun c => decide (c < 256)) | _ => true) = true := by decide +kernel
theorem any_ok {d : PyData} (h : d ∈ anyD) : ∀ z, d = .str z → z.length ≤ 100000 ∧ Plain z := fun z e => by
  have := any_txt d h
  rw [e] at this
  obtain ⟨h1, h2⟩ := Bool.and_eq_true_iff.mp this
  exact ⟨Nat.le_trans (of_decide_eq_true h1) (by decide), fun c hc => of_decide_eq_true (List.all_eq_true.mp h2 c hc)⟩
def spNRight : Sp := fun vs H Q _ => ∃ (b : Addr) (n : Nat), vs = [.ref b] ∧ (∃ o, H b = some o ∧ Bag (n + 13) o) ∧ ∀ H', Dr b n H H' → Q (.bl true) H'
section
variable {P : Program} {w : World} {K : PySem.W.Frag} {mg : Str → Option Value} {base : Heap}
abbrev s__law_numbers_right : Stmt := top 32
theorem sc__law_numbers_right : FnScope ["_law_bag_here", "_law_number", "_law_text", "_law_lower", "_law_upper", "_law_turn"] ["_law_bag_here"] (defScope s__law_numbers_right) := ⟨rfl, rfl, rfl, by decide +kernel, rfl, by decide +kernel, by decide +kernel⟩

theorem ok_nright (bt : Bt mg) (k_MOST_PLAIN : ∃ t, mg "MOST_PLAIN" = some (.int 9999 t)) (p__law_take : Prom P w K mg base 1 "_law_take" ["_law_bag_here", "_law_many"] spTake) (p__law_spoilt : Prom P w K mg base 2 "_law_spoilt" ["_law_bag_here", "_law_text"] spSpoilt) (p__law_any : Prom P w K mg base 2 "_law_any" ["_law_bag_here"] (spAny K))
    (p__law_number_of : Prom P w K mg base 1 "_law_number_of" ["_law_text", "_law_lower", "_law_upper"] (spNumOf K)) (p__law_same : Prom P w K mg base 2 "_law_same" ["_law_found", "_law_due"] spLSame)
    (p_num_both : PromK P w K mg base 1 "number_in" ["thing", "low", "high"] (spNumIn K) 1 ["high", "low"] (fun vs zs => vs ++ zs.reverse))
    (p_num_high : PromK P w K mg base 1 "number_in" ["thing", "low", "high"] (spNumIn K) 1 ["high"] (fun vs zs => vs ++ ([V.int 0] ++ zs)))
    (p_num_low : PromK P w K mg base 1 "number_in" ["thing", "low", "high"] (spNumIn K) 1 ["low"] (fun vs zs => vs ++ (zs ++ [V.int 9999])))
    (p_num_thing : PromK P w K mg base 1 "number_in" ["thing", "low", "high"] (spNumIn K) 0 ["thing"] (fun vs zs => zs ++ [V.int 0, V.int 9999]))
    (D : Def K mg "_law_numbers_right" s__law_numbers_right) : Prom P w K mg base 3 "_law_numbers_right" ["_law_bag_here"] spNRight := by
  obtain ⟨t_MOST_PLAIN, c_MOST_PLAIN⟩ := k_MOST_PLAIN
  refine prom_mk D sc__law_numbers_right (fun vs H Q E h => ?_) (fun _ _ _ _ _ _ us hl => match us, hl with | [_], _ => rfl) (fun f cdv A outer s H vs Q E hr h => ?_)
  · obtain ⟨b, n, rfl, _⟩ := h
    rfl
  · obtain ⟨b, n, rfl, hb, q⟩ := h
    refine ⟨_, (pss_cons (ps_set (i := 1) sc__law_numbers_right.nd rfl (Or.inl rfl) (pe_ix (ix_listK (K := K)) (pe_lst (pa_cons pe_int (pa_cons (pe_pc p__law_take (hr.mono (by decide)) rfl (pa_cons (pv 0) (pa_cons (pe_op op_sub (pe_op op_pow pe_int pe_int) pe_int) pa_nil))) (pa_cons (pe_pc p__law_take (hr.mono (by decide)) rfl (pa_cons (pv 0) (pa_cons pe_int pa_nil))) (pa_cons (pe_pc p__law_take (hr.mono (by decide)) rfl (pa_cons (pv 0) (pa_cons pe_int pa_nil))) pa_nil))))) (pe_pc p__law_take (hr.mono (by decide)) rfl (pa_cons (pv 0) (pa_cons pe_int pa_nil))) (fun _ _ => rfl)))
      (pss_cons (ps_set (i := 2) sc__law_numbers_right.nd rfl (Or.inl rfl) (pe_ix (ix_listK (K := K)) (pe_lst (pa_cons (pe_pc p__law_spoilt (hr.mono (by decide)) rfl (pa_cons (pv 0) (pa_cons (pe_callTy (T := "str") call_str_int (by rfl) bt.str_ (by decide +kernel) (pa_cons (pv 1) pa_nil)) pa_nil))) (pa_cons (pe_pc p__law_any (hr.mono (by decide)) rfl (pa_cons (pv 0) pa_nil)) pa_nil))) (pe_callTy (T := "int") call_int1 (by rfl) bt.int_ (by decide +kernel) (pa_cons (pe_cmpR op_eq (pe_pc p__law_take (hr.mono (by decide)) rfl (pa_cons (pv 0) (pa_cons pe_int pa_nil))) pe_int (nomark _)) pa_nil)) (fun _ _ => rfl)))
      (pss_cons (ps_set (i := 3) sc__law_numbers_right.nd rfl (Or.inl rfl) (pe_ix (ix_listK (K := K)) (pe_lst (pa_cons pe_int (pa_cons (pe_op op_add (pe_op op_sub (pv 1) pe_int) (pe_pc p__law_take (hr.mono (by decide)) rfl (pa_cons (pv 0) (pa_cons pe_int pa_nil)))) (pa_cons (pe_op op_sub pe_int (pe_op op_pow pe_int pe_int)) pa_nil)))) (pe_pc p__law_take (hr.mono (by decide)) rfl (pa_cons (pv 0) (pa_cons pe_int pa_nil))) (fun _ _ => rfl)))
      (pss_cons (ps_set (i := 4) sc__law_numbers_right.nd rfl (Or.inl rfl) (pe_ix (ix_listK (K := K)) (pe_lst (pa_cons pe_int (pa_cons (pe_op op_add (pe_op op_sub (pv 1) pe_int) (pe_pc p__law_take (hr.mono (by decide)) rfl (pa_cons (pv 0) (pa_cons pe_int pa_nil)))) (pa_cons (pe_op op_sub (pe_op op_pow pe_int pe_int) pe_int) pa_nil)))) (pe_pc p__law_take (hr.mono (by decide)) rfl (pa_cons (pv 0) (pa_cons pe_int pa_nil))) (fun _ _ => rfl)))
      (pss_cons (ps_for PassesOwn.never rfl (pi_range1 rfl bt.range_ (pa_cons pe_int pa_nil)) (pg_name (i := 5) sc__law_numbers_right.nd rfl (Or.inl rfl)) (pss_cons (ps_if (pt_not (pt_val (pe_pc p__law_same (hr.mono (by decide)) rfl (pa_cons (pe_pcK p_num_both (hr.mono (by decide)) rfl (pa_cons (pv 2) pa_nil) (pk_cons (pv 4) (pk_cons (pv 3) pk_nil))) (pa_cons (pe_pc p__law_number_of (hr.mono (by decide)) rfl (pa_cons (pv 2) (pa_cons (pv 3) (pa_cons (pv 4) pa_nil)))) pa_nil))))) (pss_one (ps_ret pe_bl)) pss_nil)
      (pss_cons (ps_if (pt_not (pt_val (pe_pc p__law_same (hr.mono (by decide)) rfl (pa_cons (pe_pcK p_num_high (hr.mono (by decide)) rfl (pa_cons (pv 2) pa_nil) (pk_cons (pv 4) pk_nil)) (pa_cons (pe_pc p__law_number_of (hr.mono (by decide)) rfl (pa_cons (pv 2) (pa_cons pe_int (pa_cons (pv 4) pa_nil)))) pa_nil))))) (pss_one (ps_ret pe_bl)) pss_nil)
      (pss_cons (ps_if (pt_not (pt_val (pe_pc p__law_same (hr.mono (by decide)) rfl (pa_cons (pe_pcK p_num_low (hr.mono (by decide)) rfl (pa_cons (pv 2) pa_nil) (pk_cons (pv 3) pk_nil)) (pa_cons (pe_pc p__law_number_of (hr.mono (by decide)) rfl (pa_cons (pv 2) (pa_cons (pv 3) (pa_cons pe_int pa_nil)))) pa_nil))))) (pss_one (ps_ret pe_bl)) pss_nil)
      (pss_one (ps_if (PW.pt (pw_or (pt_not (pt_val (pe_pc p__law_same (hr.mono (by decide)) rfl (pa_cons (pe_pcK0 p_num_thing (hr.mono (by decide)) rfl (pk_cons (pv 2) pk_nil)) (pa_cons (pe_pc p__law_number_of (hr.mono (by decide)) rfl (pa_cons (pv 2) (pa_cons pe_int (pa_cons (pe_glob (v := .int 9999) rfl c_MOST_PLAIN ⟨_, rfl⟩) pa_nil)))) pa_nil))))) (pw_or1 (pt_cmpR op_ne (pe_glob (v := .int 9999) rfl c_MOST_PLAIN ⟨_, rfl⟩) pe_int (nomark _))))) (pss_one (ps_ret pe_bl)) pss_nil))))))
      (pss_one (ps_ret pe_bl))))))), ?_⟩
    have p200 : ((10 : Int) ^ (30 : Int).toNat - 1) < 2 ^ 200 := by decide +kernel
    have e30 : (10 : Int) ^ (30 : Int).toNat = 1000000000000000000000000000000 := by decide +kernel
    refine ⟨_, rfl, _, _, rfl, rfl, ⟨by decide, by decide, by decide⟩, _, _, rfl, rfl, b, _, n + 12, _, rfl, hb.choose_spec.1, hb.choose_spec.2, by decide +kernel, p200, fun m1 o1 l1 u1 g1 => ?_⟩
    (generalize hG : L2.upd _ b _ = H1; have d1 := dr_of hG g1; clear hG)
    refine ⟨_, rfl, b, _, n + 11, 10001, rfl, d1.bag.choose_spec.1, d1.bag.choose_spec.2, by decide, by decide +kernel, fun m2 o2 l2 u2 g2 => ?_⟩
    (generalize hG : L2.upd _ b _ = H2; have d2 := dr_of hG g2; clear hG)
    refine ⟨_, rfl, b, _, n + 10, 20, rfl, d2.bag.choose_spec.1, d2.bag.choose_spec.2, by decide, by decide +kernel, fun m3 o3 l3 u3 g3 => ?_⟩
    (generalize hG : L2.upd _ b _ = H3; have d3 := dr_of hG g3; clear hG)
    have D3 := (d1.trans d2).trans d3
    refine ⟨(by show 4 ≤ sizeLine; decide), fun L hL => ?_⟩
    have nL := D3.ne hL
    (generalize hG : L2.upd _ L _ = H4; have sL := same_of hG hL; have eL := at_of hG; clear hG)
    have b4 : ∃ o, H4 b = some o ∧ Bag (n + 10) o := let ⟨o, e, g⟩ := D3.bag; ⟨o, sL _ _ e, g⟩
    refine ⟨_, rfl, b, _, n + 9, 4, rfl, b4.choose_spec.1, b4.choose_spec.2, by decide, by decide +kernel, fun x5 o5 l5 u5 g5 => ?_⟩
    (generalize hG : L2.upd _ b _ = H5; have d5 := dr_of hG g5; clear hG)
    have D5 : Dr b (n + 9) H H5 := (D3.trans (Dr.same sL D3.bag)).trans d5
    obtain ⟨v, hv, hvm⟩ := atI_in (xs := [V.int 0, .int m1, .int m2, .int m3]) l5 u5
    rw [e30] at u1
    obtain ⟨N, eN, N0, N1⟩ : ∃ N, v = .int N ∧ 0 ≤ N ∧ N < 1000000000000000000000000000000 := by
      simp only [List.mem_cons, List.not_mem_nil, or_false] at hvm
      rcases hvm with rfl | rfl | rfl | rfl
      · exact ⟨_, rfl, by decide, by decide⟩
      · exact ⟨_, rfl, by omega, by omega⟩
      · exact ⟨_, rfl, by omega, by omega⟩
      · exact ⟨_, rfl, by omega, by omega⟩
    subst eN
    have lN : N.natAbs.log2 < 1920 := by
      have h1 : N.natAbs < 2 ^ 1920 := Nat.lt_of_lt_of_le (show N.natAbs < 1000000000000000000000000000000 by omega) (by decide +kernel)
      by_cases h0 : N.natAbs = 0
      · rw [h0]; decide
      · exact (Nat.log2_lt h0).mpr h1
    have len30 : ((toString N : String) : Str).length ≤ 41 := int_len (by
      have : (10 : Nat) ^ 40 = 10000000000000000000000000000000000000000 := by decide +kernel
      omega)
    refine ⟨L, _, _, _, rfl, rfl, .inl (.inl (d5.at nL eL)), hv, ?_⟩
    refine ⟨_, rfl, _, rfl, N, rfl, lN, b, _, n + 6, rfl, Nat.le_trans len30 (by decide), ?_, D5.bag, fun H6 y d6 hy py => ?_⟩
    · intro c hc
      exact Nat.lt_of_lt_of_le (int_plain N c hc) (by decide)
    refine ⟨_, rfl, b, _, n + 5, rfl, d6.bag.choose_spec.1, d6.bag.choose_spec.2, fun v7 dd H7 o7 hd7 fx7 e7 g7 dt7 => ?_⟩
    have d7 : Dr b (n + 5) H6 H7 := ⟨fx7, _, e7, g7⟩
    have D7 := (D5.trans d6).trans d7
    refine ⟨(by show 2 ≤ sizeLine; decide), fun M hM => ?_⟩
    have nM := D7.ne hM
    (generalize hG : L2.upd _ M _ = H8; have sM := same_of hG hM; have eM := at_of hG; clear hG)
    have b8 : ∃ o, H8 b = some o ∧ Bag (n + 5) o := let ⟨o, e, g⟩ := D7.bag; ⟨o, sM _ _ e, g⟩
    refine ⟨_, rfl, b, _, n + 4, 6, rfl, b8.choose_spec.1, b8.choose_spec.2, by decide, by decide +kernel, fun x9 o9 l9 u9 g9 => ?_⟩
    (generalize hG : L2.upd _ b _ = H9; have d9 := dr_of hG g9; clear hG)
    have D9 : Dr b (n + 4) H H9 := (D7.trans (Dr.same sM D7.bag)).trans d9
    obtain ⟨v, d, hv9, hDt, hz⟩ : ∃ v d, atI [V.str y, v7] (if decide (V.int x9 = V.int 0) = true then 1 else 0) = some v ∧ Dt K (hide H9 b) v d ∧ ∀ z, d = .str z → z.length ≤ 100000 ∧ Plain z := by
      by_cases h : V.int x9 = V.int 0
      · exact ⟨v7, dd, by rw [if_pos (decide_eq_true h)]; rfl, Dt.same ((Dr.same sM D7.bag).trans d9).hide dt7, any_ok hd7⟩
      · refine ⟨.str y, .str y, by rw [if_neg (by rw [decide_eq_false h]; exact Bool.false_ne_true)]; rfl, .str y, fun z e => ?_⟩
        cases e
        exact ⟨Nat.le_trans hy (by omega), py⟩
    refine ⟨rfl, .inr ⟨_, rfl, M, _, _, v, rfl, rfl, .inl (.inl (d9.at nM eM)), hv9, ?_⟩⟩
    -- the lower bound
    refine ⟨_, rfl, _, _, rfl, rfl, _, rfl, b, _, n + 3, 3, rfl, D9.bag.choose_spec.1, D9.bag.choose_spec.2, by decide, by decide +kernel, fun xa oa la ua ga => ?_⟩
    (generalize hG : L2.upd _ b _ = H10; have da := dr_of hG ga; clear hG)
    refine ⟨_, _, rfl, rfl, _, _, rfl, rfl, ⟨by decide, by decide, by decide⟩, _, _, rfl, rfl, (by show 3 ≤ sizeLine; decide), fun La hL2 => ?_⟩
    have D10 := D9.trans da
    have nL2 := D10.ne hL2
    (generalize hG : L2.upd _ La _ = H11; have sL2 := same_of hG hL2; have eL2 := at_of hG; clear hG)
    have b11 : ∃ o, H11 b = some o ∧ Bag (n + 3) o := let ⟨o, e, g⟩ := D10.bag; ⟨o, sL2 _ _ e, g⟩
    refine ⟨_, rfl, b, _, n + 2, 3, rfl, b11.choose_spec.1, b11.choose_spec.2, by decide, by decide +kernel, fun xb ob lb ub gb => ?_⟩
    (generalize hG : L2.upd _ b _ = H12; have db := dr_of hG gb; clear hG)
    have D12 : Dr b (n + 2) H H12 := (D10.trans (Dr.same sL2 D10.bag)).trans db
    obtain ⟨v1, hv1, hm1⟩ := atI_in (xs := [V.int 0, .int (N - 1 + xa), .int (0 - (10 : Int) ^ (20 : Int).toNat)]) lb ub
    obtain ⟨lo, rfl⟩ : ∃ lo, v1 = .int lo := by
      simp only [List.mem_cons, List.not_mem_nil, or_false] at hm1
      rcases hm1 with rfl | rfl | rfl <;> exact ⟨_, rfl⟩
    refine ⟨La, _, _, _, rfl, rfl, .inl (.inl (db.at nL2 eL2)), hv1, ?_⟩
    -- the upper bound
    refine ⟨_, rfl, _, _, rfl, rfl, _, rfl, b, _, n + 1, 3, rfl, D12.bag.choose_spec.1, D12.bag.choose_spec.2, by decide, by decide +kernel, fun xc oc lc uc gc => ?_⟩
    (generalize hG : L2.upd _ b _ = H13; have dc := dr_of hG gc; clear hG)
    refine ⟨_, _, rfl, rfl, _, _, rfl, rfl, ⟨by decide, by decide, by decide⟩, _, _, rfl, rfl, (by show 3 ≤ sizeLine; decide), fun Lb hL3 => ?_⟩
    have D13 := D12.trans dc
    have nL3 := D13.ne hL3
    (generalize hG : L2.upd _ Lb _ = H14; have sL3 := same_of hG hL3; have eL3 := at_of hG; clear hG)
    have b14 : ∃ o, H14 b = some o ∧ Bag (n + 1) o := let ⟨o, e, g⟩ := D13.bag; ⟨o, sL3 _ _ e, g⟩
    refine ⟨_, rfl, b, _, n, 3, rfl, b14.choose_spec.1, b14.choose_spec.2, by decide, by decide +kernel, fun xd od ld ud gd => ?_⟩
    (generalize hG : L2.upd _ b _ = H15; have de := dr_of hG gd; clear hG)
    have D15 : Dr b n H H15 := (D13.trans (Dr.same sL3 D13.bag)).trans de
    obtain ⟨v2, hv2, hm2⟩ := atI_in (xs := [V.int 9999, .int (N - 1 + xc), .int ((10 : Int) ^ (30 : Int).toNat - 1)]) ld ud
    obtain ⟨hi, rfl⟩ : ∃ hi, v2 = .int hi := by
      simp only [List.mem_cons, List.not_mem_nil, or_false] at hm2
      rcases hm2 with rfl | rfl | rfl <;> exact ⟨_, rfl⟩
    refine ⟨Lb, _, _, _, rfl, rfl, .inl (.inl (de.at nL3 eL3)), hv2, ?_⟩
    have dt : Dt K H15 v d := Dt.same hide_same (Dt.same ((da.hide.trans ((Dr.same sL2 D10.bag).trans db).hide).trans (dc.hide.trans ((Dr.same sL3 D13.bag).trans de).hide)) hDt)
    refine ⟨2, rfl, by decide, by decide, ?_⟩
    refine for_it walk_range (fun _ σ G => Same H15 G ∧ ∃ sv, σ = [some (V.ref b), some (.int N), some v, some (.int lo), some (.int hi), sv]) ⟨Same.refl _, none, rfl⟩ (fun _ _ _ _ _ => trivial) ?_ ?_
    · rintro j x σ G G' hj ⟨sG, sv, rfl⟩ ⟨rfl, rfl⟩
      have dl : ∀ G, Same H15 G → Dt K G v d := fun G s => Dt.same s dt
      have hz1 : ∀ z, d = .str z → z.length ≤ 100000 := fun z e => (hz z e).1
      refine ⟨_, rfl, _, rfl, _, rfl, rfl, rfl, v, d, lo, hi, rfl, dl _ sG, hz1, fun G1 s1 => ⟨_, rfl, _, rfl, _, rfl, v, d, lo, hi, rfl, dl _ (sG.trans s1), hz, fun G2 s2 => ⟨numR lo hi d, rfl, numR_kind .., _, rfl, iteF ?_⟩⟩⟩
      have t2 := (sG.trans s1).trans s2
      refine ⟨_, rfl, _, rfl, rfl, rfl, v, d, 0, hi, rfl, dl _ t2, hz1, fun G3 s3 => ⟨_, rfl, _, rfl, v, d, 0, hi, rfl, dl _ (t2.trans s3), hz, fun G4 s4 => ⟨numR 0 hi d, rfl, numR_kind .., _, rfl, iteF ?_⟩⟩⟩
      have t4 := (t2.trans s3).trans s4
      refine ⟨_, rfl, _, rfl, rfl, rfl, v, d, lo, 9999, rfl, dl _ t4, hz1, fun G5 s5 => ⟨_, rfl, _, rfl, v, d, lo, 9999, rfl, dl _ (t4.trans s5), hz, fun G6 s6 => ⟨numR lo 9999 d, rfl, numR_kind .., _, rfl, iteF ?_⟩⟩⟩
      have t6 := (t4.trans s5).trans s6
      refine ⟨_, rfl, rfl, v, d, 0, 9999, rfl, dl _ t6, hz1, fun G7 s7 => ⟨_, rfl, v, d, 0, 9999, rfl, dl _ (t6.trans s7), hz, fun G8 s8 => ⟨numR 0 9999 d, rfl, numR_kind .., _, rfl, iteF ?_⟩⟩⟩
      have t8 := (t6.trans s7).trans s8
      exact ⟨rfl, _, rfl, iteF' (by simp) ⟨t8, _, rfl⟩⟩
    · rintro σ G ⟨sG, sv, rfl⟩
      exact q G (D15.trans (Dr.same sG D15.bag))
end

end TS

namespace TS
open PySem PySem.Spec PyProof.Rows L2 TL
/-! ### the law -/
def spLaw (K : PySem.W.Frag) : Sp := fun vs H Q _ => ∃ (a : Addr) (ns : List Int), vs = [.ref a] ∧ SqL K H a (ns.map V.int) ∧ ns.length ≤ 63 ∧ ∀ H', Q (.bl true) H'
section
variable {P : Program} {w : World} {K : PySem.W.Frag} {mg : Str → Option Value} {base : Heap}
abbrev s_law : Stmt := top 33
theorem sc_law : FnScope ["_law_script", "_law_k", "_law_bag_here"] ["_law_script"] (defScope s_law) := ⟨rfl, rfl, rfl, by decide +kernel, rfl, by decide +kernel, by decide +kernel⟩

theorem ok_law (bt : Bt mg) (p__law_cell : Prom P w K mg base 1 "_law_cell" ["_law_script", "_law_k"] (spCell K)) (p__law_bag : Prom P w K mg base 1 "_law_bag" ["_law_cell_here"] spBag)
    (p__law_letters_right : PromG P w K mg base 5 "_law_letters_right" ["_law_bag_here"] spLRight) (p__law_numbers_right : Prom P w K mg base 3 "_law_numbers_right" ["_law_bag_here"] spNRight)
    {f : Addr} {fd : FuncData} (F : FunD K "law" "law" (defArgs s_law) (defBody s_law) (defScope s_law) [] [] f fd) : FnG P w K mg base CX0 9 f fd ["_law_script"] (spLaw K) := by
  refine fnG_mk F sc_law (fun vs H Q E h => ?_) (fun f cdv A outer s H vs Q E hgd hr h => ?_)
  · obtain ⟨a, ns, rfl, _⟩ := h
    rfl
  · obtain ⟨a, ns, rfl, hS, hn, q⟩ := h
    refine ⟨_, (pss_cons (ps_for PassesOwn.never rfl (pi_range1 rfl bt.range_ (pa_cons (pe_callB (id := "max") (call_max2 rfl) (by rfl) bt.max_ (by decide +kernel) (pa_cons pe_int (pa_cons (pe_callB (id := "min") (call_min2 rfl) (by rfl) bt.min_ (by decide +kernel) (pa_cons pe_int (pa_cons (pe_callB (id := "len") (lenK (K := K)) (by rfl) bt.len_ (by decide +kernel) (pa_cons (pv 0) pa_nil)) pa_nil))) pa_nil))) pa_nil)) (pg_name (i := 1) sc_law.nd rfl (Or.inl rfl)) (pss_cons (ps_set (i := 2) sc_law.nd rfl (Or.inl rfl) (pe_pc p__law_bag (hr.mono (by decide)) rfl (pa_cons (pe_pc p__law_cell (hr.mono (by decide)) rfl (pa_cons (pv 0) (pa_cons (pv 1) pa_nil))) pa_nil)))
      (pss_one (ps_if (PW.pt (pw_or (pt_not (pt_val (pe_pcG p__law_letters_right hgd (hr.mono (by decide)) rfl (pa_cons (pv 2) pa_nil)))) (pw_or1 (pt_not (pt_val (pe_pc p__law_numbers_right (hr.mono (by decide)) rfl (pa_cons (pv 2) pa_nil))))))) (pss_one (ps_ret pe_bl)) pss_nil))))
      (pss_one (ps_ret pe_bl))), ?_⟩
    have hn3 : ∀ k : Int, k = (if (if (ns.map V.int).length < (12 : Int) then ((ns.map V.int).length : Int) else 12) > 3 then (if (ns.map V.int).length < (12 : Int) then ((ns.map V.int).length : Int) else 12) else 3) → 0 ≤ k ∧ k ≤ 12 := by
      intro k hk
      rw [hk]
      split <;> split <;> omega
    refine ⟨_, rfl, _, _, rfl, .inl ⟨_, hS, rfl⟩, _, _, rfl, _, _, rfl, _, rfl, ?_, ?_, ?_⟩
    · have := hn3 _ rfl
      omega
    · have := hn3 _ rfl
      omega
    have hb12 := (hn3 _ rfl).2
    refine for_it walk_range (fun i σ H' => (∃ s1 s2 : Option V, σ = [some (.ref a), s1, s2]) ∧ Same H H') ⟨⟨_, _, rfl⟩, Same.refl H⟩ (fun _ _ _ _ _ => trivial) ?_ (fun σ G p => q G)
    rintro i x σ H1' H1 hi ⟨⟨s1, s2, rfl⟩, e1⟩ ⟨rfl, rfl⟩
    refine ⟨_, rfl, _, rfl, a, ns, i, (by show [V.ref a, V.int (0 + (i : Int))] = _; rw [Int.zero_add]), e1.seq hS, by omega, fun c => ?_⟩
    refine ⟨c, rfl, fun b o hb bg => ?_⟩
    have hbH : H b = none := e1.free hb
    (generalize hG : L2.upd _ b _ = H2; have sb := same_of hG hb; have eb := at_of hG; clear hG)
    have keepH : ∀ {m : Nat} {G G' : Hp}, Dr b m G G' → Same H G → Same H G' := fun d s a' o' e => d.fx a' o' (ne_of_none e hbH) (s a' o' e)
    refine ⟨_, rfl, b, 800000000, rfl, ⟨o, eb, bg.mono (by decide)⟩, fun H3 d3 => ⟨_, rfl, iteF ?_⟩⟩
    have e3 := keepH d3 (e1.trans sb)
    refine ⟨_, rfl, b, 700000000, rfl, let ⟨o, e, g⟩ := d3.bag; ⟨o, e, g.mono (by decide)⟩, fun H4 d4 => ⟨_, rfl, iteF ?_⟩⟩
    exact ⟨⟨_, _, rfl⟩, keepH d4 e3⟩
end

end TS

namespace TS
open PySem PySem.Spec PyProof.Rows L2 TL
section
variable {P : Program} {w : World} {K : PySem.W.Frag} {mg : Str → Option Value} {base : Heap}
abbrev s__law_cell : Stmt := top 17
theorem sc__law_cell : FnScope ["_law_script", "_law_k"] ["_law_script", "_law_k"] (defScope s__law_cell) := ⟨rfl, rfl, rfl, by decide +kernel, rfl, by decide +kernel, by decide +kernel⟩

theorem ok_cell (bt : Bt mg) (D : Def K mg "_law_cell" s__law_cell) : Prom P w K mg base 1 "_law_cell" ["_law_script", "_law_k"] (spCell K) := by
  refine prom_mk D sc__law_cell (fun vs H Q E h => ?_) (fun _ _ _ _ _ _ us hl => match us, hl with | [_, _], _ => rfl) (fun f cdv A outer s H vs Q E hr h => ?_)
  · obtain ⟨a, ns, k, rfl, _⟩ := h
    rfl
  · obtain ⟨a, ns, k, rfl, hS, hk, q⟩ := h
    refine ⟨_, (pss_cons (ps_if (pt_cmpR op_lt (pv 1) (pe_callB (id := "len") (lenK (K := K)) (by rfl) bt.len_ (by decide +kernel) (pa_cons (pv 0) pa_nil)) (nomark _)) (pss_one (ps_ret (pe_ix (ix_listK (K := K)) (pv 0) (pv 1) (fun _ _ => rfl)))) pss_nil)
      (pss_one (ps_ret (pe_op op_add (pe_op op_mul pe_int (pv 1)) pe_int)))), ?_⟩
    refine ⟨_, rfl, _, rfl, _, _, rfl, .inl ⟨_, hS, rfl⟩, _, _, rfl, rfl, _, rfl, ?_⟩
    refine ite2 (fun c => ?_) (fun c => ?_)
    · have c' := of_decide_eq_true c
      rw [List.length_map] at c'
      have hk' : k < ns.length := by omega
      exact ⟨_, rfl, _, rfl, a, _, _, .int ns[k], rfl, rfl, hS, atI_nat (by rw [List.getElem?_map, List.getElem?_eq_getElem hk']; rfl), q _⟩
    · exact ⟨_, rfl, _, _, rfl, rfl, .inl ⟨by decide, by decide⟩, _, _, rfl, rfl, q _⟩
abbrev s__law_bag : Stmt := top 18
theorem sc__law_bag : FnScope ["_law_cell_here"] ["_law_cell_here"] (defScope s__law_bag) := ⟨rfl, rfl, rfl, by decide +kernel, rfl, by decide +kernel, by decide +kernel⟩

theorem ok_bag (bt : Bt mg) (D : Def K mg "_law_bag" s__law_bag) : Prom P w K mg base 1 "_law_bag" ["_law_cell_here"] spBag := by
  refine prom_mk D sc__law_bag (fun vs H Q E h => ?_) (fun _ _ _ _ _ _ us hl => match us, hl with | [_], _ => rfl) (fun f cdv A outer s H vs Q E hr h => ?_)
  · obtain ⟨c, rfl, _⟩ := h
    rfl
  · obtain ⟨c, rfl, q⟩ := h
    refine ⟨_, (pss_one (ps_ret (pe_lst (pa_cons (pe_callB (id := "max") (call_max2 rfl) (by rfl) bt.max_ (by decide +kernel) (pa_cons pe_int (pa_cons (pe_op op_sub (pv 0) (pe_op op_pow pe_int pe_int)) pa_nil))) (pa_cons (pe_op op_mod (pv 0) pe_int) (pa_cons pe_int pa_nil)))))), ?_⟩
    refine ⟨_, rfl, _, _, rfl, rfl, ⟨by decide, by decide, by decide⟩, _, _, rfl, rfl, _, _, rfl, ?_⟩
    refine ⟨_, rfl, _, _, rfl, rfl, (by show (0 : Int) < 2147483629; decide), (by show 3 ≤ sizeLine; decide), fun p hp => q p _ hp ?_⟩
    refine ⟨_, _, _, rfl, ?_, Int.emod_nonneg _ (by decide), Int.emod_lt_of_pos _ (by decide), Int.le_refl 0, by decide⟩
    split <;> omega
abbrev s__law_take : Stmt := top 19
theorem sc__law_take : FnScope ["_law_bag_here", "_law_many", "_law_digit", "_law_number"] ["_law_bag_here", "_law_many"] (defScope s__law_take) := ⟨rfl, rfl, rfl, by decide +kernel, rfl, by decide +kernel, by decide +kernel⟩

theorem pow_small {x : Int} {n : Nat} (h0 : 0 ≤ x) (h1 : x < 2 ^ 60) : x.natAbs < 2 ^ 64 := by
  have : (2 : Int) ^ 60 = 1152921504606846976 := by decide
  have h2 : (2 : Nat) ^ 64 = 18446744073709551616 := by decide
  omega
theorem ok_take (D : Def K mg "_law_take" s__law_take) : Prom P w K mg base 1 "_law_take" ["_law_bag_here", "_law_many"] spTake := by
  refine prom_mk D sc__law_take (fun vs H Q E h => ?_) (fun _ _ _ _ _ _ us hl => match us, hl with | [_, _], _ => rfl) (fun f cdv A outer s H vs Q E hr h => ?_)
  · obtain ⟨b, o, n, many, rfl, _⟩ := h
    rfl
  · obtain ⟨b, o, n, many, rfl, hb, ⟨x, y, z, rfl, hx, hy, hy', hz, hn⟩, hm, hm', q⟩ := h
    have hL : ∀ {H : Hp} {xs : List V}, H b = some (.lst xs) → SqL K H b xs := fun h => .inl (.inl h)
    refine ⟨_, (pss_cons (ps_if (pt_cmpR op_gt (pe_ix (ix_listK (K := K)) (pv 0) pe_int (fun _ _ => rfl)) pe_int (nomark _)) (pss_cons (ps_set (i := 2) sc__law_take.nd rfl (Or.inl rfl) (pe_op op_mod (pe_ix (ix_listK (K := K)) (pv 0) pe_int (fun _ _ => rfl)) (pv 1)))
      (pss_cons (ps_asg (pe_op op_fdivW (pe_ix (ix_listK (K := K)) (pv 0) pe_int (fun _ _ => rfl)) (pv 1)) (pg_sub (pv 0) pe_int set_list))
      (pss_one (ps_ret (pv 2))))) pss_nil)
      (pss_cons (ps_asg (pe_op op_add (pe_ix (ix_listK (K := K)) (pv 0) pe_int (fun _ _ => rfl)) pe_int) (pg_sub (pv 0) pe_int set_list))
      (pss_cons (ps_set (i := 3) sc__law_take.nd rfl (Or.inl rfl) (pe_op op_mod (pe_op op_pow (pe_op op_add (pe_op op_add (pe_ix (ix_listK (K := K)) (pv 0) pe_int (fun _ _ => rfl)) (pe_op op_mul pe_int (pe_ix (ix_listK (K := K)) (pv 0) pe_int (fun _ _ => rfl)))) pe_int) pe_int) pe_int))
      (pss_cons (ps_set (i := 3) sc__law_take.nd rfl (Or.inl rfl) (pe_op op_mod (pe_op op_pow (pe_op op_add (pv 3) (pe_op op_mul pe_int (pe_ix (ix_listK (K := K)) (pv 0) pe_int (fun _ _ => rfl)))) pe_int) pe_int))
      (pss_one (ps_ret (pe_op op_mod (pe_op op_fdivW (pv 3) pe_int) (pv 1)))))))), ?_⟩
    refine ⟨_, rfl, b, _, _, _, rfl, rfl, hL hb, rfl, _, _, rfl, rfl, _, rfl, ?_⟩
    refine ite2 (fun c => ?_) (fun c => ?_)
    · have c' := of_decide_eq_true c
      refine ⟨_, rfl, b, _, _, _, rfl, rfl, hL hb, rfl, _, rfl, _, _, rfl, rfl, hm, ?_⟩
      refine ⟨_, rfl, b, _, _, _, rfl, rfl, hL hb, rfl, _, rfl, _, _, rfl, rfl, ?_, ?_⟩
      · exact wide_div (b := 201) hm (by have h1 : (2 : Int) ^ 200 = 1606938044258990275541962092341162602522202993782792835301376 := by decide +kernel
                                         have h3 : (2 : Nat) ^ 201 = 3213876088517980551083924184682325205044405987565585670602752 := by decide +kernel
                                         rw [h1] at hm'
                                         rw [h3]
                                         omega) (by decide) (by decide)
      · refine ⟨_, rfl, b, _, _, 0, rfl, rfl, hb, rfl, _, rfl, ?_⟩
        exact q _ _ (Int.emod_nonneg _ (by omega)) (Int.emod_lt_of_pos _ hm) ⟨_, _, _, rfl, Int.ediv_nonneg hx (by omega), hy, hy', hz, by omega⟩
    · refine ⟨_, rfl, b, _, _, _, rfl, rfl, hL hb, rfl, _, _, rfl, rfl, _, rfl, b, _, _, 2, rfl, rfl, hb, rfl, ?_⟩
      have hb1 : (L2.upd H b (.lst [.int x, .int y, .int (z + 1)])) b = some (.lst [.int x, .int y, .int (z + 1)]) := upd_same
      refine ⟨_, rfl, b, _, _, _, rfl, rfl, hL hb1, rfl, _, rfl, b, _, _, _, rfl, rfl, hL hb1, rfl, _, _, rfl, rfl, .inl ⟨by decide, by decide⟩, _, _, rfl, rfl, _, _, rfl, rfl, _, _, rfl, rfl, ⟨by decide, by decide, ?_⟩, _, _, rfl, rfl, (by show (0 : Int) < 2147483647; decide), ?_⟩
      · exact pow_small (n := 0) (by omega) (by have : (2 : Int) ^ 60 = 1152921504606846976 := by decide
                                                omega)
      · have r0 := Int.emod_nonneg ((y + 7919 * (z + 1) + 29) ^ 5) (show (2147483647 : Int) ≠ 0 by decide)
        have r1 := Int.emod_lt_of_pos ((y + 7919 * (z + 1) + 29) ^ 5) (show (0 : Int) < 2147483647 by decide)
        refine ⟨_, rfl, _, rfl, b, _, _, _, rfl, rfl, hL hb1, rfl, _, _, rfl, rfl, .inl ⟨by decide, by decide⟩, _, _, rfl, rfl, _, _, rfl, rfl, ⟨by decide, by decide, ?_⟩, _, _, rfl, rfl, (by show (0 : Int) < 2147483587; decide), ?_⟩
        · exact pow_small (n := 0) (Int.add_nonneg r0 (by omega)) (by have : (2 : Int) ^ 60 = 1152921504606846976 := by decide
                                                                      omega)
        · refine ⟨_, rfl, _, _, rfl, rfl, wide_div (b := 10) (by decide) (by decide) (by decide) (by decide), _, rfl, _, _, rfl, rfl, hm, ?_⟩
          exact q _ _ (Int.emod_nonneg _ (by omega)) (Int.emod_lt_of_pos _ hm) ⟨_, _, _, rfl, hx, hy, hy', by omega, by omega⟩
end

end TS

namespace TS
open PySem PySem.Spec PyProof.Rows L2 TL
/-! ### the head and the end -/
def fn : List He.DefD := ([defD "is_whole" s_is_whole, defKD "number_in" s_number_in [("low", .int 0), ("high", .int 9999)], defD "is_letter" s_is_letter, defD "letter_rank" s_letter_rank, defD "normal_letter" s_normal_letter, defD "_law_cell" s__law_cell, defD "_law_bag" s__law_bag, defD "_law_take" s__law_take, defD "_law_whole" s__law_whole, defD "_law_very" s__law_very, defD "_law_any" s__law_any, defD "_law_letter" s__law_letter, defD "_law_near" s__law_near, defD "_law_shown" s__law_shown, defD "_law_kind" s__law_kind, defD "_law_refused" s__law_refused, defD "_law_letters_right" s__law_letters_right, defD "_law_spoilt" s__law_spoilt, defD "_law_number_of" s__law_number_of, defD "_law_same" s__law_same] : List He.DefD) ++ ([defD "_law_numbers_right" s__law_numbers_right, defD "law" s_law, methD "NoLetter" "__init__" "NoLetter.__init__" s_NoLetter___init__, methD "NoNumber" "__init__" "NoNumber.__init__" s_NoNumber___init__] : List He.DefD)
def gl : List Str := (["is_whole", "number_in", "is_letter", "letter_rank", "normal_letter", "_law_cell", "_law_bag", "_law_take", "_law_whole", "_law_very", "_law_any", "_law_letter", "_law_near", "_law_shown", "_law_kind", "_law_refused", "_law_letters_right", "_law_spoilt", "_law_number_of", "_law_same"] : List Str) ++ (["_law_numbers_right", "law", "TermError", "NoName", "NoLetter", "NoNumber"] : List Str)
def fl (K : PySem.W.Frag) : List Bool := ([famB K "TermError", ownB K "NoLetter" "found", ownB K "NoNumber" "found", exI K (He.ga K "NoLetter"), decide (PySem.W.kitOne K (.ref (He.ga K "NoLetter")) (.ref (He.ga K "NoLetter")) = some true), decide (PySem.W.kitOne K (.ref (He.ga K "NoLetter")) (.ref (He.ga K "NoNumber")) = some false), decide (PySem.W.kitOne K (.ref (He.ga K "NoLetter")) (.ref (He.ga K "NoName")) = some false), decide (PySem.W.kitOne K (.ref (He.ga K "NoLetter")) (.ref (He.ga K "TermError")) = some true), decide (PySem.W.exmAny K (.ref (He.ga K "NoLetter")) [.ref (He.ga K "NoLetter"), .ref (He.ga K "NoNumber")] = some true), exI K (He.ga K "NoNumber"), decide (PySem.W.kitOne K (.ref (He.ga K "NoNumber")) (.ref (He.ga K "NoLetter")) = some false), decide (PySem.W.kitOne K (.ref (He.ga K "NoNumber")) (.ref (He.ga K "NoNumber")) = some true), decide (PySem.W.kitOne K (.ref (He.ga K "NoNumber")) (.ref (He.ga K "NoName")) = some false), decide (PySem.W.kitOne K (.ref (He.ga K "NoNumber")) (.ref (He.ga K "TermError")) = some true), decide (PySem.W.exmAny K (.ref (He.ga K "NoNumber")) [.ref (He.ga K "NoLetter"), .ref (He.ga K "NoNumber")] = some true), (He.Fa.int "MOST_FIGURES" 30).ok K, (He.Fa.int "LAST_LETTER" 99).ok K, (He.Fa.int "MOST_PLAIN" 9999).ok K, (He.Fa.str "FIGURES" "0123456789").ok K, (He.Fa.str "CAPITALS" "ABCDEFGHIJKLMNOPQRSTUVWXYZ").ok K] : List Bool)
def more (K : PySem.W.Frag) : Bool := (fl K).all id
def chk : PySem.W.Frag → Bool := chkX gl more
abbrev R : PySem.W.OpenRow := PySem.W.OpenLaw.row PySem.Challenge.rw_termshelf_k02_letters_and_numbers
abbrev hk : PySem.W.Hook := hookX 6 chk fn
def ob (s : PySem.W.SharedT) : He.AlD := obsX 6 chk fn (HandSHeadRun.getT s)
def loose : List PySem.Str := (["TermError", "NoName", "NoLetter", "NoNumber", "FIGURES", "CAPITALS", "MOST_FIGURES", "MOST_PLAIN", "LAST_LETTER", "is_whole", "number_in", "is_letter", "letter_rank", "normal_letter", "_law_cell", "_law_bag", "_law_take", "_law_whole", "_law_very", "_law_any", "_law_letter", "_law_near", "_law_shown", "_law_kind", "_law_refused", "_law_letters_right", "_law_spoilt", "_law_number_of", "_law_same", "_law_numbers_right"] : List PySem.Str)
theorem run (w : World) : HandSHeadRun.RunEq R (PySem.W.view R.prog [33]) hk ob 6000 loose w := by
  intro os
  kernel_rfl
theorem facts {w : World} {K : PySem.W.Frag} {h : Heap} {mg : Str → Option Value} {f : Addr} (X : K.In h) (G : h.Ns mainGlobals mg) (hfa : mg ("law" : Str) = some (.ref f)) (c : chk K = true) (c1 : fn.all (fun d => d.ok K) = true)
    (c2 : fn.map (fun d => He.fnW K d.at_) = fn.map He.DefD.val) : LawAt PySem.Challenge.rw_termshelf_k02_letters_and_numbers w mg 9 63 "_law_script" h f K := by
  obtain ⟨ca, cb⟩ := He.ba c
  obtain ⟨cs, cbt⟩ := He.ba ca
  obtain ⟨cg, cm⟩ := He.ba cb
  have fx : ∀ (i : Nat) (b : Bool), (fl K)[i]? = some b → b = true := fun i b hb => List.all_eq_true.mp cm b (List.mem_of_getElem? hb)
  have Y := sysB_ok cs
  have bt := bt_of X G cbt
  have g : ∀ (x : Str), x ∈ gl → (He.Fa.glo x).ok K = true := fun x hx => List.all_eq_true.mp cg x hx
  have gg : ∀ (x : Str), x ∈ gl → mg x = some (.ref (He.ga K x)) := fun x hx => He.glo_ok X G (g x hx)
  have D : ∀ {x : Str} {st : Stmt} (i : Nat), fn[i]? = some (defD x st) → x ∈ gl → Def K mg x st := fun i hi hx => def_of X G c1 c2 i hi (g _ hx)
  have d_is_whole : Def K mg "is_whole" s_is_whole := D 0 rfl (by decide +kernel)
  have d_number_in : DefK K mg "number_in" s_number_in [("low", .int 0), ("high", .int 9999)] := defK_of X G c1 c2 1 rfl (g _ (by decide +kernel))
  have d_is_letter : Def K mg "is_letter" s_is_letter := D 2 rfl (by decide +kernel)
  have d_letter_rank : Def K mg "letter_rank" s_letter_rank := D 3 rfl (by decide +kernel)
  have d_normal_letter : Def K mg "normal_letter" s_normal_letter := D 4 rfl (by decide +kernel)
  have d__law_cell : Def K mg "_law_cell" s__law_cell := D 5 rfl (by decide +kernel)
  have d__law_bag : Def K mg "_law_bag" s__law_bag := D 6 rfl (by decide +kernel)
  have d__law_take : Def K mg "_law_take" s__law_take := D 7 rfl (by decide +kernel)
  have d__law_whole : Def K mg "_law_whole" s__law_whole := D 8 rfl (by decide +kernel)
  have d__law_very : Def K mg "_law_very" s__law_very := D 9 rfl (by decide +kernel)
  have d__law_any : Def K mg "_law_any" s__law_any := D 10 rfl (by decide +kernel)
  have d__law_letter : Def K mg "_law_letter" s__law_letter := D 11 rfl (by decide +kernel)
  have d__law_near : Def K mg "_law_near" s__law_near := D 12 rfl (by decide +kernel)
  have d__law_shown : Def K mg "_law_shown" s__law_shown := D 13 rfl (by decide +kernel)
  have d__law_kind : Def K mg "_law_kind" s__law_kind := D 14 rfl (by decide +kernel)
  have d__law_refused : Def K mg "_law_refused" s__law_refused := D 15 rfl (by decide +kernel)
  have d__law_letters_right : Def K mg "_law_letters_right" s__law_letters_right := D 16 rfl (by decide +kernel)
  have d__law_spoilt : Def K mg "_law_spoilt" s__law_spoilt := D 17 rfl (by decide +kernel)
  have d__law_number_of : Def K mg "_law_number_of" s__law_number_of := D 18 rfl (by decide +kernel)
  have d__law_same : Def K mg "_law_same" s__law_same := D 19 rfl (by decide +kernel)
  have d__law_numbers_right : Def K mg "_law_numbers_right" s__law_numbers_right := D 20 rfl (by decide +kernel)
  have d_law : Def K mg "law" s_law := D 21 rfl (by decide +kernel)
  have d_NoLetter___init__ : DefM K (He.ma K (He.ga K "NoLetter") "__init__") "__init__" "NoLetter.__init__" s_NoLetter___init__ := meth_of c1 c2 22 rfl
  have d_NoNumber___init__ : DefM K (He.ma K (He.ga K "NoNumber") "__init__") "__init__" "NoNumber.__init__" s_NoNumber___init__ := meth_of c1 c2 23 rfl
  have g_TermError := gg "TermError" (by decide +kernel)
  have g_NoName := gg "NoName" (by decide +kernel)
  have g_NoLetter := gg "NoLetter" (by decide +kernel)
  have g_NoNumber := gg "NoNumber" (by decide +kernel)
  have fam := famB_ok (fx 0 _ rfl)
  have x_NoLetter := ownB_ok (fx 1 _ rfl)
  have x_NoNumber := ownB_ok (fx 2 _ rfl)
  obtain ⟨fL, fdL, FL, mL⟩ := id d_law
  have e := hfa.symm.trans mL
  cases e
  have b := FunD.bindsA (ps := ["_law_script"]) FL fun _ _ _ _ _ _ us hl => match us, hl with | [_], _ => rfl
  refine ⟨X, fdL, spLaw K, fun s v => b s [v] rfl, fun H a ns hl _ hS => ⟨a, ns, rfl, hS, hl, fun _ => rfl⟩, fun base _ _ => ?_⟩
  have p_take := ok_take (P := PySem.Challenge.rw_termshelf_k02_letters_and_numbers.prog) (w := w) (base := base) d__law_take
  have p_whole := ok_is_whole (P := PySem.Challenge.rw_termshelf_k02_letters_and_numbers.prog) (w := w) (base := base) bt d_is_whole
  have i_NoLetter := ok_NoLetter_ini (P := PySem.Challenge.rw_termshelf_k02_letters_and_numbers.prog) (w := w) (base := base) fam g_TermError x_NoLetter d_NoLetter___init__
  have i_NoNumber := ok_NoNumber_ini (P := PySem.Challenge.rw_termshelf_k02_letters_and_numbers.prog) (w := w) (base := base) fam g_TermError x_NoNumber d_NoNumber___init__
  have f_num := ok_number_in (P := PySem.Challenge.rw_termshelf_k02_letters_and_numbers.prog) (w := w) (base := base) bt (He.int_ok X G (fx 15 _ rfl)) (He.str_ok X G (fx 18 _ rfl)) d_number_in
  have p_high : PromK PySem.Challenge.rw_termshelf_k02_letters_and_numbers.prog w K mg base 1 "number_in" ["thing", "low", "high"] (spNumIn K) 1 ["high"] (fun vs zs => vs ++ ([V.int 0] ++ zs)) := f_num.call 1 ["high"] [("low", .int 0)] (fun us mv ws => us ++ (mv ++ ws)) (by decide) (fun q hq => by simp_all) (fun r1 r2 r3 => r1.append (r2.append r3)) (fun D doc pm an cdv ct us mv ws l1 l2 l3 => match us, l1, mv, l2, ws, l3 with | [_], _, [_], _, [_], _ => ⟨_, _, _, _, _, _, rfl, rfl, rfl⟩)
  have p_low : PromK PySem.Challenge.rw_termshelf_k02_letters_and_numbers.prog w K mg base 1 "number_in" ["thing", "low", "high"] (spNumIn K) 1 ["low"] (fun vs zs => vs ++ (zs ++ [V.int 9999])) := f_num.call 1 ["low"] [("high", .int 9999)] (fun us mv ws => us ++ (ws ++ mv)) (by decide) (fun q hq => by simp_all) (fun r1 r2 r3 => r1.append (r3.append r2)) (fun D doc pm an cdv ct us mv ws l1 l2 l3 => match us, l1, mv, l2, ws, l3 with | [_], _, [_], _, [_], _ => ⟨_, _, _, _, _, _, rfl, rfl, rfl⟩)
  have p_both : PromK PySem.Challenge.rw_termshelf_k02_letters_and_numbers.prog w K mg base 1 "number_in" ["thing", "low", "high"] (spNumIn K) 1 ["high", "low"] (fun vs zs => vs ++ zs.reverse) := f_num.call 1 ["high", "low"] [] (fun us mv ws => us ++ ws.reverse) (by decide) (fun q hq => by simp_all) (fun r1 r2 r3 => r1.append (vals_rev r3)) (fun D doc pm an cdv ct us mv ws l1 l2 l3 => match us, l1, mv, l2, ws, l3 with | [_], _, [], _, [_, _], _ => rfl)
  have p_thing : PromK PySem.Challenge.rw_termshelf_k02_letters_and_numbers.prog w K mg base 1 "number_in" ["thing", "low", "high"] (spNumIn K) 0 ["thing"] (fun vs zs => zs ++ [V.int 0, V.int 9999]) := f_num.call 0 ["thing"] [("low", .int 0), ("high", .int 9999)] (fun us mv ws => ws ++ mv) (by decide) (fun q hq => by simp_all) (fun r1 r2 r3 => r3.append r2) (fun D doc pm an cdv ct us mv ws l1 l2 l3 => match us, l1, mv, l2, ws, l3 with | [], _, [_, _], _, [_], _ => ⟨_, _, _, _, _, _, rfl, rfl, _, _, _, _, _, _, rfl, rfl, rfl⟩)
  have p_let := ok_is_letter bt (He.str_ok X G (fx 19 _ rfl)) (He.int_ok X G (fx 16 _ rfl)) p_high d_is_letter
  have p_rank := ok_rank bt (He.int_ok X G (fx 16 _ rfl)) g_NoLetter x_NoLetter i_NoLetter p_high p_let d_letter_rank
  have p_norm := ok_normal bt (He.int_ok X G (fx 16 _ rfl)) g_NoNumber x_NoNumber i_NoNumber p_whole d_normal_letter
  have p_any := ok_any p_take d__law_any
  have p_very := ok_very (P := PySem.Challenge.rw_termshelf_k02_letters_and_numbers.prog) (w := w) (base := base) Y bt d__law_very
  have p_lt := ok_let p_take d__law_letter
  have p_near := ok_near bt p_take d__law_near
  have p_shown := ok_shown (P := PySem.Challenge.rw_termshelf_k02_letters_and_numbers.prog) (w := w) (base := base) bt d__law_shown
  have p_kind := ok_kind (P := PySem.Challenge.rw_termshelf_k02_letters_and_numbers.prog) (w := w) (base := base) bt g_NoLetter g_NoNumber g_NoName g_TermError d__law_kind
  have k_NoLetter : KindOf K (He.ga K "NoLetter") "letter" := ⟨(fx 3 _ rfl), ((of_decide_eq_true (fx 4 _ rfl)).trans (by decide +kernel)), ((of_decide_eq_true (fx 5 _ rfl)).trans (by decide +kernel)), (of_decide_eq_true (fx 6 _ rfl)), (of_decide_eq_true (fx 7 _ rfl)), .inl rfl⟩
  have k_NoNumber : KindOf K (He.ga K "NoNumber") "number" := ⟨(fx 9 _ rfl), ((of_decide_eq_true (fx 10 _ rfl)).trans (by decide +kernel)), ((of_decide_eq_true (fx 11 _ rfl)).trans (by decide +kernel)), (of_decide_eq_true (fx 12 _ rfl)), (of_decide_eq_true (fx 13 _ rfl)), .inr rfl⟩
  have p_refused := ok_refused bt g_NoLetter g_NoNumber x_NoLetter x_NoNumber k_NoLetter k_NoNumber (of_decide_eq_true (fx 8 _ rfl)) (of_decide_eq_true (fx 14 _ rfl)) p_rank p_norm p_kind p_very d__law_refused
  have p_lright := ok_lright bt p_take p_lt p_near p_shown p_rank p_norm p_refused d__law_letters_right
  have p_spoilt := ok_spoilt bt p_take d__law_spoilt
  have p_lwhole := ok_lwhole (P := PySem.Challenge.rw_termshelf_k02_letters_and_numbers.prog) (w := w) (base := base) bt d__law_whole
  have p_same := ok_lsame bt p_lwhole d__law_same
  have p_numof := ok_numof (P := PySem.Challenge.rw_termshelf_k02_letters_and_numbers.prog) (w := w) (base := base) bt d__law_number_of
  have p_nright := ok_nright bt (He.int_ok X G (fx 17 _ rfl)) p_take p_spoilt p_any p_numof p_same p_both p_high p_low p_thing d__law_numbers_right
  exact ok_law bt (ok_cell bt d__law_cell) (ok_bag bt d__law_bag) p_lright p_nright FL

end TS
open PySem PySem.W PySem.Calls PyProof.Rows
set_option maxHeartbeats 0 in
theorem PySem.Challenge.cw_termshelf_k02_letters_and_numbers_holds : PySem.Challenge.rw_termshelf_k02_letters_and_numbers.Holds := by
  w_on; o_law
  refine HandSHeadRun.head_any (r := OpenLaw.row PySem.Challenge.rw_termshelf_k02_letters_and_numbers) (q := view (OpenLaw.row PySem.Challenge.rw_termshelf_k02_letters_and_numbers).prog [33]) (H := TS.hk) (ob := TS.ob) (M := 6000) (loose := TS.loose) (d := HandSHeadRun.topDef (OpenLaw.row PySem.Challenge.rw_termshelf_k02_letters_and_numbers).prog 33) (kwd := []) TS.obsX_eq
    (by kernel_rfl) (fun s => by kernel_rfl) TS.run (by kernel_rfl) (by kernel_rfl) (by kernel_rfl) (by rfl) (by first | assumption | decide +kernel) (by decide +kernel) ⟨rfl, rfl, rfl, rfl, rfl, by decide +kernel⟩ ?hw ?hc
  case hw => w_witness2
  case hc =>
    refine TS.walkG (l := PySem.Challenge.rw_termshelf_k02_letters_and_numbers) (n := 63) (k := 9) (x := "_law_script") rfl (by decide) (by kernel_rfl) ⟨rfl, by decide, by decide⟩ ?F
    intro w mg fa h Y G hmg0
    obtain ⟨K, KX, c, c1, c2⟩ := Y
    have hmg : mg ("law" : PySem.Str) = some (.ref fa) := by
      have e : (HandSHeadRun.topDef (OpenLaw.row PySem.Challenge.rw_termshelf_k02_letters_and_numbers).prog 33).name = ("law" : PySem.Str) := by kernel_rfl
      rw [← e]
      exact hmg0
    exact ⟨K, TS.facts KX G hmg c c1 c2⟩

