import PyProof.Rows.All
import Wide.All
import OpenK.AllK
import Wide.FinOn
import KE.KStateDown
import Lean
import HandS.ForMost
import HandS.More
import HandS.WordsExc
import HandS.Defaults
import HandS.IsInst
import HandS.Wide
import HandS.Flow
import HandS.Conv
import HandS.Replace
import HandS.EndBits
import HandS.Head0
import HandS.Head1
import HandS.Head2
import HandS.HeadEnd
import HandS.HeadHook1
import HandS.HeadHook2
import HandS.Walk
import HandS.SetBool
import HandS.SetKeys
import KE.GoesMore
import PyProof.EnumMake
import HandS.ExcInit
import HandS.ExcField
import HandS.ExcOwn
import HandS.ClsMeth
import HandS.DictComp
import HandS.WordsDict
import PyProof.ReprLen
import HandS.MakeKwOnly
import HandS.OwnEq
import HandS.ListItems
import HandS.IterVal
import HandS.ExcValue
import KE.KExcIs
import PyProof.InstEq
import PyProof.EqKinds
import PyProof.FactsAll.dict
import KE.KCallOwn
import HandS.FStr
import HandS.TupLe
import HandS.StrMore
import HandS.Zip
import PyProof.FString5
import KE.IntTextLaws
import HandS.TupAny
import HandS.Style
import HandS.TupMul
import PySem.Challenge.RW_termshelf_k07_terms_told
set_option Elab.async false
set_option linter.all false
set_option maxRecDepth 100000
/-! ### 1. promises of defs that may show things (repr): no guard runs around -/
namespace TS
open PySem PySem.Spec PyProof.Rows L2
structure FnG (P : Program) (w : World) (K : PySem.W.Frag) (mg : Str → Option Value) (base : Heap) (CX : CXT) (k : Nat) (f : Addr) (fd : FuncData) (ps : List Str) (sp : Sp) : Prop where
  len : ∀ vs H Q E, sp vs H Q E → vs.length = ps.length
  run : ∀ (A : Around) (outer : List Env) (s : Shared) (H : Hp) (args : Args) (us : List Value) (vs : List V) (Q : VK) (E : XK), A.guards = some [] → Room k A → Env0 P w K mg base A outer s H →
    BindsTo s fd args (ps.zip us) → Vals vs us → sp vs H Q E → codeAny (model P w) A (.call (.ref f) args) (CR CX outer P w H s Q E) s
section
variable {P : Program} {w : World} {K : PySem.W.Frag} {mg : Str → Option Value} {base : Heap} {CX : CXT} {k : Nat} {f : Addr} {fd : FuncData} {ps : List Str} {sp : Sp}
theorem FnG.of (F : FnOk P w K mg base CX k f fd ps sp) : FnG P w K mg base CX k f fd ps sp := ⟨F.len, fun A outer s H args us vs Q E _ => F.run A outer s H args us vs Q E⟩
/-- the body's rule, the guards told -/
theorem okG {x qual : Str} {params : Arguments} {body : List Stmt} {scope : Scope} {dvs : List V} {kws : List (Str × V)} {N : List Str} (F : FunD K x qual params body scope dvs kws f fd) (S : FnScope N ps scope)
    (len : ∀ vs H Q E, sp vs H Q E → vs.length = ps.length)
    (hbody : ∀ (cdv : Value) (A : Around) (outer : List Env) (s : Shared) (H : Hp) (vs : List V) (Q : VK) (E : XK), (A.deeper (envOfC qual scope s.heap.objs.size f cdv)).guards = some [] →
      Room k (A.deeper (envOfC qual scope s.heap.objs.size f cdv)) → sp vs H Q E →
      ∃ t, PSs (cxOf CX P w K mg base N qual scope f cdv A outer s H E) body t ∧ t { nx := fun _ H' => Q .non H', rt := Q } (start N vs) H) : FnG P w K mg base CX (k + 1) f fd ps sp := by
  obtain ⟨oc, od, dV, kV, doc, pm, an, cdv, ct, osl, rfl, lk, hcd, _, _⟩ := F.ex
  refine ⟨len, fun A outer s H args us vs Q E hg hr e0 hb r hsp => ?_⟩
  have KX : K.In s.heap := e0.mod.kin.keeps fun b o e => (e0.bs b o e).1
  have NL : s.heap.NoLimit := e0.mod.nolimit.keeps fun b o e => (e0.bs b o e).1
  have kinds : ∀ y ∈ ps.zip us, scope.names.lookup y.1 = some .local ∨ (scope.names.lookup y.1 = some .cell ∧ ((cellsFrom (s.heap.objs.size + 1) scope.names []).lookup y.1).isSome = true) := by
    rintro ⟨n, v⟩ hy
    exact (S.par n (List.of_mem_zip hy).1).imp id fun q => ⟨q, PySem.W.cellsFrom_some _ _ _ (.inl q)⟩
  refine codeAny_call_function hr.depth (KX _ _ lk) rfl S.co S.gen rfl (PySem.W.codeRec_of KX hcd) (hb _ _ _ _ (wpAny_newFunctionEnv_cells S.kind kinds fun env he s1 x => ?_))
  subst he
  obtain ⟨t, ht, hq⟩ := hbody cdv A outer s H vs Q E hg (hr.deeper _) hsp
  have I0 := inv_start (CX := CX) (E := E) (f := f) (cd := cdv) (qual := qual) S hr.hd e0 (len _ _ _ _ hsp) r x
  refine ⟨NL.keeps x.toInCall.keep, codeAny_func (wpAny_mono (ht.run [] s1 (start N vs) H _ I0 hq) (fun fl s' hs => ?_) fun _ _ z => z)⟩
  cases fl with
  | ret u => exact let ⟨v, _, H', J, rv, q⟩ := hs; ⟨v, H', J.os, J.bare, J.base, J.hok, rv, q⟩
  | next => exact let ⟨_, H', J, q⟩ := hs; ⟨V.non, H', J.os, J.bare, J.base, J.hok, rfl, q⟩
  | brk => exact let ⟨_, _, _, q⟩ := hs; False.elim q
  | cont => exact let ⟨_, _, _, q⟩ := hs; False.elim q
end
section
variable {X : Cx} {CX : CXT} {k : Nat} {f C : Addr} {fd : FuncData} {ps : List Str} {sp : Sp} {dvs : List V} {ds : List Value} {E : XK} {x m : Str} {p pos apos : Pos} {e o : Expr} {es : List Expr} {ta : TE} {t : TA}
theorem run_G {pins : List (Addr × Obj)} {σ : L2.St} {H : Hp} {s : Shared} {Q : VK} {us : List Value} {vs : List V} (F : FnG X.prog X.w X.K X.mg X.base CX k f fd ps sp) (hgd : X.A.guards = some []) (hr : Room k X.A)
    (hb : Binds X.K fd ps ds) (hd : Vals dvs ds) (hx : Passes CX X E) (I : Inv X pins σ H s) (r : Vals vs us) (h : sp (vs ++ dvs) H Q E) : wpAny (model X.prog X.w) X.A (call (.ref f) us) (EP X pins σ Q) X.xe s := by
  have r2 := r.append hd
  have hl : (us ++ ds).length = ps.length := r2.length.symm.trans (F.len _ _ _ _ h)
  refine wpAny_call (codeAny_mono (F.run X.A X.stack s H ⟨us, []⟩ (us ++ ds) (vs ++ dvs) Q E hgd hr I.env0 (hb s us I.kIn hl) r2 h) fun r s' hq => ?_)
  match r, hq with
  | .error e, hq => exact hx pins σ H s e s' I hq
  | .ok (.ret u), hq => exact I.after hq
theorem pe_callG (F : FnG X.prog X.w X.K X.mg X.base CX k f fd ps sp) (hgd : X.A.guards = some []) (hr : Room k X.A) (hg : Gl X x) (hm : X.mg x = some (.ref f)) (hk : PySem.W.keepIn X.K (.ref f) = true)
    (hb : Binds X.K fd ps ds) (hd : Vals dvs ds) (hx : Passes CX X E) (ha : PA X (e :: es) t) (hdb : (x == ("__debug__" : Str)) = false := by decide)
    (he : starEach (e :: es) X.env = (false, eval e X.env) :: starEach es X.env := by rfl) (hpl : (backTo pos (starEach es X.env)).any (·.1) = false := by rfl) :
    PE X (.Call (.Name x p) (e :: es) [] pos) (tCall sp dvs E t) := by
  refine ⟨fun pins s σ H Q I h => wpAny_Call_Name_kw (ld_glob I hg hm ?_ hdb)⟩
  exact PySem.W.callWith_K (h₀ := X.base) I.ok.mod.kin hk (thn (ha.run pos pins s σ H _ I h) fun us s1 ⟨vs, H1, I1, r, q⟩ => ⟨I1.kIn, run_G F hgd hr hb hd hx I1 r q⟩) he hpl
end

/-! ### 2. data at any depth, dicts too, and how they are shown -/
def kD : Key → PyData
  | .inl i => .int i
  | .inr x => .str x
mutual
inductive Dt (K : PySem.W.Frag) (H : Hp) : V → PyData → Prop
  | non : Dt K H .non .none
  | bl (b : Bool) : Dt K H (.bl b) (.bool b)
  | int (i : Int) : Dt K H (.int i) (.int i)
  | str (x : Str) : Dt K H (.str x) (.str x)
  | lst {a : Addr} {xs : List V} {ds : List PyData} : SqL K H a xs → DtAll K H xs ds → Dt K H (.ref a) (.list ds)
  | tup {a : Addr} {xs : List V} {ds : List PyData} : SqT K H a xs → DtAll K H xs ds → Dt K H (.ref a) (.tuple ds)
  | dct {a : Addr} {ks : List Key} {xs : List V} {ds : List PyData} : H a = some (.dK (ks.zip xs)) → ks.length = xs.length → DtAll K H xs ds → Dt K H (.ref a) (.dict ((ks.map kD).zip ds))
inductive DtAll (K : PySem.W.Frag) (H : Hp) : List V → List PyData → Prop
  | nil : DtAll K H [] []
  | cons {v : V} {vs : List V} {d : PyData} {ds : List PyData} : Dt K H v d → DtAll K H vs ds → DtAll K H (v :: vs) (d :: ds)
end
theorem DtAll.length {K : PySem.W.Frag} {H : Hp} : ∀ {vs : List V} {ds : List PyData}, DtAll K H vs ds → vs.length = ds.length
  | _, _, .nil => rfl
  | _, _, .cons _ t => congrArg (· + 1) (DtAll.length t)
theorem SqT.same {K : PySem.W.Frag} {H H' : Hp} {a : Addr} {xs : List V} (e : Same H H') (h : SqT K H a xs) : SqT K H' a xs := by
  rcases h with (h | ⟨o, h⟩) | h
  · exact .inl (.inl (e _ _ h))
  · exact .inl (.inr ⟨o, e _ _ h⟩)
  · exact .inr h
mutual
theorem Dt.same {K : PySem.W.Frag} {H H' : Hp} (e : Same H H') : ∀ {v : V} {d : PyData}, Dt K H v d → Dt K H' v d
  | _, _, .non => .non
  | _, _, .bl b => .bl b
  | _, _, .int i => .int i
  | _, _, .str x => .str x
  | _, _, .lst h a => .lst (e.seq h) (DtAll.same e a)
  | _, _, .tup h a => .tup (SqT.same e h) (DtAll.same e a)
  | _, _, .dct h l a => .dct (e _ _ h) l (DtAll.same e a)
theorem DtAll.same {K : PySem.W.Frag} {H H' : Hp} (e : Same H H') : ∀ {v : List V} {d : List PyData}, DtAll K H v d → DtAll K H' v d
  | _, _, .nil => .nil
  | _, _, .cons a b => .cons (Dt.same e a) (DtAll.same e b)
end
/-- what the written part tells of the machine's own objects -/
structure Sys (K : PySem.W.Frag) : Prop where
  mods : ∃ o, K.lookup sysModules = some o ∧ o.cls = .type "dict"
  book : PySem.W.nsIn K cStatics sharingNotToldKey = some none
section
variable {X : Cx} {pins : List (Addr × Obj)} {σ : L2.St} {H : Hp} {s : Shared}
theorem noMods (Y : Sys X.K) (I : Inv X pins σ H s) {a : Addr} {o : Obj} (e : s.heap.get? a = some o) (h : o.cls ≠ .type "dict") : sysModules ≠ a := fun z => by
  obtain ⟨o', h1, h2⟩ := Y.mods
  have q := I.kIn _ _ h1
  rw [z, e] at q
  cases q
  exact h h2
theorem keys_read : ∀ {es : List DictEntry} {vs : List (Key × Value)}, Pairs (mixKind X.prog X.w) es vs → ReadsAll s.heap (es.map (·.key)) (vs.map fun kv => kD kv.1) []
  | _, _, .nil => .nil
  | _, _, .cons hk hv t => by
    have q := keys_read t
    rcases keyIs_shape hk with ⟨i, t, e1, e2⟩ | ⟨x, t, e1, e2⟩
    · rw [List.map_cons, List.map_cons, e2]
      show ReadsAll s.heap _ (kD _ :: _) _
      rw [e1]
      exact ReadsAll.cons (as := []) (Reads.int i t) q
    · rw [List.map_cons, List.map_cons, e2]
      show ReadsAll s.heap _ (kD _ :: _) _
      rw [e1]
      exact ReadsAll.cons (as := []) (Reads.str x t) q
theorem vals_read : ∀ {es : List DictEntry} {vs : List (Key × Value)}, Pairs (mixKind X.prog X.w) es vs → es.map (·.val) = vs.map (·.2)
  | _, _, .nil => rfl
  | _, _, .cons _ hv t => by rw [List.map_cons, List.map_cons, hv, vals_read t]
theorem kv_fst {κ : Type} : ∀ {kvs : List (κ × V)} {vs : List (κ × Value)}, KV kvs vs → kvs.map (·.1) = vs.map (·.1)
  | _, _, .nil => rfl
  | _, _, .cons r t => by rw [List.map_cons, List.map_cons, r.1, kv_fst t]
theorem kv_snd {κ : Type} : ∀ {kvs : List (κ × V)} {vs : List (κ × Value)}, KV kvs vs → Vals (kvs.map (·.2)) (vs.map (·.2))
  | _, _, .nil => .nil
  | _, _, .cons r t => .cons r.2 (kv_snd t)
theorem zip_fst {α β : Type} : ∀ {l : List α} {m : List β}, l.length = m.length → (l.zip m).map (·.1) = l
  | [], _, _ => by simp
  | a :: l, [], h => by simp at h
  | a :: l, b :: m, h => by
    rw [List.zip_cons_cons, List.map_cons, zip_fst (by simpa using h)]
theorem zip_snd {α β : Type} : ∀ {l : List α} {m : List β}, l.length = m.length → (l.zip m).map (·.2) = m
  | [], m, h => by cases m <;> simp_all
  | a :: l, [], h => by simp
  | a :: l, b :: m, h => by
    rw [List.zip_cons_cons, List.map_cons, zip_snd (by simpa using h)]
mutual
theorem Dt.reads (Y : Sys X.K) (I : Inv X pins σ H s) : ∀ {v : V} {d : PyData} {u : Value}, Dt X.K H v d → RelV v u → ∃ as, Reads s.heap u d as ∧ sysModules ∉ as
  | _, _, _, .non, r => by
    cases r
    exact ⟨_, Reads.none, by simp⟩
  | _, _, _, .bl b, r => by
    cases r
    exact ⟨_, Reads.bool b, by simp⟩
  | _, _, _, .int i, r => by
    obtain ⟨t, rfl⟩ := r
    exact ⟨_, Reads.int i t, by simp⟩
  | _, _, _, .str x, r => by
    obtain ⟨t, rfl⟩ := r
    exact ⟨_, Reads.str x t, by simp⟩
  | _, _, _, .lst hs ha, r => by
    cases r
    obtain ⟨its, rv, ⟨o, n, ho, hc, _, hd⟩, _⟩ := I.list hs
    obtain ⟨as, hr, hn⟩ := DtAll.reads Y I ha rv
    have ne := noMods Y I ho (by rw [hc]; decide +kernel)
    exact ⟨_, Reads.list ho hc hd hr, fun z => (List.mem_cons.mp z).elim ne hn⟩
  | _, _, _, .tup hs ha, r => by
    cases r
    obtain ⟨its, rv, ⟨o, ho, hc, n, hd⟩, _⟩ := I.tuple hs
    obtain ⟨as, hr, hn⟩ := DtAll.reads Y I ha rv
    exact ⟨_, Reads.tuple ho hc hd hr, hn⟩
  | _, _, _, .dct (a := a) (ks := ks) (xs := xs) (ds := ds) h l ha, r => by
    cases r
    obtain ⟨hz, hS, vs, rk, o, es, ep, ho, hx, hd, _, hp, _⟩ := (show ObjOk X.prog X.w H s.heap a (.dK (ks.zip xs)) from I.hok a _ h)
    have e1 := (kv_fst rk).symm.trans (zip_fst l)
    have e2 := kv_snd rk
    rw [zip_snd l] at e2
    obtain ⟨as, hr, hn⟩ := DtAll.reads Y I ha e2
    have q1 : ReadsAll s.heap (es.toList.map (·.key)) (ks.map kD) [] := by
      have z := keys_read (s := s) hp
      have z2 : vs.map (fun kv => kD kv.1) = ks.map kD := by rw [← e1, List.map_map]; rfl
      rw [z2] at z
      exact z
    have ln : (ks.map kD).length = ds.length := by rw [List.length_map, l, ha.length]
    have q2 := vals_read hp
    refine ⟨a :: [] ++ as, Reads.dict ho hx.1 hd (by rw [zip_fst ln]; exact q1) (by rw [zip_snd ln, q2]; exact hr), fun z => ?_⟩
    rcases List.mem_cons.mp (show sysModules ∈ a :: as from z) with z | z
    · exact absurd z.symm (by simpa using hS)
    · exact hn z
theorem DtAll.reads (Y : Sys X.K) (I : Inv X pins σ H s) : ∀ {vs : List V} {ds : List PyData} {us : List Value}, DtAll X.K H vs ds → Vals vs us → ∃ as, ReadsAll s.heap us ds as ∧ sysModules ∉ as
  | _, _, _, .nil, r => by
    cases r
    exact ⟨_, ReadsAll.nil, by simp⟩
  | _, _, _, .cons h1 h2, r => by
    cases r with
    | cons r1 r2 =>
      obtain ⟨as, q1, n1⟩ := Dt.reads Y I h1 r1
      obtain ⟨bs, q2, n2⟩ := DtAll.reads Y I h2 r2
      exact ⟨_, ReadsAll.cons q1 q2, fun z => (List.mem_append.mp z).elim n1 n2⟩
end
/-- repr(x), x data -/
def rRepr (K : PySem.W.Frag) : List V → Hp → VK → Prop := fun xs H Q => ∃ x d, xs = [x] ∧ Dt K H x d ∧ d.showable = true ∧ d.depth ≤ 40 ∧ d.shown.length ≤ sizeLine ∧ Q (.str d.shown) H
theorem call_repr (Y : Sys X.K) (hgd : X.A.guards = some []) (hu : X.A.units + 64 < cLine) : CallR X (.builtin "repr") (rRepr X.K) := by
  intro pins s σ H xs us Q I r h
  obtain ⟨x, d, rfl, hd, hs, hp, hz, q⟩ := h
  obtain ⟨u, rfl, r1⟩ := vals1 r
  obtain ⟨as, rd, hn⟩ := Dt.reads Y I hd r1
  have fin : ∀ h' v tk, (∀ b o, s.heap.get? b = some o → h'.get? b = some o) → EP X pins σ Q (.str d.shown v) { s with heap := h', toks := tk } := fun h' v tk hk => ⟨.str d.shown, H, I.kept hk, ⟨_, rfl⟩, q⟩
  cases hd with
  | non => cases r1; exact PySem.P.repr_of_none (fin _ _ _ fun _ _ z => z)
  | bl b => cases r1; exact PySem.P.repr_of_bool (fin _ _ _ fun _ _ z => z)
  | int i =>
    obtain ⟨t, rfl⟩ := r1
    exact PySem.P.repr_of_int (by simpa [PyData.showable] using hs) (fin _ _ _ fun _ _ z => z)
  | str y =>
    obtain ⟨t, rfl⟩ := r1
    exact PySem.P.repr_of_str (fin _ _ _ fun _ _ z => z) hz
  | lst h1 h2 => cases r1; exact repr_of_reads' rd hs (fun _ => hn) hgd (by omega) (fun _ _ e => e) fin hz
  | tup h1 h2 => cases r1; exact repr_of_reads' rd hs (fun _ => hn) hgd (by omega) (fun _ _ e => e) fin hz
  | dct h1 h2 h3 => cases r1; exact repr_of_reads' rd hs (fun _ => hn) hgd (by omega) (fun _ _ e => e) fin hz
theorem ns_none {K : PySem.W.Frag} {h : Heap} {a : Addr} {m : Str → Option Value} {n : Str} (X : K.In h) (G : h.Ns a m) (e : PySem.W.nsIn K a n = some none) : m n = none := by
  obtain ⟨o, es, ep, ho, hd, _, hf⟩ := G
  unfold PySem.W.nsIn at e
  split at e
  · rename_i c d es' n' sl q
    have z := X _ _ q
    rw [ho] at z
    cases z
    cases hd
    split at e
    · cases e
    · rename_i he
      rw [← hf]
      unfold nsFind findBy
      rw [← Array.find?_toList, he]
      rfl
  · cases e
theorem unbooked (Y : Sys X.K) (I : Inv X pins σ H s) : NoneBooked s.heap := by
  obtain ⟨mc, h1, h2⟩ := I.nolimit
  exact ⟨mc, h1, ns_none I.kIn h1 Y.book⟩
end
end TS

/-! ### 3. defs by their promises -/
namespace TS
open PySem PySem.Spec PyProof.Rows L2
def Def (K : PySem.W.Frag) (mg : Str → Option Value) (x : Str) (st : Stmt) : Prop := ∃ f fd, FunD K x x (defArgs st) (defBody st) (defScope st) [] [] f fd ∧ mg x = some (.ref f)
def Prom (P : Program) (w : World) (K : PySem.W.Frag) (mg : Str → Option Value) (base : Heap) (k : Nat) (x : Str) (ps : List Str) (sp : Sp) : Prop :=
  ∃ f fd, FnOk P w K mg base CX0 k f fd ps sp ∧ mg x = some (.ref f) ∧ PySem.W.keepIn K (.ref f) = true ∧ Binds K fd ps []
def PromG (P : Program) (w : World) (K : PySem.W.Frag) (mg : Str → Option Value) (base : Heap) (k : Nat) (x : Str) (ps : List Str) (sp : Sp) : Prop :=
  ∃ f fd, FnG P w K mg base CX0 k f fd ps sp ∧ mg x = some (.ref f) ∧ PySem.W.keepIn K (.ref f) = true ∧ Binds K fd ps []
section
variable {X : Cx} {k : Nat} {ps : List Str} {sp : Sp} {x : Str} {p pos : Pos} {e : Expr} {es : List Expr} {t : TA}
theorem pe_pc (pr : Prom X.prog X.w X.K X.mg X.base k x ps sp) (hr : Room k X.A) (hg : Gl X x) (ha : PA X (e :: es) t) (hdb : (x == ("__debug__" : Str)) = false := by decide)
    (he : starEach (e :: es) X.env = (false, eval e X.env) :: starEach es X.env := by rfl) (hpl : (backTo pos (starEach es X.env)).any (·.1) = false := by rfl) :
    PE X (.Call (.Name x p) (e :: es) [] pos) (tCall sp [] E0 t) := by
  obtain ⟨f, fd, F, m, kp, b⟩ := pr
  exact pe_call F hr hg m kp b .nil pass0 ha hdb he hpl
theorem pe_pcG (pr : PromG X.prog X.w X.K X.mg X.base k x ps sp) (hgd : X.A.guards = some []) (hr : Room k X.A) (hg : Gl X x) (ha : PA X (e :: es) t) (hdb : (x == ("__debug__" : Str)) = false := by decide)
    (he : starEach (e :: es) X.env = (false, eval e X.env) :: starEach es X.env := by rfl) (hpl : (backTo pos (starEach es X.env)).any (·.1) = false := by rfl) :
    PE X (.Call (.Name x p) (e :: es) [] pos) (tCall sp [] E0 t) := by
  obtain ⟨f, fd, F, m, kp, b⟩ := pr
  exact pe_callG F hgd hr hg m kp b .nil pass0 ha hdb he hpl
end
section
variable {P : Program} {w : World} {K : PySem.W.Frag} {mg : Str → Option Value} {base : Heap} {N ps : List Str} {k : Nat} {sp : Sp} {x : Str} {st : Stmt}
theorem prom_mk (D : Def K mg x st) (S : FnScope N ps (defScope st)) (len : ∀ vs H Q E, sp vs H Q E → vs.length = ps.length)
    (hb : ∀ (kV doc pm : Value) (an : Option Addr) (cdv ct : Value) (us : List Value), us.length = ps.length → bindArgs (PySem.W.fnOf x x (defArgs st) (defBody st) (defScope st) .none kV doc pm an cdv ct) ⟨us, []⟩ = pure (ps.zip us))
    (body : ∀ (f : Addr) (cdv : Value) (A : Around) (outer : List Env) (s : Shared) (H : Hp) (vs : List V) (Q : VK) (E : XK), Room k (A.deeper (envOfC x (defScope st) s.heap.objs.size f cdv)) → sp vs H Q E →
      ∃ t, PSs (cxOf CX0 P w K mg base N x (defScope st) f cdv A outer s H E).nox (defBody st) t ∧ t { nx := fun _ H' => Q .non H', rt := Q } (start N vs) H) : Prom P w K mg base (k + 1) x ps sp := by
  obtain ⟨f, fd, F, m⟩ := D
  refine ⟨f, fd, F.ok S len fun cdv A outer s H vs Q E hr h => ?_, m, F.kp, F.bindsN hb⟩
  obtain ⟨t, h1, h2⟩ := body f cdv A outer s H vs Q E hr h
  exact ⟨t, h1.nox, h2⟩
theorem promG_mk (D : Def K mg x st) (S : FnScope N ps (defScope st)) (len : ∀ vs H Q E, sp vs H Q E → vs.length = ps.length)
    (hb : ∀ (kV doc pm : Value) (an : Option Addr) (cdv ct : Value) (us : List Value), us.length = ps.length → bindArgs (PySem.W.fnOf x x (defArgs st) (defBody st) (defScope st) .none kV doc pm an cdv ct) ⟨us, []⟩ = pure (ps.zip us))
    (body : ∀ (f : Addr) (cdv : Value) (A : Around) (outer : List Env) (s : Shared) (H : Hp) (vs : List V) (Q : VK) (E : XK), (A.deeper (envOfC x (defScope st) s.heap.objs.size f cdv)).guards = some [] →
      Room k (A.deeper (envOfC x (defScope st) s.heap.objs.size f cdv)) → sp vs H Q E →
      ∃ t, PSs (cxOf CX0 P w K mg base N x (defScope st) f cdv A outer s H E).nox (defBody st) t ∧ t { nx := fun _ H' => Q .non H', rt := Q } (start N vs) H) : PromG P w K mg base (k + 1) x ps sp := by
  obtain ⟨f, fd, F, m⟩ := D
  refine ⟨f, fd, okG F S len fun cdv A outer s H vs Q E hg hr h => ?_, m, F.kp, F.bindsN hb⟩
  obtain ⟨t, h1, h2⟩ := body f cdv A outer s H vs Q E hg hr h
  exact ⟨t, h1.nox, h2⟩
end
section
variable {P : Program} {w : World} {K : PySem.W.Frag} {mg : Str → Option Value} {base : Heap} {N ps : List Str} {k : Nat} {sp : Sp} {x : Str} {st : Stmt} {f : Addr} {fd : FuncData}
theorem fnG_mk (F : FunD K x x (defArgs st) (defBody st) (defScope st) [] [] f fd) (S : FnScope N ps (defScope st)) (len : ∀ vs H Q E, sp vs H Q E → vs.length = ps.length)
    (body : ∀ (f : Addr) (cdv : Value) (A : Around) (outer : List Env) (s : Shared) (H : Hp) (vs : List V) (Q : VK) (E : XK), (A.deeper (envOfC x (defScope st) s.heap.objs.size f cdv)).guards = some [] →
      Room k (A.deeper (envOfC x (defScope st) s.heap.objs.size f cdv)) → sp vs H Q E →
      ∃ t, PSs (cxOf CX0 P w K mg base N x (defScope st) f cdv A outer s H E).nox (defBody st) t ∧ t { nx := fun _ H' => Q .non H', rt := Q } (start N vs) H) : FnG P w K mg base CX0 (k + 1) f fd ps sp := by
  refine okG F S len fun cdv A outer s H vs Q E hg hr h => ?_
  obtain ⟨t, h1, h2⟩ := body f cdv A outer s H vs Q E hg hr h
  exact ⟨t, h1.nox, h2⟩
end
/-- the built-in names that the text leaves alone -/
structure Bt (mg : Str → Option Value) : Prop where
  len_ : mg "len" = none
  isinstance_ : mg "isinstance" = none
  range_ : mg "range" = none
  max_ : mg "max" = none
  min_ : mg "min" = none
  int_ : mg "int" = none
  str_ : mg "str" = none
  bool_ : mg "bool" = none
  repr_ : mg "repr" = none
  all_ : mg "all" = none
  any_ : mg "any" = none
  list_ : mg "list" = none
  tuple_ : mg "tuple" = none
  dict_ : mg "dict" = none
  set_ : mg "set" = none
  sorted_ : mg "sorted" = none
  enumerate_ : mg "enumerate" = none
  zip_ : mg "zip" = none
  reversed_ : mg "reversed" = none
def btNames : List Str := ["len", "isinstance", "range", "max", "min", "int", "str", "bool", "repr", "all", "any", "list", "tuple", "dict", "set", "sorted", "enumerate", "zip", "reversed"]
theorem bt_of {K : PySem.W.Frag} {h : Heap} {mg : Str → Option Value} (X : K.In h) (G : h.Ns mainGlobals mg) (c : btNames.all (fun x => (He.Fa.free x).ok K) = true) : Bt mg := by
  have z : ∀ x ∈ btNames, mg x = none := fun x hx => He.free_ok X G (List.all_eq_true.mp c x hx)
  refine ⟨z _ ?_, z _ ?_, z _ ?_, z _ ?_, z _ ?_, z _ ?_, z _ ?_, z _ ?_, z _ ?_, z _ ?_, z _ ?_, z _ ?_, z _ ?_, z _ ?_, z _ ?_, z _ ?_, z _ ?_, z _ ?_, z _ ?_⟩ <;> decide +kernel

/-! ### 4. heaps: what is kept but for one object -/
def Fx (b : Addr) (H H' : Hp) : Prop := ∀ a o, a ≠ b → H a = some o → H' a = some o
def hide (H : Hp) (b : Addr) : Hp := fun a => if a = b then none else H a
theorem hide_self {H : Hp} {b : Addr} : hide H b b = none := by unfold hide; rw [if_pos rfl]
theorem hide_ne {H : Hp} {a b : Addr} (h : a ≠ b) : hide H b a = H a := by unfold hide; rw [if_neg h]
theorem hide_same {H : Hp} {b : Addr} : Same (hide H b) H := fun a o e => by
  unfold hide at e
  split at e
  · cases e
  · exact e
theorem Fx.refl (b : Addr) (H : Hp) : Fx b H H := fun _ _ _ e => e
theorem Fx.trans {b : Addr} {H H1 H2 : Hp} (x : Fx b H H1) (y : Fx b H1 H2) : Fx b H H2 := fun a o h e => y a o h (x a o h e)
theorem Fx.of {b : Addr} {H H' : Hp} (s : Same H H') : Fx b H H' := fun a o _ e => s a o e
theorem Fx.upd {b : Addr} {H H' : Hp} {o : HO} (x : Fx b H H') : Fx b H (upd H' b o) := fun a u h e => by
  rw [upd_ne h]
  exact x a u h e
theorem Fx.new {b p : Addr} {H H' : Hp} {o : HO} (x : Fx b H H') (h : H' p = none) : Fx b H (L2.upd H' p o) := fun a u ha e => by
  have q := x a u ha e
  rw [upd_ne (ne_of_none q h)]
  exact q
theorem Fx.hide {b : Addr} {H H' : Hp} (x : Fx b H H') : Same (hide H b) (hide H' b) := fun a o e => by
  have h : a ≠ b := fun z => by rw [z, hide_self] at e; cases e
  rw [hide_ne h] at e ⊢
  exact x a o h e
theorem Fx.sq {K : PySem.W.Frag} {b a : Addr} {H H' : Hp} {xs : List V} (x : Fx b H H') (h : a ≠ b) (s : SqL K H a xs) : SqL K H' a xs := by
  rcases s with (q | ⟨o, q⟩) | q
  · exact .inl (.inl (x _ _ h q))
  · exact .inl (.inr ⟨o, x _ _ h q⟩)
  · exact .inr q
theorem Same.new {H H' : Hp} {p : Addr} {o : HO} (s : Same H H') (h : H' p = none) : Same H (L2.upd H' p o) := fun a u e => by
  have q := s a u e
  rw [upd_ne (ne_of_none q h)]
  exact q
theorem sq_hide {K : PySem.W.Frag} {H : Hp} {a b : Addr} {xs : List V} (h : a ≠ b) (s : SqL K H a xs) : SqL K (hide H b) a xs := by
  rcases s with (q | ⟨o, q⟩) | q
  · exact .inl (.inl (by rw [hide_ne h]; exact q))
  · exact .inl (.inr ⟨o, by rw [hide_ne h]; exact q⟩)
  · exact .inr q
/-! ### 5. bags of draws -/
def Bag (n : Nat) (o : HO) : Prop := ∃ x y z : Int, o = .lst [.int x, .int y, .int z] ∧ 0 ≤ x ∧ 0 ≤ y ∧ y < 2147483629 ∧ 0 ≤ z ∧ z + n ≤ 1000000000
theorem Bag.mono {m n : Nat} {o : HO} (h : Bag n o) (l : m ≤ n) : Bag m o := let ⟨x, y, z, e, a, b, c, d, f⟩ := h; ⟨x, y, z, e, a, b, c, d, by omega⟩
theorem Bag.is {n : Nat} {o : HO} (h : Bag n o) : ∃ xs, o = .lst xs := let ⟨_, _, _, e, _⟩ := h; ⟨_, e⟩
/-- a cell of the script, or a number of its own -/
def spCell (K : PySem.W.Frag) : Sp := fun vs H Q _ => ∃ (a : Addr) (ns : List Int) (k : Nat), vs = [.ref a, .int k] ∧ SqL K H a (ns.map V.int) ∧ k ≤ 100 ∧ ∀ c, Q (.int c) H
def spBag : Sp := fun vs H Q _ => ∃ c : Int, vs = [.int c] ∧ ∀ p o, H p = none → Bag 900000000 o → Q (.ref p) (upd H p o)
/-- a draw below many -/
def spTake : Sp := fun vs H Q _ => ∃ (b : Addr) (o : HO) (n : Nat) (many : Int), vs = [.ref b, .int many] ∧ H b = some o ∧ Bag (n + 1) o ∧ 0 < many ∧ many < 2 ^ 200 ∧
  ∀ (d : Int) (o' : HO), 0 ≤ d → d < many → Bag n o' → Q (.int d) (upd H b o')
/-! ### 6. rules whose readings name K itself (for blocks) -/
def rLenK (K : PySem.W.Frag) : List V → Hp → VK → Prop := fun xs H Q => ∃ x n, xs = [x] ∧ LenV K x H n ∧ Q (.int n) H
def rListOf (K : PySem.W.Frag) : List V → Hp → VK → Prop := fun xs H Q => ∃ p ys, xs = [.ref p] ∧ (SqL K H p ys ∨ SqT K H p ys) ∧ ∀ l, H l = none → Q (.ref l) (upd H l (.lst ys))
def rTupleOf (K : PySem.W.Frag) : List V → Hp → VK → Prop := fun xs H Q => ∃ p ys, xs = [.ref p] ∧ ((SqL K H p ys ∧ ∀ l, H l = none → Q (.ref l) (upd H l (.tup ys))) ∨ (SqT K H p ys ∧ Q (.ref p) H))
def rJoin (K : PySem.W.Frag) : V → List V → Hp → VK → Prop := fun x xs H Q => ∃ a p, ∃ ys : List Str, x = .str a ∧ xs = [.ref p] ∧ (SqL K H p (ys.map V.str) ∨ SqT K H p (ys.map V.str)) ∧
  (ys.map (·.length)).sum + ys.length * a.length ≤ 16777216 ∧ Q (.str (Txt.join a ys)) H
section
variable {X : Cx} {K : PySem.W.Frag}
theorem ix_listK (hK : X.K = K := by rfl) : IxR X (rIxL K) := by subst hK; exact ix_list
theorem ix_tupK (hK : X.K = K := by rfl) : IxR X (rIxT K) := by subst hK; exact ix_tup
theorem sl_listK (hK : X.K = K := by rfl) : SlR X (rSlL K) := by subst hK; exact sl_list
theorem lenK (hK : X.K = K := by rfl) : CallR X (.builtin "len") (rLenK K) := by subst hK; exact call_len
theorem isiK (hK : X.K = K := by rfl) : CallR X (.builtin "isinstance") (rIsi K) := by subst hK; exact call_isi
theorem isiTK (hK : X.K = K := by rfl) : CallR X (.builtin "isinstance") (rIsiT K) := by subst hK; exact call_isiT
theorem allK (hc : X.calm = true) (hK : X.K = K := by rfl) : CallR X (.builtin "all") (rAll K) := by subst hK; exact cr_all hc
theorem listK (hK : X.K = K := by rfl) : CallR X (.type "list") (rListOf K) := by subst hK; exact call_list_of
theorem tupleK (hK : X.K = K := by rfl) : CallR X (.type "tuple") (rTupleOf K) := by subst hK; exact call_tuple_of
theorem reprK (Y : Sys K) (hgd : X.A.guards = some []) (hu : X.A.units + 64 < cLine) (hK : X.K = K := by rfl) : CallR X (.builtin "repr") (rRepr K) := by subst hK; exact call_repr Y hgd hu
theorem op_inK (hK : X.K = K := by rfl) : OpR X (compareOp .In) (rIn K false) := by subst hK; exact op_in_seq
theorem op_notInK (hK : X.K = K := by rfl) : OpR X (compareOp .NotIn) (rIn K true) := by subst hK; exact op_notIn_seq
theorem op_eqDK (hu : X.A.units + 64 < cLine) (hK : X.K = K := by rfl) : OpR X (compareOp .Eq) (rEqD K) := by subst hK; exact op_eqD hu
theorem op_neDK (hu : X.A.units + 64 < cLine) (hK : X.K = K := by rfl) : OpR X (compareOp .NotEq) (rNeD K) := by subst hK; exact op_neD hu
variable {o e : Expr} {es : List Expr} {to te : TE} {t : TA} {apos cpos : Pos}
theorem pe_joinK (hK : X.K = K) (ho : PE X o to) (he : PE X e te) (hs : starEach [e] X.env = [(false, eval e X.env)] := by rfl) (hbase : attributeBase o "join" X.env (eval o X.env) = eval o X.env := by rfl)
    (hline : (apos.endLine == cpos.line) = true := by rfl) : PE X (.Call (.Attribute o "join" apos) [e] [] cpos) (tM1 (rJoin K) to te) := by
  subst hK
  exact pe_join ho he hs hbase hline
theorem pe_appendK (hK : X.K = K) (ho : PE X o to) (he : PE X e te) (hs : starEach [e] X.env = [(false, eval e X.env)] := by rfl) (hbase : attributeBase o "append" X.env (eval o X.env) = eval o X.env := by rfl)
    (hfew : ((backTo cpos (starEach [e] X.env)).all (fun x => !x.1) && (backToKw cpos (keywordEach [] X.env)).all (fun x => x.1.isSome)
      && decide ([e].length + ([] : List Keyword).length + (if ([] : List Keyword).isEmpty then 0 else 1) < 30)) = true := by rfl)
    (hline : (apos.endLine == cpos.line) = true := by rfl) : PE X (.Call (.Attribute o "append" apos) [e] [] cpos) (tBM K "list" rAppend to (tCons te tNil)) := by
  subst hK
  exact pe_bm PySem.F.plainAttrs_list PySem.F.slot_list_append PySem.F.type_list_append mt_append ho (pa_cons he pa_nil hs) hbase hfew hline hs rfl
theorem pi_listK {tg : Expr} (hK : X.K = K) (hl : PE X e te) : PI X tg e (iList K te) := by subst hK; exact pi_list hl
theorem pi_tupK {tg : Expr} (hK : X.K = K) (hl : PE X e te) : PI X tg e (iTup K te) := by subst hK; exact pi_tup hl
theorem pi_enumK {p pos tpos : Pos} {elts : List Expr} {kk : Nat} (hK : X.K = K) (hg : Gl X "enumerate") (hm : X.mg "enumerate" = none) (ha : PA X [e] t) (hs : starEach [e] X.env = [(false, eval e X.env)] := by rfl) :
    PI X (.Tuple elts kk tpos) (.Call (.Name "enumerate" p) [e] [] pos) (iEnum K t) := by subst hK; exact pi_enum hg hm ha hs
theorem pi_revK {tg : Expr} {p pos : Pos} (hK : X.K = K) (hg : Gl X "reversed") (hm : X.mg "reversed" = none) (ha : PA X [e] t) (hs : starEach [e] X.env = [(false, eval e X.env)] := by rfl) :
    PI X tg (.Call (.Name "reversed" p) [e] [] pos) (iRev K t) := by subst hK; exact pi_reversed hg hm ha hs
end
end TS

/-! ### the end of a law, the guards told; the head's facts by any Bool of the written part -/
namespace TS
open PySem PySem.Spec PyProof.Rows L2
theorem law_callG {P : Program} {w : World} {K : PySem.W.Frag} {mg mb : Str → Option Value} {k : Nat} {fa a : Addr} {fd : FuncData} {x : Str} {sp : Sp} {s₁ : Shared} {vs : List Value} {ns : List Int}
    (KX : K.In s₁.heap) (hns : s₁.heap.Ns mainGlobals mg) (hb : s₁.heap.Ns builtinsNs mb) (hbb : ∀ x : Str, x ≠ "__name__" → mb x = bootBuiltins x) (hlim : s₁.heap.NoLimit) (hg : s₁.gens = #[])
    (ha : s₁.heap.get? a = some { cls := .type "list", data := .seq vs.toArray }) (hi : IntsAre vs ns) (hl : ns.length ≤ sizeLine) (hr : Room k callerA)
    (F : ∀ base : Heap, K.In base → base.Ns mainGlobals mg → FnG P w K mg base CX0 k fa fd [x] sp) (hbind : ∀ (s : Shared) (u : Value), BindsTo s fd ⟨[u], []⟩ [(x, u)])
    (hsp : ∀ H : Hp, Only H → SqL K H a (ns.map V.int) → sp [.ref a] H (fun v _ => v = .bl true) E0) :
    codeAny (model P w) callerA (.call (.ref fa) ⟨[.ref a], []⟩) (fun r s' => r = .ok (.ret (.bool true)) ∧ OldK s₁.heap s'.heap ∧ s'.os = s₁.os ∧ AllBare s'.gens) s₁ := by
  have rv := vals_ints hi
  have lenV := hi.length
  have go : ∀ H : Hp, Only H → SqL K H a (ns.map V.int) → HOk P w H s₁.heap → (∀ b u, H b = some u → b = a ∧ K.lookup a = none) →
      codeAny (model P w) callerA (.call (.ref fa) ⟨[.ref a], []⟩) (fun r s' => r = .ok (.ret (.bool true)) ∧ OldK s₁.heap s'.heap ∧ s'.os = s₁.os ∧ AllBare s'.gens) s₁ := by
    intro H hO hS hok hA
    have free : ∀ {b : Addr} {o : Obj}, s₁.heap.get? b = some o → (∀ n sl, o ≠ ⟨.type "list", none, .seq vs.toArray n, sl⟩ ) → H b = none := fun {b o} e d => by
      cases q : H b with
      | none => rfl
      | some u =>
        obtain ⟨rfl, _⟩ := hA b u q
        rw [ha] at e
        exact absurd (Option.some.inj e).symm (d _ _)
    have nsK : ∀ {b : Addr} {m : Str → Option Value}, s₁.heap.Ns b m → (hidT s₁.heap H).Ns b m := fun {b m} ⟨o, es, ep, e, d, r⟩ =>
      ⟨o, es, ep, hidT_get e (free e fun n sl z => by rw [z] at d; cases d), d, r⟩
    have KB : K.In (hidT s₁.heap H) := fun b o e => hidT_get (KX b o e) (by
      cases q : H b with
      | none => rfl
      | some u =>
        obtain ⟨rfl, z⟩ := hA b u q
        rw [z] at e
        cases e)
    have e0 : Env0 P w K mg (hidT s₁.heap H) callerA [] s₁ H :=
      ⟨rfl, ⟨KB, nsK hns, ⟨mb, nsK hb, hbb⟩, let ⟨mc, h1, h2⟩ := hlim; ⟨mc, nsK h1, h2⟩⟩, fun b o e => of_hidT e, Nat.le_of_eq (hidT_size _ _), trivial, (fun b z => nomatch z), hok, .of_eq hg⟩
    refine codeAny_mono ((F _ KB (nsK hns)).run callerA [] s₁ H ⟨[.ref a], []⟩ [.ref a] [.ref a] _ _ rfl hr e0 (hbind s₁ (.ref a)) (.cons rfl .nil) (hsp H hO hS)) fun r s' h => ?_
    match r, h with
    | .error e, h => exact False.elim h
    | .ok (.ret u), ⟨v, H', os, bare, un, hok', r', q⟩ =>
      obtain rfl : v = .bl true := q
      obtain rfl : u = Value.bool true := r'
      refine ⟨rfl, OldK.of_keep fun b o e => ?_, os, bare⟩
      rcases hO b with z | ⟨ob, xs, z⟩
      · exact un.keep b o e z (fun z => nomatch z) (fun z => nomatch z)
      · obtain ⟨e1, _⟩ := hok b _ z
        obtain ⟨e2, _⟩ := hok' b _ (un.frzs b ob _ z)
        rw [e] at e1
        cases e1
        exact e2
  cases hk : K.lookup a with
  | some o =>
    have e := KX a o hk
    rw [ha] at e
    cases e
    exact go (fun _ => none) (fun _ => .inl rfl) (.inr ⟨_, vs.toArray, _, hk, rfl, rfl, rfl, by rw [List.size_toArray, lenV]; exact hl, by simpa using rv⟩) (fun b u z => nomatch (show (none : Option HO) = some u from z)) (fun b u z => nomatch (show (none : Option HO) = some u from z))
  | none =>
    have one : ∀ {b : Addr} {u : HO}, (if b = a then some (HO.frz { cls := .type "list", data := .seq vs.toArray } (.lst (ns.map V.int))) else none) = some u → b = a ∧ u = .frz { cls := .type "list", data := .seq vs.toArray } (.lst (ns.map V.int)) := fun {b u} z => by
      by_cases hb : b = a
      · rw [if_pos hb] at z
        exact ⟨hb, (Option.some.inj z).symm⟩
      · rw [if_neg hb] at z
        cases z
    refine go (fun b => if b = a then some (.frz { cls := .type "list", data := .seq vs.toArray } (.lst (ns.map V.int))) else none) (fun b => ?_) (.inl (.inr ⟨_, if_pos rfl⟩)) (fun b u z => ?_) (fun b u z => ⟨(one z).1, hk⟩)
    · by_cases hb : b = a
      · exact .inr ⟨_, _, if_pos hb⟩
      · exact .inl (if_neg hb)
    · obtain ⟨rfl, rfl⟩ := one z
      exact ⟨ha, by rw [List.length_map]; exact hl, vs, _, rv, ha⟩
/-- what F gives of the law -/
structure LawAt (l : PySem.W.OpenLaw) (w : World) (mg : Str → Option Value) (k n : Nat) (x : Str) (h : Heap) (fa : Addr) (K : PySem.W.Frag) : Prop where
  kin : K.In h
  fn : ∃ (fd : FuncData) (sp : Sp), (∀ (s : Shared) (u : Value), BindsTo s fd ⟨[u], []⟩ [(x, u)]) ∧
    (∀ (H : Hp) (a : Addr) (ns : List Int), ns.length ≤ n → Only H → SqL K H a (ns.map V.int) → sp [.ref a] H (fun v _ => v = .bl true) E0) ∧
    ∀ base : Heap, K.In base → base.Ns mainGlobals mg → FnG l.prog w K mg base CX0 k fa fd [x] sp
theorem walkG {l : PySem.W.OpenLaw} {n k : Nat} {q : Program} {loose : List Str} {XP : (Str → Option Value) → Heap → Prop} {YP : World → Heap → Prop} {d : DefRec} {x : Str}
    (hn : l.most = some n) (hn2 : n ≤ sizeLine) (hdf : d.params.defaults = []) (hr : Room k callerA)
    (F : ∀ (w : World) (mg : Str → Option Value) (fa : Addr) (h : Heap), YP w h → h.Ns mainGlobals mg → mg d.name = some (.ref fa) → ∃ K, LawAt l w mg k n x h fa K) :
    PySem.W.WalkO q loose XP YP l.row.toRowW d [] (fun f vs => PySem.call f vs) := by
  refine Att.attach_call hn hdf fun w s₀ s₁ mg mb fa o pm cd doc a vs ns G Y ho hd hcd hmg hobj hints hlen hg => ?_
  obtain ⟨K, KX, fd, sp, hb, hsp, hF⟩ := F w mg fa _ Y G.T.g hmg
  exact law_callG KX G.T.g G.T.b G.T.builtins G.T.nolimit hg hobj hints (Nat.le_trans hlen hn2) hr hF hb fun H hO hS => hsp H a ns hlen hO hS
/-! ### the head -/
def asX (g : Addr → Option Obj) : Nat → List Addr
  | 0 => [mainGlobals, cStatics]
  | n + 1 => He.growD g (asX g n)
def frX (n : Nat) (g : Addr → Option Obj) : PySem.W.Frag := He.frG g (asX g n ++ [sysModules])
def obsX (n : Nat) (chk : PySem.W.Frag → Bool) (fn : List He.DefD) (g : Addr → Option Obj) : He.AlD :=
  (chk (frX n g) && fn.all (fun d => d.ok (frX n g)), fn.map fun d => He.fnW (frX n g) d.at_)
def hookX (n : Nat) (chk : PySem.W.Frag → Bool) (fn : List He.DefD) : PySem.W.Hook where
  α := He.AlD
  obs := fun s => obsX n chk fn s.heap.get?
  val := fun _ => (true, fn.map He.DefD.val)
  says := fun _ h => ∃ K : PySem.W.Frag, K.In h ∧ chk K = true ∧ fn.all (fun d => d.ok K) = true ∧ fn.map (fun d => He.fnW K d.at_) = fn.map He.DefD.val
  of := fun _ s e => ⟨_, He.frG_in, (He.ba (congrArg (·.1) e)).1, (He.ba (congrArg (·.1) e)).2, congrArg (·.2) e⟩
  keeps := fun _ _ _ ⟨K, hK, c⟩ k => ⟨K, PySem.W.Frag.In.keeps hK k, c⟩
theorem obsX_eq {n : Nat} {chk : PySem.W.Frag → Bool} {fn : List He.DefD} (s : PySem.W.SharedT) : obsX n chk fn (HandSHeadRun.getT s) = (hookX n chk fn).obs s.abs := by
  have e : HandSHeadRun.getT s = s.abs.heap.get? := funext (HandSHeadRun.getT_eq s)
  show obsX n chk fn (HandSHeadRun.getT s) = obsX n chk fn s.abs.heap.get?
  rw [e]
/-- a def's datum: a top statement -/
def defD (x : Str) (st : Stmt) : He.DefD := ⟨(x, none), x, x, defArgs st, defBody st, defScope st, [], []⟩
theorem def_of {K : PySem.W.Frag} {h : Heap} {mg : Str → Option Value} {fn : List He.DefD} (X : K.In h) (G : h.Ns mainGlobals mg) (c1 : fn.all (fun d => d.ok K) = true) (c2 : fn.map (fun d => He.fnW K d.at_) = fn.map He.DefD.val)
    {x : Str} {st : Stmt} (i : Nat) (hi : fn[i]? = some (defD x st)) (hg : (He.Fa.glo x).ok K = true) : Def K mg x st := by
  have e1 : He.fnW K (defD x st).at_ = (defD x st).val := by
    have h1 := congrArg (·[i]?) c2
    simp only [List.getElem?_map, hi, Option.map_some] at h1
    exact Option.some.inj h1
  obtain ⟨fd, F⟩ := He.DefD.funD e1 (List.all_eq_true.mp c1 _ (List.mem_of_getElem? hi))
  exact ⟨He.ga K x, fd, F, He.glo_ok X G hg⟩
/-- what is asked of the machine's own objects -/
def sysB (K : PySem.W.Frag) : Bool := (match K.lookup sysModules with | some o => decide (o.cls = .type "dict") | none => false) && decide (PySem.W.nsIn K cStatics sharingNotToldKey = some none)
theorem sysB_ok {K : PySem.W.Frag} (h : sysB K = true) : Sys K := by
  obtain ⟨h1, h2⟩ := He.ba h
  refine ⟨?_, of_decide_eq_true h2⟩
  cases e : K.lookup sysModules with
  | none => rw [e] at h1; cases h1
  | some o => rw [e] at h1; exact ⟨o, rfl, of_decide_eq_true h1⟩
def chkX (gl : List Str) (more : PySem.W.Frag → Bool) (K : PySem.W.Frag) : Bool := (sysB K && btNames.all fun x => (He.Fa.free x).ok K) && ((gl.all fun x => (He.Fa.glo x).ok K) && more K)
end TS

/-! ### the head's facts, the written part gathered by a walk that marks what it has seen in one number -/
namespace TS
open PySem PySem.Spec PyProof.Rows L2
def seenN (m a : Nat) : Bool := Nat.beq (Nat.land (Nat.shiftRight m a) 1) 1
/-- what is reached from the addresses of the list, each once; m: the marks -/
def gatherG (g : Addr → Option Obj) : Nat → List Addr → Nat → PySem.W.Frag → PySem.W.Frag
  | 0, _, _, K => K
  | _ + 1, [], _, K => K
  | n + 1, a :: r, m, K => HandSHeadRun.frNat a fun a => match seenN m a with
    | true => gatherG g n r m K
    | false => HandSHeadRun.frNat (Nat.lor m (Nat.shiftLeft 1 a)) fun m => match g a with
      | some o => gatherG g n (He.refsD o ++ r) m ((a, o) :: K)
      | none => gatherG g n r m K
theorem gatherG_in {h : Heap} : ∀ (n : Nat) (l : List Addr) (m : Nat) (K : PySem.W.Frag), K.In h → (gatherG h.get? n l m K).In h
  | 0, _, _, _, k => k
  | _ + 1, [], _, _, k => k
  | n + 1, a :: r, m, K, k => by
    unfold gatherG
    rw [HandSHeadRun.frNat_eq]
    cases seenN m a with
    | true => exact gatherG_in n r m K k
    | false =>
      show PySem.W.Frag.In (HandSHeadRun.frNat _ _) h
      rw [HandSHeadRun.frNat_eq]
      cases e : h.get? a with
      | none => exact gatherG_in n r _ K k
      | some o =>
        refine gatherG_in n _ _ _ fun b o' q => ?_
        by_cases z : b = a
        · subst z
          have q' : (match b == b with | true => some o | false => K.lookup b) = some o' := q
          rw [show (b == b) = true by simp] at q'
          cases q'
          exact e
        · have q' : (match b == a with | true => some o | false => K.lookup b) = some o' := q
          rw [show (b == a) = false by simpa using z] at q'
          exact k b o' q'
def frY (n : Nat) (g : Addr → Option Obj) : PySem.W.Frag := gatherG g n [sysModules, cStatics, mainGlobals] 0 []
def obsY (n : Nat) (chk : PySem.W.Frag → Bool) (fn : List He.DefD) (g : Addr → Option Obj) : He.AlD :=
  (chk (frY n g) && fn.all (fun d => d.ok (frY n g)), fn.map fun d => He.fnW (frY n g) d.at_)
def hookY (n : Nat) (chk : PySem.W.Frag → Bool) (fn : List He.DefD) : PySem.W.Hook where
  α := He.AlD
  obs := fun s => obsY n chk fn s.heap.get?
  val := fun _ => (true, fn.map He.DefD.val)
  says := fun _ h => ∃ K : PySem.W.Frag, K.In h ∧ chk K = true ∧ fn.all (fun d => d.ok K) = true ∧ fn.map (fun d => He.fnW K d.at_) = fn.map He.DefD.val
  of := fun _ s e => ⟨_, gatherG_in _ _ _ _ (fun _ _ z => by cases z), (He.ba (congrArg (·.1) e)).1, (He.ba (congrArg (·.1) e)).2, congrArg (·.2) e⟩
  keeps := fun _ _ _ ⟨K, hK, c⟩ k => ⟨K, PySem.W.Frag.In.keeps hK k, c⟩
theorem obsY_eq {n : Nat} {chk : PySem.W.Frag → Bool} {fn : List He.DefD} (s : PySem.W.SharedT) : obsY n chk fn (HandSHeadRun.getT s) = (hookY n chk fn).obs s.abs := by
  have e : HandSHeadRun.getT s = s.abs.heap.get? := funext (HandSHeadRun.getT_eq s)
  show obsY n chk fn (HandSHeadRun.getT s) = obsY n chk fn s.abs.heap.get?
  rw [e]
end TS

/-! ### the head in two halves: facts, and defs -/
namespace TS
open PySem PySem.Spec PyProof.Rows L2
theorem run_and {r : PySem.W.OpenRow} {q : Program} {M : Nat} {loose : List PySem.Str} {w : World} {n : Nat} {chk : PySem.W.Frag → Bool} {fn : List He.DefD}
    (h1 : HandSHeadRun.RunEq r q (hookY n chk []) (fun s => obsY n chk [] (HandSHeadRun.getT s)) M loose w)
    (h2 : HandSHeadRun.RunEq r q (hookY n (fun _ => true) fn) (fun s => obsY n (fun _ => true) fn (HandSHeadRun.getT s)) M loose w) :
    HandSHeadRun.RunEq r q (hookY n chk fn) (fun s => obsY n chk fn (HandSHeadRun.getT s)) M loose w := by
  intro os
  have e1 := h1 os
  have e2 := h2 os
  obtain ⟨s, es, x1⟩ := Option.map_eq_some_iff.mp e1
  rw [es] at e2 ⊢
  have y2 := Option.some.inj e2
  have c1 : obsY n chk [] (HandSHeadRun.getT s) = (true, []) := congrArg (fun z => z.2.2) x1
  have c2 : obsY n (fun _ => true) fn (HandSHeadRun.getT s) = (true, fn.map He.DefD.val) := congrArg (fun z => z.2.2) y2
  have k1' : (chk (frY n (HandSHeadRun.getT s)) && true) = true := congrArg (fun z : He.AlD => z.1) c1
  have k1 : chk (frY n (HandSHeadRun.getT s)) = true := (He.ba k1').1
  have k2 : fn.all (fun d => d.ok (frY n (HandSHeadRun.getT s))) = true := congrArg (fun z : He.AlD => z.1) c2
  have k3 := congrArg (fun z : He.AlD => z.2) c2
  refine congrArg some (Prod.ext (congrArg (fun z => z.1) x1) (Prod.ext (congrArg (fun z => z.2.1) x1) ?_))
  show (_ && _, _) = (true, _)
  exact Prod.ext (by show (_ && _) = true; rw [k1, k2]; rfl) k3
end TS

namespace TS
open PySem PySem.Spec PyProof.Rows L2
def kinds : List String := ["NoneType", "bool", "int", "str", "list", "tuple", "dict"]
def methD (C m q : Str) (st : Stmt) : He.DefD := ⟨(C, some m), m, q, defArgs st, defBody st, defScope st, [], []⟩
def famB (K : PySem.W.Frag) (x : Str) : Bool := (PySem.W.readsIn K (He.ga K x) (.type "type") && He.eqO (PySem.W.specialIn K (.ref (He.ga K x)) "__getattribute__") (some (some (.builtin "type.__getattribute__")))) &&
  (match PySem.W.findCls K (.ref (He.ga K x)) (.type "type") "__init__" with
    | some (.val (.builtin s)) => decide (s = "ValueError.__init__")
    | _ => false)
def oexB (K : PySem.W.Frag) (C : Addr) : Bool := match K.lookup C with
  | some ⟨c, dd, .cls cd, sl⟩ => (match cd.mro, sl.toList with
    | .ref C' :: bm, [k0, k1, k2, k3, some (.builtin n), k5] => decide (c = .type "type") && (decide (C' = C) && (decide (n = "ValueError.__new__") && (cd.hasDict && (!cd.hasDel && PySem.HandSPX.refsVE bm))))
    | _, _ => false)
  | _ => false
def ownB (K : PySem.W.Frag) (x f : Str) : Bool := (oexB K (He.ga K x) && (He.eqO (PySem.W.findIn K (.ref (He.ga K x)) "__setattr__") (some (some (.builtin "object.__setattr__"))) && (decide (PySem.W.subIn K (.ref (He.ga K x)) (.type "BaseException") = some true) &&
  (decide (PySem.W.typeIn K (.ref (He.ga K x)) = some (.type "type")) && PySem.W.keepIn K (.ref (He.ga K x)))))) && ((xfB K (He.ga K x) && He.eqO (PySem.W.findIn K (.ref (He.ga K x)) "__init__") (some (some (.ref (He.ma K (He.ga K x) "__init__"))))) &&
  (decide (PySem.W.typeIn K (.ref (He.ma K (He.ga K x) "__init__")) = some (.type "function")) && He.eqO (PySem.W.findIn K (.ref (He.ga K x)) f) (some none)))
def defKD (x : Str) (st : Stmt) (kwd : List (Str × He.Dv)) : He.DefD := ⟨(x, none), x, x, defArgs st, defBody st, defScope st, [], kwd⟩
def isCB (K : PySem.W.Frag) (C : Addr) : Bool := (He.eqO (PySem.W.findIn K (.ref C) "__class__") (some (some (.builtin "object.__class__"))) && (He.eqO (PySem.W.specialIn K (.builtin "object.__class__") "__get__") (some (some (.builtin "getset_descriptor.__get__"))) &&
  (decide (PySem.W.takesIn K (.builtin "object.__class__") = some true) && decide (PySem.W.mroIn K C (.type "object") = some true)))) && (decide (PySem.W.kitOne K (.ref C) (.ref C) = some true) && kinds.all fun n => decide (PySem.W.kitOne K (.type n) (.ref C) = some false))
def methKD (C m q : Str) (st : Stmt) (kwd : List (Str × He.Dv)) : He.DefD := ⟨(C, some m), m, q, defArgs st, defBody st, defScope st, [], kwd⟩
def top (i : Nat) : Stmt := PySem.Challenge.pw_termshelf_k07_terms_told.main.body.getD i (.Pass ⟨0, 0, 0, 0⟩)
abbrev s_is_whole : Stmt := top 22
abbrev s_is_name : Stmt := top 23
abbrev s_is_row : Stmt := top 30
abbrev s_are_rows : Stmt := top 31
abbrev s_NoWords___init__ : Stmt := inClass (top 4) 0
abbrev s_Words___len__ : Stmt := inClass (top 32) 6
abbrev s_Words___init__ : Stmt := inClass (top 32) 0
abbrev s__law_names : Stmt := top 45
abbrev s__law_rows : Stmt := top 46
abbrev s_number_in : Stmt := top 24
abbrev s_is_letter : Stmt := top 25
abbrev s_Words_has : Stmt := inClass (top 32) 5
abbrev s_Words_told_of : Stmt := inClass (top 32) 2
abbrev s_Words_places : Stmt := inClass (top 32) 3
abbrev s_need_words : Stmt := top 36
abbrev s_are_signs : Stmt := top 37
abbrev s_NoSigns___init__ : Stmt := inClass (top 5) 0
abbrev s_NoSign___init__ : Stmt := inClass (top 6) 0
abbrev s_Beyond___init__ : Stmt := inClass (top 7) 0
abbrev s_Unended___init__ : Stmt := inClass (top 8) 0
abbrev s_NoNumber___init__ : Stmt := inClass (top 9) 0
abbrev s_places_of : Stmt := top 38
abbrev s_ends_of : Stmt := top 39
abbrev s_Term_signs : Stmt := inClass (top 40) 2
abbrev s_Term___init__ : Stmt := inClass (top 40) 0
abbrev s_Term_starts : Stmt := inClass (top 40) 4
abbrev s_Term_term_from : Stmt := inClass (top 40) 6
abbrev s_Term_parts : Stmt := inClass (top 40) 7
abbrev s_Term_spots_with_places : Stmt := inClass (top 40) 8
abbrev s_Term_words : Stmt := inClass (top 40) 1
abbrev s_Term_head : Stmt := inClass (top 40) 3
abbrev s_Term___len__ : Stmt := inClass (top 40) 19
abbrev s_Term_spots : Stmt := inClass (top 40) 9
abbrev s_Term_deep : Stmt := inClass (top 40) 10
abbrev s_Term_letters : Stmt := inClass (top 40) 11
abbrev s_is_spot : Stmt := top 26
abbrev s_Term_place_at : Stmt := inClass (top 40) 12
abbrev s_Term_part_at : Stmt := inClass (top 40) 13
abbrev s_Term_head_at : Stmt := inClass (top 40) 14
abbrev s_Words___eq__ : Stmt := inClass (top 32) 7
abbrev s__law_end : Stmt := top 49
abbrev s__law_parts : Stmt := top 50
abbrev s__law_spots : Stmt := top 51
abbrev s__law_at : Stmt := top 52
abbrev s__law_unlike_letters : Stmt := top 53
abbrev s__law_told_right : Stmt := top 54
abbrev s__law_right : Stmt := top 55
abbrev s__law_letters : Stmt := top 47
abbrev s__law_signs : Stmt := top 48
abbrev s__law_great_right : Stmt := top 56
abbrev s__law_deep_right : Stmt := top 57
abbrev s__law_many_letters_right : Stmt := top 58
abbrev s_law : Stmt := top 59
abbrev s__law_cell : Stmt := top 42
abbrev s__law_box : Stmt := top 43
abbrev s__law_take : Stmt := top 44
def fn : List He.DefD := ([defD "is_whole" s_is_whole, defD "is_name" s_is_name, defKD "number_in" s_number_in [("low", .int 0), ("high", .int 9999)], defD "is_letter" s_is_letter, defD "is_spot" s_is_spot, defD "is_row" s_is_row, defD "are_rows" s_are_rows, defD "need_words" s_need_words, defD "are_signs" s_are_signs, defD "places_of" s_places_of, defD "ends_of" s_ends_of, defD "_law_cell" s__law_cell, defD "_law_box" s__law_box, defD "_law_take" s__law_take, defD "_law_names" s__law_names, defD "_law_rows" s__law_rows, defD "_law_letters" s__law_letters, defD "_law_signs" s__law_signs, defD "_law_end" s__law_end, defD "_law_parts" s__law_parts] : List He.DefD) ++ ([defD "_law_spots" s__law_spots, defD "_law_at" s__law_at, defD "_law_unlike_letters" s__law_unlike_letters, defD "_law_told_right" s__law_told_right, defD "_law_right" s__law_right, defD "_law_great_right" s__law_great_right, defD "_law_deep_right" s__law_deep_right, defD "_law_many_letters_right" s__law_many_letters_right, defD "law" s_law, methD "NoWords" "__init__" "NoWords.__init__" s_NoWords___init__, methD "NoSigns" "__init__" "NoSigns.__init__" s_NoSigns___init__, methD "NoSign" "__init__" "NoSign.__init__" s_NoSign___init__, methD "Beyond" "__init__" "Beyond.__init__" s_Beyond___init__, methD "Unended" "__init__" "Unended.__init__" s_Unended___init__, methD "NoNumber" "__init__" "NoNumber.__init__" s_NoNumber___init__, methD "Words" "__init__" "Words.__init__" s_Words___init__, methD "Words" "has" "Words.has" s_Words_has, methD "Words" "told_of" "Words.told_of" s_Words_told_of, methD "Words" "places" "Words.places" s_Words_places, methD "Words" "__eq__" "Words.__eq__" s_Words___eq__] : List He.DefD) ++ ([methD "Term" "signs" "Term.signs" s_Term_signs, methD "Term" "words" "Term.words" s_Term_words, methD "Term" "head" "Term.head" s_Term_head, methD "Term" "starts" "Term.starts" s_Term_starts, methD "Term" "term_from" "Term.term_from" s_Term_term_from, methD "Term" "parts" "Term.parts" s_Term_parts, methD "Term" "spots_with_places" "Term.spots_with_places" s_Term_spots_with_places, methD "Term" "spots" "Term.spots" s_Term_spots, methD "Term" "deep" "Term.deep" s_Term_deep, methD "Term" "letters" "Term.letters" s_Term_letters, methD "Term" "place_at" "Term.place_at" s_Term_place_at, methD "Term" "part_at" "Term.part_at" s_Term_part_at, methD "Term" "head_at" "Term.head_at" s_Term_head_at, methD "Term" "__len__" "Term.__len__" s_Term___len__, methKD "Term" "__init__" "Term.__init__" s_Term___init__ [("most", .int 100)]] : List He.DefD)
def gl : List Str := (["is_whole", "is_name", "number_in", "is_letter", "is_spot", "is_row", "are_rows", "need_words", "are_signs", "places_of", "ends_of", "_law_cell", "_law_box", "_law_take", "_law_names", "_law_rows", "_law_letters", "_law_signs", "_law_end", "_law_parts"] : List Str) ++ (["_law_spots", "_law_at", "_law_unlike_letters", "_law_told_right", "_law_right", "_law_great_right", "_law_deep_right", "_law_many_letters_right", "law", "TermError", "NoWords", "NoSigns", "NoSign", "Beyond", "Unended", "NoNumber", "Words", "Term"] : List Str)
def fl (K : PySem.W.Frag) : List Bool := ([famB K "TermError", ownB K "NoWords" "found", ownB K "NoSigns" "found", ownB K "NoSign" "at", ownB K "Beyond" "at", ownB K "Unended" "many", ownB K "NoNumber" "found", (He.Fa.cls "Words").ok K, (He.Fa.noat "Words" "by_name").ok K, (He.Fa.mkr "Words").ok K, (He.Fa.meth "Words" "has").ok K, (He.Fa.meth "Words" "told_of").ok K, (He.Fa.meth "Words" "places").ok K, (He.Fa.meth "Words" "__eq__").ok K, isCB K (He.ga K "Words"), isCB K (He.ga K "Term"), (He.Fa.cls "Term").ok K, (He.Fa.noat "Term" "term_words").ok K, (He.Fa.noat "Term" "all_signs").ok K, (He.Fa.noat "Term" "all_ends").ok K] : List Bool) ++ ([(He.Fa.mkr "Term").ok K, (He.Fa.meth "Term" "signs").ok K, (He.Fa.meth "Term" "words").ok K, (He.Fa.meth "Term" "head").ok K, (He.Fa.meth "Term" "starts").ok K, (He.Fa.meth "Term" "term_from").ok K, (He.Fa.meth "Term" "parts").ok K, (He.Fa.meth "Term" "spots_with_places").ok K, (He.Fa.meth "Term" "spots").ok K, (He.Fa.meth "Term" "deep").ok K, (He.Fa.meth "Term" "letters").ok K, (He.Fa.meth "Term" "place_at").ok K, (He.Fa.meth "Term" "part_at").ok K, (He.Fa.meth "Term" "head_at").ok K, (He.Fa.meth "Term" "__len__").ok K, (He.Fa.int "MOST_SIGNS_marks" 8).ok K, (He.Fa.int "MOST_FIGURES" 30).ok K, (He.Fa.int "LAST_LETTER" 99).ok K, (He.Fa.int "MOST_DEEP" 16).ok K, (He.Fa.int "MOST_PLACES_marks" 4).ok K] : List Bool) ++ ([(He.Fa.int "MOST_PLACES_signs" 4).ok K, (He.Fa.int "MOST_WORDS" 12).ok K, (He.Fa.int "GREATEST" 9999).ok K, (He.Fa.str "SMALL" "abcdefghijklmnopqrstuvwxyz").ok K, (He.Fa.str "FIGURES" "0123456789").ok K, (He.Fa.str "CAPITALS" "ABCDEFGHIJKLMNOPQRSTUVWXYZ").ok K] : List Bool)
def more (K : PySem.W.Frag) : Bool := (fl K).all id
def chk : PySem.W.Frag → Bool := chkX gl more
abbrev R : PySem.W.OpenRow := PySem.W.OpenLaw.row PySem.Challenge.rw_termshelf_k07_terms_told
abbrev hk : PySem.W.Hook := hookY 3000 chk fn
def ob (s : PySem.W.SharedT) : He.AlD := obsY 3000 chk fn (HandSHeadRun.getT s)
def loose : List PySem.Str := (["_wall", "TermError", "Absent", "NoWords", "NoSigns", "NoSign", "Beyond", "Unended", "NoNumber", "NotThere", "NoSpot", "FIGURES", "SMALL", "CAPITALS", "MOST_SIGNS_marks", "MOST_FIGURES", "MOST_PLAIN", "LAST_LETTER", "MOST_DEEP", "MOST_PLACES_marks", "is_whole", "is_name", "number_in", "is_letter", "is_spot", "MOST_WORDS", "MOST_PLACES_signs", "is_row", "are_rows", "Words"] : List PySem.Str) ++ (["MOST_SIGNS_terms", "GREATEST", "need_words", "are_signs", "places_of", "ends_of", "Term", "_law_cell", "_law_box", "_law_take", "_law_names", "_law_rows", "_law_letters", "_law_signs", "_law_end", "_law_parts", "_law_spots", "_law_at", "_law_unlike_letters", "_law_told_right", "_law_right", "_law_great_right", "_law_deep_right", "_law_many_letters_right"] : List PySem.Str)
theorem run1 (w : World) : HandSHeadRun.RunEq R (PySem.W.view R.prog [59]) (hookY 3000 chk []) (fun s => obsY 3000 chk [] (HandSHeadRun.getT s)) 6000 loose w := by
  intro os
  kernel_rfl
theorem run2 (w : World) : HandSHeadRun.RunEq R (PySem.W.view R.prog [59]) (hookY 3000 (fun _ => true) fn) (fun s => obsY 3000 (fun _ => true) fn (HandSHeadRun.getT s)) 6000 loose w := by
  intro os
  kernel_rfl
theorem run (w : World) : HandSHeadRun.RunEq R (PySem.W.view R.prog [59]) hk ob 6000 loose w := run_and (run1 w) (run2 w)
end TS
set_option maxHeartbeats 2000000
/-! ### comprehensions of any kind: one walk for every clause, whatever is done with what comes -/
namespace TS
open PySem PySem.Spec PyProof.Rows L2 PpSet
/-- one turn of a clause: what comes, its store, its tests; then what is done with it -/
def Steps (P : Program) (w : World) (A : Around) (it : Value) (tg : Expr) (cs : List Expr) (env : Env) (act : (Shared → Prop) → Shared → Prop) (E : Value → Shared → Prop) (stop next : Shared → Prop) (s : Shared) : Prop :=
  wpAny (model P w) A (pyNext it) (fun r t => match r with
    | none => stop t
    | some v => wpAny (model P w) A (letOwnedTupleGo tg it v) (fun _ t => wpAny (model P w) A (assign tg env v) (fun _ t => wpAny (model P w) A (forIn cs true fun c r => if r = true then do let ok ← isTrue c env (eval c env); pure (ForInStep.yield ok) else pure (ForInStep.yield r))
        (fun b t => if b = true then act next t else next t) E t) E t) E t) E s
/-- a clause's code goes by such turns -/
def Goes (P : Program) (w : World) (A : Around) (c : Code) (it : Value) (tg : Expr) (cs : List Expr) (env : Env) (act : (Value → Shared → Prop) → (Shared → Prop) → Shared → Prop) : Prop :=
  ∀ (R : Result → Shared → Prop) (I : Nat → Shared → Prop), (∀ n s, I n s → Steps P w A it tg cs env (act (notedBy (model P w) A env fun e t => R (.error e) t)) (notedBy (model P w) A env fun e t => R (.error e) t) (R (.ok .next)) (fun t => ∃ m, m < n ∧ I m t) s) →
    ∀ n s, I n s → codeAny (model P w) A c R s
/-- the turns of one clause, as readings: W by the turn and a measure, Out behind the last one, Body what is asked of an item that passes -/
def Rounds (J : It) (g : TG) (tt : TT) (τ : L2.St) (W : Nat → Nat → Hp → Prop) (Out : Hp → Prop) (ws : L2.St → L2.St) (Body : (Hp → Prop) → L2.St → Hp → Prop) : Prop :=
  ∀ i m H, W i m H → (J.stop i H ∧ Out H) ∨ (J.go i H ∧ ∃ Nx : Hp → Prop, (∀ G, Nx G → ∃ k, k < m ∧ W (i + 1) k G) ∧ ∀ x G, J.yld i H x G → g x τ G fun σ2 H2 => ws σ2 = τ ∧ tt σ2 H2 fun b H3 => if b = true then Body Nx σ2 H3 else Nx H3)
theorem walk_clause {Y : Cx} {c : Code} {tg : Expr} {cs : List Expr} {g : TG} {tt : TT} {it : Addr} {fp : List Addr} {tn : Nat → Heap → Prop} {J : It} {act : (Value → Shared → Prop) → (Shared → Prop) → Shared → Prop} {R : Result → Shared → Prop}
    {pins : List (Addr × Obj)} {τ : L2.St} {W : Nat → Nat → Hp → Prop} {Out : Hp → Prop} {vs : List Nat} {Body : (Hp → Prop) → L2.St → Hp → Prop}
    (goes : Goes Y.prog Y.w Y.A c (.ref it) tg cs Y.env act) (calm : Y.calm = true) (mute : Y.xe = fun _ _ => False) (T : Turn Y.prog Y.w Y.K tg J fp it tn) (pg : PG Y tg g) (pt : PTs Y cs tt)
    (free : ∀ (σ : L2.St) (H : Hp) (s : Shared), Inv Y pins σ H s → ∀ b ∈ fp, H b = none → FpOk Y pins H b)
    (rounds : Rounds J g tt τ W Out (fun σ => wipe σ vs) Body)
    (done : ∀ s H, Inv Y pins τ H s → Out H → R (.ok .next) s)
    (acts : ∀ (E : Value → Shared → Prop) (h : Heap) (s : Shared) (σ2 : L2.St) (H : Hp) (Nx : Hp → Prop) (next : Shared → Prop), Inv Y (pins ++ pinsAt fp h) σ2 H s → wipe σ2 vs = τ → Body Nx σ2 H →
      (∀ s' H' σ', Inv Y (pins ++ pinsAt fp h) σ' H' s' → τ.length = σ'.length → (∀ (j : Nat) v, τ[j]? = some (some v) → σ'[j]? = some (some v)) → Nx H' → next s') → act E next s)
    {s : Shared} {H : Hp} {m : Nat} (I : Inv Y pins τ H s) (st : tn 0 s.heap) (nf : ∀ b ∈ fp, H b = none) (w0 : W 0 m H) : codeAny (model Y.prog Y.w) Y.A c R s := by
  refine goes R (fun n t => ∃ i G, Inv Y pins τ G t ∧ tn i t.heap ∧ (∀ b ∈ fp, G b = none) ∧ W i n G) (fun n t ⟨i, G, IG, sG, nG, wG⟩ => ?_) m s ⟨0, H, I, st, nf, w0⟩
  have fG := fun b hb => free _ _ _ IG b hb (nG b hb)
  rcases rounds i n G wG with ⟨hs, ho⟩ | ⟨hg, Nx, hN, step⟩
  · refine thnF (T.done Y rfl rfl rfl calm i pins t τ G (fun _ _ => False) IG fG sG hs) fun r t1 h => ?_
    obtain ⟨rfl, I1⟩ := h
    exact done t1 G I1 ho
  refine thnF (T.item Y rfl rfl rfl calm i pins t τ G (fun _ _ => False) IG fG sG hg) fun r t1 h => ?_
  obtain ⟨u, rfl, h⟩ := h
  refine thnF h fun _ t2 h => ?_
  obtain ⟨x, G2, I2, rx, hy, s2, n2⟩ := h
  have P2 := I2.pinned (fun b hb => free _ _ _ I2 b hb (n2 b hb)) (T.obj _ _ s2)
  have leave : ∀ (t' : Shared) (G' : Hp) (σ' : L2.St), Inv Y (pins ++ pinsAt fp t2.heap) σ' G' t' → τ.length = σ'.length → (∀ (j : Nat) v, τ[j]? = some (some v) → σ'[j]? = some (some v)) → Nx G' →
      ∃ k, k < n ∧ ∃ i G, Inv Y pins τ G t' ∧ tn i t'.heap ∧ (∀ b ∈ fp, G b = none) ∧ W i k G := fun t' G' σ' I' l e nx => by
    obtain ⟨k, lk, wk⟩ := hN G' nx
    have at_ : ∀ b ∈ fp, ∀ o, t2.heap.get? b = some o → t'.heap.get? b = some o ∧ G' b = none := fun b hb o eo =>
      have p := I'.pin (b, o) (List.mem_append_right _ (List.mem_append_right _ (mem_pinsAt hb eo)))
      ⟨p.1, p.2.1⟩
    exact ⟨k, lk, i + 1, G', I'.unpinned.weak l e, T.keep _ _ _ s2 fun b hb o eo => (at_ b hb o eo).1, fun b hb => let ⟨o, eo, _⟩ := T.obj _ _ s2 b hb; (at_ b hb o eo).2, wk⟩
  have stored := pg.run _ t2 τ G2 x u _ P2 rx (step x G2 hy)
  rw [mute] at stored
  refine thnF stored fun _ t3 h => ?_
  obtain ⟨σ3, G3, I3, hw, h⟩ := h
  have hl : τ.length = σ3.length := by rw [← show wipe σ3 vs = τ from hw, wipe_length]
  have he : ∀ (j : Nat) v, τ[j]? = some (some v) → σ3[j]? = some (some v) := fun j v e => by
    rw [← show wipe σ3 vs = τ from hw] at e
    exact (wipe_some e).1
  have tested := pt.run _ t3 σ3 G3 _ I3 h
  rw [mute] at tested
  refine thnF tested fun b t4 h => ?_
  obtain ⟨G4, I4, h⟩ := h
  cases b with
  | false => exact leave t4 G4 σ3 I4 hl he h
  | true => exact acts _ t2.heap t4 σ3 G4 Nx _ I4 hw h leave
section
variable {X : Cx} {pins : List (Addr × Obj)} {σ : L2.St} {H : Hp} {s : Shared}
/-- a fresh object of the block's, laid by a constructor -/
def Makes (X : Cx) (mk : Sem Value) (o : Addr → HO) : Prop := ∀ (pins : List (Addr × Obj)) (σ : L2.St) (H : Hp) (s : Shared) (Q : Value → Shared → Prop) (E : Value → Shared → Prop), Inv X pins σ H s →
  (∀ (D : Addr) (t : Shared), D = s.heap.objs.size → H D = none → (∀ b u, s.heap.get? b = some u → t.heap.get? b = some u) → t.heap.objs.size = D + 1 → Inv X pins σ (upd H D (o D)) t → Q (.ref D) t) → wpAny (model X.prog X.w) X.A mk Q E s
/-- a comprehension: its constructor, its first clause's turns; what is done with an item is told by Body and act -/
theorem comp_any {Q : VK} {ce tg iter : Expr} {cs : List Expr} {rest : List Comprehension} {scope : Scope} {own : List (PySem.Str × Nat)} {pos : Pos} {wi : TI} {g : TG} {tt : TT} {mk : Sem Value} {o : Addr → HO} {use : Option (Value → Sem Unit)} {Qf : Value → Shared → Prop}
    {act : Value → Env → (Value → Shared → Prop) → (Shared → Prop) → Shared → Prop} {Body : Addr → (Hp → Prop) → L2.St → Hp → Prop}
    (hcl : clausesOf ce = ⟨tg, iter, cs, 0⟩ :: rest) (hmk : Makes X mk o) (goes : ∀ (it acc : Addr) (env : Env), Goes X.prog X.w X.A (.compLoop ce 0 (.ref it) (.ref acc) env) (.ref it) tg cs env (act (.ref acc) env))
    (start : ∀ (R : Result → Shared → Prop) (s : Shared) (it acc : Value) (env : Env), codeAny (model X.prog X.w) X.A (.compLoop ce 0 it acc env) R s →
      wpAny (model X.prog X.w) X.A (pyIter it) (fun it' t => codeAny (model X.prog X.w) X.A (.compLoop ce 0 it' acc env) R t) (notedBy (model X.prog X.w) X.A env fun x t => R (.error x) t) s → codeAny (model X.prog X.w) X.A (.compStart ce 0 it acc env) R s)
    (calm : X.calm = true) (nod : X.N.Nodup) (I : Inv X pins σ H s) (pit : PI X tg iter wi) (bk : BlkOk X.N X.env.scope scope own)
    (ptg : ∀ (s : Shared) (H : Hp) (C : Addr) (cl : List (PySem.Str × Addr)) (fp : List Addr), PG (X.blk s H scope (compEnvC scope cl C X.env) fp) tg g) (ptt : ∀ (s : Shared) (H : Hp) (C : Addr) (cl : List (PySem.Str × Addr)) (fp : List Addr), PTs (X.blk s H scope (compEnvC scope cl C X.env) fp) cs tt)
    (fold : ∀ x, foldedSetIterable iter X.env x = pure x)
    (rd : wi σ H fun J H1 => ∀ D, H1 D = none → ∃ W : Nat → Nat → Hp → Prop, (∃ m, W 0 m (upd H1 D (o D))) ∧ Rounds J g tt (wipe σ (own.map (·.2))) W (fun G => Q (.ref D) G) (fun σ => wipe σ (own.map (·.2))) (Body D))
    (acts : ∀ (s0 : Shared) (H0 : Hp) (C : Addr) (cl : List (PySem.Str × Addr)) (fp : List Addr) (D : Addr) (E : Value → Shared → Prop) (pins : List (Addr × Obj)) (s : Shared) (σ2 : L2.St) (G : Hp) (Nx : Hp → Prop) (next : Shared → Prop), Inv (X.blk s0 H0 scope (compEnvC scope cl C X.env) fp) pins σ2 G s →
      wipe σ2 (own.map (·.2)) = wipe σ (own.map (·.2)) → Body D Nx σ2 G →
      (∀ s' H' σ', Inv (X.blk s0 H0 scope (compEnvC scope cl C X.env) fp) pins σ' H' s' → (wipe σ (own.map (·.2))).length = σ'.length → (∀ (j : Nat) v, (wipe σ (own.map (·.2)))[j]? = some (some v) → σ'[j]? = some (some v)) → Nx H' → next s') → act (.ref D) (compEnvC scope cl C X.env) E next s)
    (back : ∀ D C t m G, Inv X pins σ G t → Q (.ref D) G → t.heap.Ns C m → FpOk X pins G C → compPost (model X.prog X.w) X.A X.xe use Qf (.ref D) C (.ok .next) t) :
    wpAny (model X.prog X.w) X.A (comprehension ce scope X.env pos mk false (eval iter X.env) use) Qf X.xe s := by
  have reach : ∀ y ∈ scope.names, y.2 = .free → ∃ c, X.env.cells.lookup y.1 = some c := fun y hy e => I.ok.has _ (bk.free y hy e)
  refine wpAny_comprehension_free (use := use) hcl fold (closure_ok reach) bk.kind (fun y hy e => (bk.uniq y hy).trans (congrArg some e)) (thn (pit.run pins s σ H _ I rd) fun _ _ h1 => thn h1 fun _ t2 h2 => ?_)
  obtain ⟨it, fp, tn, J, G2, rfl, I2, T, sT, fr, h⟩ := h2
  refine hmk pins σ G2 t2 _ _ I2 fun D t3 eD nD up size I3 => newEnv_comp ?_
  obtain ⟨W, ⟨m, w0⟩, rounds⟩ := h D nD
  have old : ∀ b ∈ fp, b < t2.heap.objs.size := fun b hb => let ⟨u, e, _⟩ := T.obj _ _ sT b hb; Heap.lt_size e
  have fr3 : ∀ b ∈ fp, FpOk X pins (upd G2 D (o D)) b ∧ b < t3.heap.objs.size := fun b hb => by
    have l := old b hb
    exact ⟨⟨(upd_ne (by rw [eD]; exact Nat.ne_of_lt l)).trans (fr b hb).1, (fr b hb).2⟩, by rw [size, eD]; exact Nat.lt_succ_of_lt l⟩
  have I4 := block_start I3 bk nod fr3
  have k4 : ∀ b u, t2.heap.get? b = some u → (pushCells (t3.heap.push { cls := .type "dict", data := .dict #[] }) scope.names).get? b = some u := fun b u e => pushCells_keeps _ _ _ _ (Heap.get?_push_of_some _ (up b u e))
  generalize ecl : cellsFrom (t3.heap.objs.size + 1) scope.names (cloFrom X.env.cells scope.names []) = cl at I4
  generalize eG : upd G2 D (o D) = G3 at I3 I4 w0 fr3
  generalize eC : t3.heap.objs.size = C at I4
  have lC : (compEnvC scope cl C X.env).locals = C := rfl
  refine start _ _ _ _ _ ?_ (T.self X.A 0 _ _ _ (T.keep _ _ _ sT fun b hb u e => k4 b u e) ?_)
  all_goals
    show codeAny _ _ (.compLoop ce 0 (.ref it) (.ref D) (compEnvC scope cl C X.env)) (compPost (model X.prog X.w) X.A X.xe use Qf (.ref D) C) _
    refine walk_clause (Y := X.blk t3 G3 scope (compEnvC scope cl C X.env) fp) (pins := []) (goes it D _) calm rfl T (ptg t3 G3 C cl fp) (ptt t3 G3 C cl fp) (fun τ G t J b hb hn => ⟨hn, (J.ok.exf b hb).1, J.ok.exfs b hb, .inl hb, fun x c e => (J.ok.exf b hb).2 x c e, fun p hp => absurd (show p ∈ ([] : List (Addr × Obj)) ++ [] from hp) (by simp)⟩)
      rounds (fun t G J q => ?_) (fun E h t σ2 G Nx next J e hb fin => acts t3 G3 C cl fp D E _ t σ2 G Nx next J e hb fin) I4 (T.keep _ _ _ sT fun b hb u e => k4 b u e) (fun b hb => (fr3 b hb).1.1) w0
    have K : Inv X pins σ G t := I3.call' (ch := fp) J.os J.base J.hok J.bare fun b hb => let ⟨_, f1, _, f3, f4, f5⟩ := (fr3 b hb).1; ⟨f3, f1, f4, f5⟩
    obtain ⟨mm, hn, _⟩ := J.loc
    exact back D C t mm G K q hn (I3.fpOk (Nat.le_of_eq eC) J.free)
end
end TS

set_option maxHeartbeats 2000000
/-! ### 7. set comprehensions of ints and texts, and how many there are -/
namespace TS
open PySem PySem.Spec PyProof.Rows L2 PpSet
section
variable {X : Cx}
theorem setK_fresh {P : Program} {w : World} {h : Heap} : (h.push { cls := .type "set", dict := none, data := .set #[] 0 (.fresh 0 0 (!w.params.followText "set-order")) }).SetOf (mixKind P w) h.objs.size (fun _ => false) 0 :=
  ⟨_, #[], 0, _, Heap.get?_push_size h rfl, ⟨rfl, rfl, rfl⟩, rfl, (fun e z => by simp at z), (fun k => by simp), (by decide), (by rfl), rfl⟩
theorem makes_set : Makes X (newSet (.type "set")) fun D => SetK X.prog X.w D (fun _ => false) 0 := fun pins σ H s Q E I q => by
  refine newSet_ok (q _ _ rfl (I.hok.fresh (Nat.le_refl _)) (fun b u e => Heap.get?_push_of_some _ e) (Heap.size_push ..) ?_)
  exact I.laid (t' := s.toks) (fun b u e => Heap.get?_push_of_some _ e) (Nat.le_refl _) (setK_new setK_fresh)
theorem addK_ok {pins : List (Addr × Obj)} {σ : L2.St} {H : Hp} {s : Shared} {E : Value → Shared → Prop} {D : Addr} {S : Key → Bool} {n : Nat} {k : Key} {u : Value} {Q : Value → Shared → Prop} (J : Inv X pins σ H s) (eD : H D = some (SetK X.prog X.w D S n)) (rk : RelV (kV k) u)
    (room : n + 1 < scanBound) (q : ∀ t, Inv X pins σ (upd H D (SetK X.prog X.w D (fun j => S j || decide (j = k)) (if S k = true then n else n + 1))) t → Q .none t) : wpAny (model X.prog X.w) X.A (call (.builtin "set.add") [.ref D, u]) Q E s := by
  refine call_set_add (kV_is rk) (key_scan rk) (setK_get J eD) room fun hp sb nw => ?_
  have there : ∃ v, hp.get? D = some v := let ⟨o, _, _, _, ho, _⟩ := nw; ⟨o, ho⟩
  exact q _ (J.write (e := D) (t' := s.toks + 1) (by rw [eD]; trivial) (.inl rfl) (fun b v hb hv => (sb.2 b hb).trans hv) there (setK_new nw))
/-- what is asked of an item that goes into the set D -/
def setBody (P : Program) (w : World) (te : TE) (D : Addr) (Nx : Hp → Prop) (σ2 : L2.St) (H3 : Hp) : Prop :=
  te σ2 H3 fun y H4 => ∃ (k : Key) (S : Key → Bool) (n : Nat), y = kV k ∧ H4 D = some (SetK P w D S n) ∧ n + 1 < scanBound ∧ Nx (upd H4 D (SetK P w D (fun j => S j || decide (j = k)) (if S k = true then n else n + 1)))
/-- {elt for target in iter if ..}, elt an int or a text: D the new set -/
def tScK (P : Program) (w : World) (wi : TI) (g : TG) (tt : TT) (te : TE) (vs : List Nat) : TE := fun σ H Q => wi σ H fun J H1 => ∀ D, H1 D = none → ∃ Wt : Nat → Nat → Hp → Prop, (∃ m, Wt 0 m (upd H1 D (SetK P w D (fun _ => false) 0))) ∧ ∀ i m H, Wt i m H →
  (J.stop i H ∧ Q (.ref D) H) ∨ (J.go i H ∧ ∃ Nx : Hp → Prop, (∀ G, Nx G → ∃ m', m' < m ∧ Wt (i + 1) m' G) ∧ ∀ x G, J.yld i H x G → g x (wipe σ vs) G fun σ2 H2 => wipe σ2 vs = wipe σ vs ∧ tt σ2 H2 fun b H3 =>
    if b = true then te σ2 H3 fun y H4 => ∃ (k : Key) (S : Key → Bool) (n : Nat), y = kV k ∧ H4 D = some (SetK P w D S n) ∧ n + 1 < scanBound ∧ Nx (upd H4 D (SetK P w D (fun j => S j || decide (j = k)) (if S k = true then n else n + 1))) else Nx H3)
/-- as a value -/
theorem pe_scK {elt tg iter : Expr} {ifs : List Expr} {scope : Scope} {own : List (PySem.Str × Nat)} {pos : Pos} {wi : TI} {g : TG} {tt : TT} {te : TE} (calm : X.calm = true) (nod : X.N.Nodup) (pit : PI X tg iter wi) (bk : BlkOk X.N X.env.scope scope own)
    (ptg : ∀ (s : Shared) (H : Hp) (C : Addr) (cl : List (PySem.Str × Addr)) (fps : List Addr), PG (X.blk s H scope (compEnvC scope cl C X.env) fps) tg g) (ptt : ∀ (s : Shared) (H : Hp) (C : Addr) (cl : List (PySem.Str × Addr)) (fps : List Addr), PTs (X.blk s H scope (compEnvC scope cl C X.env) fps) ifs tt)
    (pel : ∀ (s : Shared) (H : Hp) (C : Addr) (cl : List (PySem.Str × Addr)) (fps : List Addr), PE (X.blk s H scope (compEnvC scope cl C X.env) fps) elt te) (fold : ∀ x, foldedSetIterable iter X.env x = pure x := by intro _; rfl) :
    PE X (.SetComp elt [⟨tg, iter, ifs, 0⟩] scope pos) (tScK X.prog X.w wi g tt te (own.map (·.2))) := by
  refine ⟨fun pins s σ H Q I rd => ?_⟩
  rw [eval_SetComp]
  refine comp_any (rest := []) (Body := setBody X.prog X.w te) (act := fun acc env E next s => wpAny (model X.prog X.w) X.A (eval elt env) (fun v t => wpAny (model X.prog X.w) X.A (call (.builtin "set.add") [acc, v]) (fun _ t => next t) E t) E s) rfl makes_set
    (fun it acc env R I turn n s h => compLoopS_any I turn n h) (fun R s it acc env h0 h => codeAny_compStart_set h0 h) calm nod I pit bk ptg ptt fold rd (fun s0 H0 C cl fp D E pins s σ2 G Nx next J e hb fin => ?_)
    fun D C t m G J q hn f => ⟨m, hn, fun h2 sb => ?_⟩
  · refine thnF ((pel s0 H0 C cl fp).run _ s σ2 G _ J hb) fun v t h => ?_
    obtain ⟨y, G2, J2, ry, k, S, n, rfl, eD, room, nx⟩ := h
    refine addK_ok (X := X.blk s0 H0 scope (compEnvC scope cl C X.env) fp) J2 eD ry room fun t2 J3 => fin t2 _ σ2 J3 (by rw [← e, wipe_length]) (fun j x q => ?_) nx
    rw [← e] at q
    exact (wipe_some q).1
  · obtain ⟨f0, f1, _, f3, f4, f5⟩ := f
    exact ⟨.ref D, G, J.turned (t' := t.toks) (fun b o hb e => (sb.2 b hb).trans e) f0 f1 f3 f4 f5, rfl, q⟩
def rLenSet (P : Program) (w : World) : List V → Hp → VK → Prop := fun xs H Q => ∃ (a : Addr) (S : Key → Bool) (n : Nat), xs = [.ref a] ∧ H a = some (SetK P w a S n) ∧ n < 2 ^ 40 ∧ Q (.int n) H
theorem len_setK : CallR X (.builtin "len") (rLenSet X.prog X.w) := by
  intro pins s σ H xs us Q J r rd
  obtain ⟨a, S, n, rfl, ea, hn, q⟩ := rd
  obtain ⟨u, rfl, ra⟩ := vals1 r
  cases ra
  have ⟨o, es, ep, t, ho, hx, hd, h1, h2, h3, h4, h5⟩ := setK_get J ea
  subst h5
  exact call_len_set ho hx hd h4 (by have := hn; omega) ⟨.int es.size, H, J.kept fun _ _ z => z, ⟨_, rfl⟩, q⟩
end
end TS

set_option maxHeartbeats 2000000
/-! ### 8. enumerate over a tuple; readings by either of two ways -/
namespace PySem
open Sem (wp)
open AutoSeq1 (wpAny_loadPart')
theorem ts_enum_newT (l : Addr) (items : Array Value) (n : Nat) (dct : Option Addr) (sl : Array (Option Value)) :
    Meets (Builtin.«enumerate.__new__» ⟨[.type "enumerate", .ref l], []⟩) (fun _ R s => s.heap.get? l = some { cls := .type "tuple", dict := dct, data := .seq items n, slots := sl } ∧
      R (.ok (.ret (.ref (s.heap.push { cls := .type "tuple_iterator", data := .fields #[.ref l, .int 0 0] }).objs.size)))
        { s with heap := (s.heap.push { cls := .type "tuple_iterator", data := .fields #[.ref l, .int 0 0] }).push { cls := .type "enumerate", data := .fields #[.none, .bool false, .ref s.heap.objs.size, rawInt 0, .none, .none] } }) :=
  .of_wp fun prog w A R s h => by
    obtain ⟨hp, g, d, tk, os⟩ := s
    obtain ⟨there, rest⟩ := h
    have se := sub_enumerate
    have tup : Heap.IsTuple (Shared.heap ⟨hp, g, d, tk, os⟩) l items := ⟨_, there, rfl, n, rfl⟩
    wp_walk using wpAny_loadPart' there
    refine wpAny_stack_any fun st => wpAny_pure ?_
    split
    · rename_i c _ _ _ _ _
      cases (c == Value.type "enumerate")
      · wp_walk using wpAny_loadPart' there, wpAny_pyIter_tuple tup
        exact ⟨_, rfl, rest⟩
      · wp_walk using wpAny_loadPart' there, wpAny_pyIter_tuple tup
        exact ⟨_, rfl, rest⟩
    · wp_walk using wpAny_loadPart' there, wpAny_pyIter_tuple tup
      exact ⟨_, rfl, rest⟩
theorem ts_call_enumT {prog : Program} {w : World} {A : Around} {E : Value → Shared → Prop} {s : Shared} {l : Addr} {items : Array Value} {Q : Value → Shared → Prop} (tup : s.heap.IsTuple l items)
    (q : ∀ G, IsEnum G (s.heap.objs.size + 1) s.heap.objs.size 0 .none → G.IsTupleIter s.heap.objs.size l 0 → (∀ b o, s.heap.get? b = some o → G.get? b = some o) → Q (.ref (s.heap.objs.size + 1)) { s with heap := G }) :
    wpAny (model prog w) A (call (.type "enumerate") [.ref l]) Q E s := by
  obtain ⟨⟨c, dct, dt, sl⟩, there, ec, n, ed⟩ := tup
  replace ec : c = .type "tuple" := ec
  replace ed : dt = .seq items n := ed
  subst ec ed
  refine callType_new F.called_enumerate (by decide) (F.typeCall_enumerate_1 _) (F.newCall_enumerate_1 _) (fun z => F.args_object_init_2 z _) F.entry_enumerate_new (ts_enum_newT l items n dct sl) ⟨there, ?_⟩
  have sz : (s.heap.push { cls := .type "tuple_iterator", data := .fields #[.ref l, .int 0 0] }).objs.size = s.heap.objs.size + 1 := Heap.size_push ..
  show _ ∧ _
  rw [sz]
  have en : IsEnum ((s.heap.push { cls := .type "tuple_iterator", data := .fields #[.ref l, .int 0 0] }).push
      { cls := .type "enumerate", data := .fields #[.none, .bool false, .ref s.heap.objs.size, rawInt 0, .none, .none] }) (s.heap.objs.size + 1) s.heap.objs.size 0 .none := by
    have z := Heap.get?_push_size (s.heap.push { cls := .type "tuple_iterator", data := .fields #[.ref l, .int 0 0] })
      (o := { cls := .type "enumerate", data := .fields #[.none, .bool false, .ref s.heap.objs.size, rawInt 0, .none, .none] }) rfl
    rw [sz] at z; exact z
  exact ⟨⟨_, en, rfl⟩, q _ en ⟨_, Heap.get?_push_of_some _ (Heap.get?_push_size _ rfl), rfl, rfl⟩ fun b o x => Heap.get?_push_of_some _ (Heap.get?_push_of_some _ x)⟩
end PySem
namespace TS
open PySem PySem.Spec PyProof.Rows L2
/-- the tuple at a, the items in new pairs with their places -/
def IteT (K : PySem.W.Frag) (a : Addr) : It :=
  ⟨fun i H => ∃ (xs : List V) (x : V), SqT K H a xs ∧ xs[i]? = some x,
    fun i H v G => ∃ T x, v = .ref T ∧ H T = none ∧ G = upd H T (.tup [.int (i : Nat), x]) ∧ ∀ xs, SqT K H a xs → xs[i]? = some x,
    fun i H => ∃ xs : List V, SqT K H a xs ∧ xs.length ≤ i⟩
theorem turn_enumT {P : Program} {w : World} {K : PySem.W.Frag} {elts : List Expr} {kk : Nat} {tpos : Pos} (a e it : Addr) :
    Turn P w K (.Tuple elts kk tpos) (IteT K a) [e, it] e (fun i h => (∃ old, IsEnum h e it i old) ∧ h.IsTupleIter it a i ∧ e ≠ it) where
  mem := by simp
  obj := fun i h st b hb => by
    obtain ⟨⟨old, en⟩, ⟨o, ho, hc, hd⟩, _⟩ := st
    have e' : b = e ∨ b = it := by simpa using hb
    rcases e' with z | z
    · rw [z]; exact ⟨_, en, fun v q => nomatch q⟩
    · rw [z]; exact ⟨o, ho, fun v q => by rw [hd] at q; cases q⟩
  keep := fun i h G st k => let ⟨⟨old, en⟩, ti, ne⟩ := st; ⟨⟨old, k e (by simp) _ en⟩, ti.at fun o q => k it (by simp) o q, ne⟩
  item := by
    intro X hP hw hK hc i pins s σ H E J hf st hg
    subst hP hw hK
    obtain ⟨⟨old, en⟩, ti, ne⟩ := st
    obtain ⟨xs, x, hq, hx⟩ := hg
    obtain ⟨its, rv, p, hz⟩ := J.tuple hq
    obtain ⟨u, hu, ru⟩ := rv.get hx
    have p' : s.heap.IsTuple a its.toArray := p
    have lte : e < s.heap.objs.size := Heap.lt_size en
    have lti : it < s.heap.objs.size := by obtain ⟨_, q, _⟩ := ti; exact Heap.lt_size q
    have nai : a ≠ it := fun z => by
      obtain ⟨o, ho, hc1, hd1⟩ := ti
      obtain ⟨o2, ho2, hc2, _⟩ := p'
      rw [z, ho] at ho2
      cases ho2
      rw [hc1] at hc2
      exact absurd hc2 (by decide +kernel)
    have nae : e ≠ a := fun z => by
      obtain ⟨o2, ho2, hc2, _⟩ := p'
      rw [← z] at ho2
      have en' : s.heap.get? e = some _ := en
      rw [en'] at ho2
      cases ho2
      exact absurd (show Value.type "enumerate" = Value.type "tuple" from hc2) (by decide +kernel)
    have ui : its.toArray[i]? = some u := by simpa using hu
    have lt : i < its.toArray.size := by
      rcases Nat.lt_or_ge i its.toArray.size with z | z
      · exact z
      · rw [Array.getElem?_eq_none z] at ui; cases ui
    have hd := J.ok.hd hc
    refine wpAny_pyNext_enum_itemD (Draws.tuple (by exact hd) it a nai its.toArray) en ⟨ti, p'⟩ lt ne (by simp [ne, nae]) fun y G tk hy ho st' hT hsz hk => ?_
    rw [ui] at hy
    cases hy
    refine ⟨_, rfl, wpAny_letOwnedTupleGo_enum (s := { s with heap := G, toks := tk + 1 }) ho fun G2 en' sb => ?_⟩
    have hT2 : G2.get? s.heap.objs.size = some { cls := .type "tuple", data := .seq #[.int i tk, u] } := (sb.2 _ (Nat.ne_of_gt lte)).trans hT
    have new : ObjOk X.prog X.w (upd H s.heap.objs.size (.tup [.int (i : Nat), x])) G2 s.heap.objs.size (.tup [.int (i : Nat), x]) :=
      ⟨by show 2 ≤ sizeLine; decide, [.int i tk, u], .cons ⟨_, rfl⟩ (.cons ru .nil), ⟨_, hT2, rfl, _, rfl⟩⟩
    have J1 : Inv X pins σ (upd H s.heap.objs.size (.tup [.int (i : Nat), x])) { s with heap := G2, toks := tk + 1 } :=
      J.turnedNew (ch := [e, it]) (fun b ob hb q => (sb.2 b (fun z => hb (by simp [z]))).trans (hk b ob (fun z => hb (by simp [z])) (fun z => hb (by simp [z])) q)) hf (Nat.le_refl _) new
    refine ⟨.ref s.heap.objs.size, _, J1, rfl, ⟨_, x, rfl, J.hok.fresh (Nat.le_refl _), rfl, fun ys hy => by rw [J.tuple_inj hy hq]; exact hx⟩, ⟨⟨u, ?_⟩, st'.1.at fun o q => (sb.2 it (Ne.symm ne)).trans q, ne⟩, fun b hb => ?_⟩
    · have e1 : ((i + 1 : Nat) : Int) = (i : Int) + 1 := by omega
      rw [e1]; exact en'
    · have lb : b < s.heap.objs.size := by
        have e' : b = e ∨ b = it := by simpa using hb
        rcases e' with z | z
        · rw [z]; exact lte
        · rw [z]; exact lti
      rw [upd_ne (Nat.ne_of_lt lb)]
      exact (hf b hb).1
  done := by
    intro X hP hw hK hc i pins s σ H E J hf st hg
    subst hP hw hK
    obtain ⟨⟨old, en⟩, ti, ne⟩ := st
    obtain ⟨xs, hq, hx⟩ := hg
    obtain ⟨its, rv, p, hz⟩ := J.tuple hq
    obtain ⟨f0, f1, f2, f3, f4, f5⟩ := hf it (by simp)
    have hl := rv.length
    have p' : s.heap.IsTuple a its.toArray := p
    have hT : s.TypeIs (.ref e) "enumerate" := ⟨_, en, rfl⟩
    have hd := J.ok.hd hc
    unfold pyNext
    refine wpAny_bind (wpAny_attempt (wpAny_callSpecial?_slot (name := Str.ofString "__next__") hT F.slot_enumerate_next
      (wpAny_call_entry F.slot_enumerate_next hT F.entry_enumerate_next ?_ (F.args_enumerate_next_1 _))))
    show wpAny _ _ (field (.ref e) 2 >>= _) _ _ _
    refine wpAny_bind (wpAny_field en rfl (x := .ref it) rfl ?_)
    refine wpAny_bind (wpAny_nextOf_tuple_end (by exact hd) ti p' (by simp; omega) fun G x eb hx' => ?_)
    obtain ⟨o, ho, hco⟩ := hx'
    refine wpAny_bind (wpAny_isInstance (T := "StopIteration") (b := true) ⟨o, ho, hco⟩ isSubtype_stop ?_)
    exact wpAny_pure ⟨rfl, J.turned (t' := s.toks) (fun b o hb q => eb b o hb q) f0 f1 f3 f4 f5⟩
  self := fun A i s Q E st h => let ⟨⟨_, en⟩, _⟩ := st; wpAny_pyIter_enum en h
def iEnumT (K : PySem.W.Frag) (ta : TA) : TI := fun σ H R => ta σ H fun vs H1 => ∃ a xs, vs = [.ref a] ∧ SqT K H1 a xs ∧ R (IteT K a) H1
theorem pi_enumT {X : Cx} {K : PySem.W.Frag} {e : Expr} {ta : TA} {p pos tpos : Pos} {elts : List Expr} {kk : Nat} (hK : X.K = K) (hg : Gl X "enumerate") (hm : X.mg "enumerate" = none) (ha : PA X [e] ta) (hs : starEach [e] X.env = [(false, eval e X.env)] := by rfl) :
    PI X (.Tuple elts kk tpos) (.Call (.Name "enumerate" p) [e] [] pos) (iEnumT K ta) := by
  subst hK
  refine ⟨fun pins s σ H R J h => ?_⟩
  refine Call_ (ld_blt J hg hm boot_enumerate (PyProof.Rows.callWith_type1 (thn (ha.run pos pins s σ H _ J h) fun us t ⟨vs, H1, J1, r1, q1⟩ => ?_) hs rfl))
  obtain ⟨a, xs, ex, hq, q⟩ := q1
  subst ex
  obtain ⟨u, rfl, ra⟩ := vals1 r1
  cases ra
  obtain ⟨its, rv, p', hz⟩ := J1.tuple hq
  refine ts_call_enumT (show t.heap.IsTuple a its.toArray from p') fun G en ti hk => wpAny_pyIter_enum en ?_
  have J2 : Inv X pins σ H1 { t with heap := G } := J1.kept (t' := t.toks) hk
  refine ⟨t.heap.objs.size + 1, [t.heap.objs.size + 1, t.heap.objs.size], _, _, H1, rfl, J2, turn_enumT a (t.heap.objs.size + 1) t.heap.objs.size, ⟨⟨.none, en⟩, ti, Nat.succ_ne_self _⟩, fun b hb => ?_, q⟩
  have le : t.heap.objs.size ≤ b := by
    have e' : b = t.heap.objs.size + 1 ∨ b = t.heap.objs.size := by simpa using hb
    rcases e' with z | z <;> rw [z]
    · exact Nat.le_add_right _ _
    · exact Nat.le_refl _
  exact J1.fpOk le (J1.hok.fresh le)
theorem walk_enumT {K : PySem.W.Frag} {a : Addr} {xs : List V} : Walk (IteT K a) xs.length (fun H => SqT K H a xs) (YPair (fun i => some (.int (i : Nat))) (fun i => xs[i]?)) := by
  refine ⟨fun i _ hi q => ⟨xs, xs[i], q, by simp [hi]⟩, fun _ q => ⟨xs, q, Nat.le_refl _⟩, fun i H v G _ q y => ?_⟩
  obtain ⟨T, x, h1, h2, h3, h4⟩ := y
  exact ⟨T, .int (i : Nat), x, h1, h2, h3, rfl, h4 xs q⟩
/-! either of two readings -/
section
variable {X : Cx} {e tg : Expr} {t1 t2 : TE} {i1 i2 : TI}
theorem pe_either (h1 : PE X e t1) (h2 : PE X e t2) : PE X e (fun σ H Q => t1 σ H Q ∨ t2 σ H Q) := ⟨fun pins s σ H Q J h => h.elim (h1.run pins s σ H Q J) (h2.run pins s σ H Q J)⟩
theorem pi_either (h1 : PI X tg e i1) (h2 : PI X tg e i2) : PI X tg e (fun σ H R => i1 σ H R ∨ i2 σ H R) := ⟨fun pins s σ H R J h => h.elim (h1.run pins s σ H R J) (h2.run pins s σ H R J)⟩
end
end TS

set_option maxHeartbeats 2000000
/-! ### 9. defs that raise; own exceptions with one field; several except clauses -/
namespace TS
open PySem PySem.Spec PyProof.Rows L2
/-- a method's def at f -/
def DefM (K : PySem.W.Frag) (f : Addr) (m qual : Str) (st : Stmt) : Prop := ∃ fd, FunD K m qual (defArgs st) (defBody st) (defScope st) [] [] f fd
/-- a promise by the def's place -/
def PromA (CX : CXT) (P : Program) (w : World) (K : PySem.W.Frag) (mg : Str → Option Value) (base : Heap) (k : Nat) (f : Addr) (ps : List Str) (sp : Sp) : Prop := ∃ fd, FnOk P w K mg base CX k f fd ps sp ∧ Binds K fd ps []
/-- a def that may raise, by its name -/
def PromX (P : Program) (w : World) (K : PySem.W.Frag) (mg : Str → Option Value) (base : Heap) (k : Nat) (x : Str) (ps : List Str) (sp : Sp) : Prop :=
  ∃ f, PromA (L2.CX P w) P w K mg base k f ps sp ∧ mg x = some (.ref f) ∧ PySem.W.keepIn K (.ref f) = true
section
variable {P : Program} {w : World} {K : PySem.W.Frag} {mg : Str → Option Value} {base : Heap} {N ps : List Str} {k : Nat} {sp : Sp} {x m qual : Str} {st : Stmt} {f : Addr}
theorem meth_mk (D : DefM K f m qual st) (S : FnScope N ps (defScope st)) (len : ∀ vs H Q E, sp vs H Q E → vs.length = ps.length)
    (hb : ∀ (kV doc pm : Value) (an : Option Addr) (cdv ct : Value) (us : List Value), us.length = ps.length → bindArgs (PySem.W.fnOf m qual (defArgs st) (defBody st) (defScope st) .none kV doc pm an cdv ct) ⟨us, []⟩ = pure (ps.zip us))
    (body : ∀ (cdv : Value) (A : Around) (outer : List Env) (s : Shared) (H : Hp) (vs : List V) (Q : VK) (E : XK), Room k (A.deeper (envOfC qual (defScope st) s.heap.objs.size f cdv)) → sp vs H Q E →
      ∃ t, PSs (cxOf CX0 P w K mg base N qual (defScope st) f cdv A outer s H E).nox (defBody st) t ∧ t { nx := fun _ G => Q .non G, rt := Q } (start N vs) H) : PromA CX0 P w K mg base (k + 1) f ps sp := by
  obtain ⟨fd, F⟩ := D
  refine ⟨fd, F.ok S len fun cdv A outer s H vs Q E hr h => ?_, F.bindsN hb⟩
  obtain ⟨t, h1, h2⟩ := body cdv A outer s H vs Q E hr h
  exact ⟨t, h1.nox, h2⟩
theorem methX_mk (D : DefM K f m qual st) (S : FnScope N ps (defScope st)) (len : ∀ vs H Q E, sp vs H Q E → vs.length = ps.length)
    (hb : ∀ (kV doc pm : Value) (an : Option Addr) (cdv ct : Value) (us : List Value), us.length = ps.length → bindArgs (PySem.W.fnOf m qual (defArgs st) (defBody st) (defScope st) .none kV doc pm an cdv ct) ⟨us, []⟩ = pure (ps.zip us))
    (body : ∀ (cdv : Value) (A : Around) (outer : List Env) (s : Shared) (H : Hp) (vs : List V) (Q : VK) (E : XK), Room k (A.deeper (envOfC qual (defScope st) s.heap.objs.size f cdv)) → sp vs H Q E →
      ∃ t, PSs (cxOf (L2.CX P w) P w K mg base N qual (defScope st) f cdv A outer s H E) (defBody st) t ∧ t { nx := fun _ G => Q .non G, rt := Q } (start N vs) H) : PromA (L2.CX P w) P w K mg base (k + 1) f ps sp := by
  obtain ⟨fd, F⟩ := D
  exact ⟨fd, F.ok S len body, F.bindsN hb⟩
theorem promX_mk (D : Def K mg x st) (S : FnScope N ps (defScope st)) (len : ∀ vs H Q E, sp vs H Q E → vs.length = ps.length)
    (hb : ∀ (kV doc pm : Value) (an : Option Addr) (cdv ct : Value) (us : List Value), us.length = ps.length → bindArgs (PySem.W.fnOf x x (defArgs st) (defBody st) (defScope st) .none kV doc pm an cdv ct) ⟨us, []⟩ = pure (ps.zip us))
    (body : ∀ (f : Addr) (cdv : Value) (A : Around) (outer : List Env) (s : Shared) (H : Hp) (vs : List V) (Q : VK) (E : XK), Room k (A.deeper (envOfC x (defScope st) s.heap.objs.size f cdv)) → sp vs H Q E →
      ∃ t, PSs (cxOf (L2.CX P w) P w K mg base N x (defScope st) f cdv A outer s H E) (defBody st) t ∧ t { nx := fun _ G => Q .non G, rt := Q } (start N vs) H) : PromX P w K mg base (k + 1) x ps sp := by
  obtain ⟨f, fd, F, m⟩ := D
  exact ⟨f, ⟨fd, F.ok S len (body f), F.bindsN hb⟩, m, F.kp⟩
/-- in a def that may raise, what it lets out is taken -/
theorem takesF {E : XK} {qual : Str} {scope : Scope} {f : Addr} {cdv : Value} {A : Around} {outer : List Env} {s : Shared} {H : Hp} :
    Takes (cxOf (L2.CX P w) P w K mg base N qual scope f cdv A outer s H E) (fun cls d _ G => E cls d G) := takes_of rfl rfl rfl rfl
end
/-! calls of defs that may raise: what is let out goes to W -/
section
variable {X : Cx} {k : Nat} {f C : Addr} {ps : List Str} {sp : Sp} {W : WX} {x : Str} {p pos : Pos} {e : Expr} {es : List Expr} {t : TA}
theorem pe_pcX (pr : PromX X.prog X.w X.K X.mg X.base k x ps sp) (tk : Takes X W) (hr : Room k X.A) (hg : Gl X x) (ha : PA X (e :: es) t) (hdb : (x == ("__debug__" : Str)) = false := by decide)
    (he : starEach (e :: es) X.env = (false, eval e X.env) :: starEach es X.env := by rfl) (hpl : (backTo pos (starEach es X.env)).any (·.1) = false := by rfl) :
    PE X (.Call (.Name x p) (e :: es) [] pos) (tCallS sp (WE W) t) := by
  obtain ⟨f, ⟨fd, F, b⟩, m, kp⟩ := pr
  exact pe_callS F hr hg m kp b (fun σ => passAt tk σ) ha hdb he hpl
/-- C(e, ..) of an own class whose __init__ may raise -/
def tMakeS (C : Addr) (sp : Sp) (W : WX) (t : TA) : TE := fun σ H Q => t σ H fun vs H1 => ∀ x dx, H1 x = none → H1 dx = none → dx ≠ x →
  sp (.ref x :: vs) (upd (upd H1 dx (.own x)) x (.ins C dx [])) (fun v H2 => v = .non ∧ Q (.ref x) H2) (WE W σ)
theorem make_runS {fd : FuncData} {pins : List (Addr × Obj)} {σ : L2.St} {H : Hp} {s : Shared} {Q : VK} {us : List Value} {vs : List V} (M : Mk X.K C f) (F : FnOk X.prog X.w X.K X.mg X.base (L2.CX X.prog X.w) k f fd ps sp) (hr : Room (k + 1) X.A) (hb : Binds X.K fd ps [])
    (tk : Takes X W) (J : Inv X pins σ H s) (r : Vals vs us)
    (h : ∀ x dx, H x = none → H dx = none → dx ≠ x → sp (.ref x :: vs) (upd (upd H dx (.own x)) x (.ins C dx [])) (fun v H2 => v = .non ∧ Q (.ref x) H2) (WE W σ)) :
    wpAny (model X.prog X.w) X.A (call (.ref C) us) (EP X pins σ Q) X.xe s := by
  have q := h (s.heap.objs.size + 1) s.heap.objs.size (J.hok.fresh (Nat.le_succ _)) (J.hok.fresh (Nat.le_refl _)) (Nat.ne_of_lt (Nat.lt_succ_self _))
  have J2 := Inv.made (C := C) J
  have r2 : Vals (V.ref (s.heap.objs.size + 1) :: vs) (Value.ref (s.heap.objs.size + 1) :: us) := .cons rfl r
  have hl : (Value.ref (s.heap.objs.size + 1) :: us).length = ps.length := by rw [← r2.length]; exact F.len _ _ _ _ q
  have b := hb _ (Value.ref (s.heap.objs.size + 1) :: us) J2.kIn (by rw [List.append_nil]; exact hl)
  rw [List.append_nil] at b
  refine wpAny_call (make_map (f := f) J.kIn M.makes M.init (beq_iff_eq.mp M.fn) (codeAny_mono (F.run _ X.stack _ _ ⟨Value.ref (s.heap.objs.size + 1) :: us, []⟩ (Value.ref (s.heap.objs.size + 1) :: us) _ _ (WE W σ) (hr.make C us [])
    (J2.env0.make C us []) b r2 q) fun o t z => ?_))
  match o, z with
  | .error e, z => exact passAt tk σ pins _ _ e t J2 z
  | .ok (.ret u), z =>
    obtain ⟨v, G, J3, rv, ev, q3⟩ := J2.after z
    subst ev
    exact ⟨rv, ⟨V.ref (s.heap.objs.size + 1), G, J3, rfl, q3⟩⟩
theorem pe_makeS (M : Mk X.K C f) (pr : PromA (L2.CX X.prog X.w) X.prog X.w X.K X.mg X.base k f ps sp) (tk : Takes X W) (hr : Room (k + 1) X.A) (hg : Gl X x) (hm : X.mg x = some (.ref C)) (ha : PA X (e :: es) t) (hdb : (x == ("__debug__" : Str)) = false := by decide)
    (he : starEach (e :: es) X.env = (false, eval e X.env) :: starEach es X.env := by rfl) (hpl : (backTo pos (starEach es X.env)).any (·.1) = false := by rfl) :
    PE X (.Call (.Name x p) (e :: es) [] pos) (tMakeS C sp W t) := by
  obtain ⟨fd, F, b⟩ := pr
  refine ⟨fun pins s σ H Q J h => wpAny_Call_Name_kw (ld_glob J hg hm ?_ hdb)⟩
  exact PySem.W.callWith_K (h₀ := X.base) J.ok.mod.kin M.kp (thn (ha.run pos pins s σ H _ J h) fun us t ⟨vs, H1, J1, r, q⟩ => ⟨J1.kIn, make_runS M F hr b tk J1 r q⟩) he hpl
end
/-! len of an instance with its own __len__ -/
def rLenOwn (C : Addr) (sp : Sp) : List V → Hp → VK → Prop := fun xs H Q => ∃ a dx fs, xs = [.ref a] ∧ H a = some (.ins C dx fs) ∧ sp [.ref a] H (fun v G => ∃ n : Nat, v = .int n ∧ n < 2 ^ 40 ∧ Q (.int n) G) E0
theorem len_own {X : Cx} {k : Nat} {C f : Addr} {ps : List Str} {sp : Sp} (M : Meth X.K C "__len__" f) (pr : PromA CX0 X.prog X.w X.K X.mg X.base k f ps sp) (hr : Room (k + 1) X.A) : CallR X (.builtin "len") (rLenOwn C sp) := by
  intro pins s σ H xs us Q J r rd
  obtain ⟨a, dx, fs, rfl, ea, q⟩ := rd
  obtain ⟨u, rfl, ra⟩ := vals1 r
  cases ra
  obtain ⟨fd, F, hb⟩ := pr
  obtain ⟨mA, O, rr, _, _, _⟩ := ins_get J.hok ea
  obtain ⟨od, at_, _⟩ := O.look
  have b := hb s [.ref a] J.kIn (F.len _ _ _ _ q)
  refine Calls.call_function_entry PySem.kind_len PySem.plain_len PySem.entry_len (PySem.args_len1 _) ?_
  unfold Builtin.«len»
  refine wpAny_bind (m := oneArg "len" _) (wpAny_pure ?_)
  refine wpAny_bind (m := callSpecial? (.ref a) (Str.ofString "__len__")) (PySem.W.special_fn J.kIn at_ M.at_ (beq_iff_eq.mp M.fn) ?_)
  refine wpAny_call (codeAny_mono (F.run X.A.in1 X.stack s H ⟨[.ref a], []⟩ [.ref a] [.ref a] _ E0 hr.in1 J.env0.in1 b (.cons rfl .nil) q) fun o t z => ?_)
  match o, z with
  | .error e, z => exact pass0 pins σ H s e t J z
  | .ok (.ret u), z =>
    obtain ⟨v, G, J2, rv, n, rfl, hn, q2⟩ := J.after z
    obtain ⟨tk, rfl⟩ := rv
    show wpAny _ _ _ _ _ _
    refine wpAny_bind (wpAny_holding (wpAny_pure ?_))
    refine wpAny_bind (wpAny_letGo ?_)
    show wpAny _ _ (if ((n : Nat) : Int) < 0 then _ else _) _ _ _
    rw [if_neg (by omega)]
    show wpAny _ _ (if ((n : Nat) : Int) ≥ 2 ^ 63 then _ else _) _ _ _
    rw [if_neg (by omega)]
    exact wpAny_bind (wpAny_mkInt (wpAny_pure ⟨_, rfl, .int n, G, J2.kept fun _ _ z => z, ⟨_, rfl⟩, q2⟩))
end TS

set_option maxHeartbeats 2000000
namespace TS
open PySem PySem.Spec PyProof.Rows L2
/-- B is an own class over ValueError without an __init__ of its own -/
structure FamV (K : PySem.W.Frag) (B : Addr) : Prop where
  rd : ClX.CRead K B (.type "type")
  ini : PySem.W.findCls K (.ref B) (.type "type") "__init__" = some (.val (.builtin "ValueError.__init__"))
/-- C is an own class of exceptions over ValueError, with an __init__ of its own, and no other thing called f -/
structure OwnV (K : PySem.W.Frag) (C : Addr) (f : Str) : Prop where
  ox : OexC K C
  xf : XfC K C
  ini : PySem.W.findIn K (.ref C) "__init__" = some (some (.ref (He.ma K C "__init__")))
  fn : PySem.W.typeIn K (.ref (He.ma K C "__init__")) = some (.type "function")
  no : PySem.W.findIn K (.ref C) f = some none
section
variable {X : Cx} {B : Addr} {x : Str} {e : Expr} {es : List Expr} {ta : TA} {p1 p2 pos : Pos}
/-- B.__init__(self, ..) -/
theorem pe_famInit {pl : Sem Bool} (T : FamV X.K B) (hg : Gl X x) (hm : X.mg x = some (.ref B)) (ha : PA X (e :: es) ta) (hdb : (x == ("__debug__" : Str)) = false := by decide)
    (hc : eval (.Call (.Attribute (.Name x p1) "__init__" p2) (e :: es) [] pos) X.env = (do
      let ov ← eval (.Name x p1) X.env
      standAt p2.atName
      let (f, first) ← holding [ov] (getMethod ov "__init__" pl)
      callWith pos f first (backTo pos (starEach (e :: es) X.env)) (backToKw pos (keywordEach [] X.env))) := by rfl)
    (he : starEach (e :: es) X.env = (false, eval e X.env) :: starEach es X.env := by rfl) (hpl : (backTo pos (starEach es X.env)).any (·.1) = false := by rfl) :
    PE X (.Call (.Attribute (.Name x p1) "__init__" p2) (e :: es) [] pos) (tVeI X.K ta) := by
  refine ⟨fun pins s σ H Q J h => ?_⟩
  refine PySem.W.methodCall_KW (ld_glob J hg hm ?_ hdb) hc
  refine PySem.W.method_cls J.kIn T.rd.ga (PySem.W.cls_value J.kIn T.rd.rd T.ini rfl ?_)
  show wpAny _ _ (callWith pos (Value.builtin "ValueError.__init__") [] (backTo pos (starEach (e :: es) X.env)) []) _ _ _
  refine PyProof.Rows.callWith_method1 (thn (ha.run pos pins _ σ H _ (J.tok _) h) fun us t ⟨vs, H1, J1, r1, a, C, ws, ev, hl, O, ea, q⟩ => ?_) he hpl
  subst ev
  cases r1 with
  | @cons _ u0 _ ur ra rw' =>
    obtain rfl : u0 = Value.ref a := ra
    exact oinit_ok O J1 ea (by rw [← Paired.length rw', sizeLine_eq]; omega) fun t' J2 => ⟨.non, H1, J2, rfl, q⟩
end
/-- what the __init__ of such a class keeps -/
def spIni (C : Addr) (f : Str) : Sp := fun vs H Q _ => ∃ a v, vs = [.ref a, v] ∧ H a = some (exo a C none) ∧ ∀ dx, H dx = none → dx ≠ a → Q .non (upd (upd H dx (exd dx [(f, v)])) a (exo a C (some dx)))
/-- a reading, weakened -/
def tMono (te : TE) : TE := fun σ H Q => ∃ R : VK, te σ H R ∧ ∀ v G, R v G → Q v G
theorem pe_mono {X : Cx} {e : Expr} {te : TE} (he : PE X e te) : PE X e (tMono te) := ⟨fun pins s σ H Q J ⟨R, h, m⟩ => thn (he.run pins s σ H R J h) fun _ _ ⟨v, G, J1, r, q⟩ => ⟨v, G, J1, r, m v G q⟩⟩
/-- raise C(e) -/
def tRaise1 (C : Addr) (f : Str) (te : TE) (W : WX) : TS := fun _ σ H => te σ H fun v H1 => ∀ d, H1 d = none → W (.ref C) (some d) σ (upd H1 d (.xd [(f, v)]))
theorem upd_swap {H : Hp} {a d : Addr} {o u v w : HO} (h : d ≠ a) (n : H a = none) : upd (del (upd (upd (upd H a o) d u) a v) a) d w = upd H d w := by
  funext b
  by_cases hb : b = d
  · rw [hb, upd_same, upd_same]
  · rw [upd_ne hb, upd_ne hb]
    by_cases ha : b = a
    · rw [ha, del_same, n]
    · rw [del_ne ha, upd_ne ha, upd_ne hb, upd_ne ha]
section
variable {X : Cx} {C : Addr} {f x : Str} {k : Nat} {ps : List Str} {e : Expr} {te : TE} {W : WX} {p pos pos2 : Pos}
theorem ps_raise1 (T : OwnV X.K C f) (pr : PromA CX0 X.prog X.w X.K X.mg X.base k (He.ma X.K C "__init__") ps (spIni C f)) (hc : X.calm = true) (tk : Takes X W) (hr : Room (k + 1) X.A) (hg : Gl X x) (hm : X.mg x = some (.ref C)) (he : PE X e te)
    (hdb : (x == ("__debug__" : Str)) = false := by decide) (hs : starEach [e] X.env = (false, eval e X.env) :: starEach [] X.env := by rfl) (hpl : (backTo pos (starEach [] X.env)).any (·.1) = false := by rfl) :
    PS X (.Raise (some (.Call (.Name x p) [e] [] pos)) none pos2) (tRaise1 C f te W) := by
  obtain ⟨fd, F, b⟩ := pr
  have mk := pmk_oex (p := p) (pos := pos) (dvs := []) (ds := []) T.ox T.ini T.fn F hr b .nil pass0 hg hm (pa_cons (pe_mono he) pa_nil hs) hdb hs hpl
  refine ⟨fun pins s σ H D J h => (ps_raise hc tk mk).run pins s σ H D J ?_⟩
  refine ⟨_, h, fun v H1 q => ⟨by show 1 ≤ 1000; decide, fun a na => ⟨a, v, rfl, upd_same .., fun dx nd ne => ⟨rfl, dx, [(f, v)], upd_same .., ?_, ?_, ?_⟩⟩⟩⟩
  · rw [upd_ne ne, upd_same]
  · rw [upd_ne ne] at nd; exact nd
  · rw [upd_ne ne] at nd
    rw [upd_swap ne na]
    exact q dx nd
end
end TS

set_option maxHeartbeats 2000000
/-! ### 10. try with several clauses, named ones and others; what lies behind them is never reached -/
namespace TS
open PySem PySem.Spec PyProof.Rows L2
/-- behind a named clause its name is unbound -/
def Ends.drop (D : Ends) (i : Nat) : Ends := { nx := fun τ G => D.nx (τ.set i none) G, rt := D.rt, bk := fun τ G => D.bk (τ.set i none) G, ct := fun τ G => D.ct (τ.set i none) G }
abbrev Clause := Value × Option Nat × (Addr → Value → Option Addr → TS)
def wClauses (K : PySem.W.Frag) (D : Ends) : List Clause → WX
  | [] => fun _ _ _ _ => False
  | (c, some i, ts) :: r => fun cls d σ H => ∃ b, PySem.W.exmOne K cls c = some b ∧ (b = true → ∀ a, H a = none → ts a cls d (Ends.drop D i) (σ.set i (some (.ref a))) H) ∧ (b = false → wClauses K D r cls d σ H)
  | (c, none, ts) :: r => fun cls d σ H => ∃ b, PySem.W.exmOne K cls c = some b ∧ (b = true → ∀ a, H a = none → ts a cls d D σ H) ∧ (b = false → wClauses K D r cls d σ H)
abbrev SuiteOk (X : Cx) (st : List Stmt) (ts : Addr → Value → Option Addr → TS) : Prop :=
  ∀ (a : Addr) (oe : Obj) (cls : Value) (d : Option Addr) (pn : List (Addr × Obj)), Zc cls d oe → (∃ vs, oe.data = .fields vs) → PSs (X.suite a ((a, oe) :: pn)) st (ts a cls d)
inductive ClausesOk (X : Cx) : List ExceptHandler → List Clause → Prop
  | stop {l : List ExceptHandler} : ClausesOk X l []
  | as_ {x n : Str} {i : Nat} {c : Value} {ts : Addr → Value → Option Addr → TS} {b₀ : Stmt} {suite : List Stmt} {np pp : Pos} {l : List ExceptHandler} {r : List Clause} (hi : X.N[i]? = some n) (hln : X.env.kindOf n = some .local) (hc : Names X x c)
      (hsu : SuiteOk X (b₀ :: suite) ts) (t : ClausesOk X l r) : ClausesOk X (.ExceptHandler (some (.Name x np)) (some n) (b₀ :: suite) pp :: l) ((c, some i, ts) :: r)
  | only {x : Str} {c : Value} {ts : Addr → Value → Option Addr → TS} {b₀ : Stmt} {suite : List Stmt} {np pp : Pos} {l : List ExceptHandler} {r : List Clause} (hc : Names X x c)
      (hsu : SuiteOk X (b₀ :: suite) ts) (t : ClausesOk X l r) : ClausesOk X (.ExceptHandler (some (.Name x np)) none (b₀ :: suite) pp :: l) ((c, none, ts) :: r)
section
variable {X : Cx} {body : List Stmt} {h₀ : ExceptHandler} {hs' : List ExceptHandler} {cl : List Clause} {pos : Pos} {tb : WX → TS}
theorem ps_try (stk : X.stack = X.env :: X.outer) (frm : X.env.frame = some X.env.locals) (nod : X.N.Nodup)
    (bod : ∀ (W : WX) (pn : List (Addr × Obj)) (xe : Value → Shared → Prop), Takes (X.tr pn xe) W → PassesOwn (model X.prog X.w) X.A X.env xe → PSs (X.tr pn xe) body (tb W))
    (cls' : ClausesOk X (h₀ :: hs') cl) : PS X (.Try body (h₀ :: hs') [] [] pos) (fun D σ H => tb (wClauses X.K D cl) D σ H) := by
  refine ⟨fun pins s σ H D J rd => ?_⟩
  have xok := J.ok
  have afr : X.A.frames = some (X.env :: X.outer) := by rw [xok.frames, stk]
  refine wpAny_Try_except ?_
  refine wpAny_mono ((bod (wClauses X.K D cl) (X.pn ++ pins) (fun u t1 => wpAny (model X.prog X.w) X.A (noteFrame u X.env) (fun _ t2 => wpAny (model X.prog X.w) X.A (setFlight u none) (fun _ t3 =>
    wpAny (model X.prog X.w) X.A (handleBy u X.env (h₀ :: hs')) (SP X pins D) X.xe t3) X.xe t2) X.xe t1) (fun u t air => ?_) PassesOwn.looking).run [] s σ H D (J.toTry _) rd) (fun fl t1 sp => ?_) (fun u t1 z => z)
  · obtain ⟨a, gr, sA, pins', σ', H', cls, d, rfl, J', ngr, up, sky, na, os, ag, wish⟩ := air
    have J1 : Inv X pins σ' H' sA := J'.ofTry xok
    have sky1 : Sky gr (X.env :: X.outer) a (Zc cls d) X.env.locals t.heap := by rw [← stk]; exact sky
    show wpAny (model X.prog X.w) X.A (noteFrame (.ref a) X.env) _ _ _
    refine Sky.land Zc.steady afr frm sky1 fun h3 fl3 up3 => ?_
    have J3 : Inv X pins σ' H' { t with heap := h3 } := J1.landed ngr fl3.1 (up.trans up3) os ag
    obtain ⟨oe3, vs3, get3, zc3, dat3⟩ := fl3.there
    have off : ∀ {h : Heap} {o : Obj} {vs : Array Value}, h.FunFrames gr (X.env :: X.outer) → h.get? a = some o → o.data = .fields vs → a ∉ frs (X.env :: X.outer) := fun {h o vs} ff g dd m => by
      obtain ⟨_, o', g', nf⟩ := ff.mem m
      rw [g] at g'; cases g'
      exact nf _ dd
    have offA := off fl3.2.2.1 get3 dat3
    have neL : a ≠ X.env.locals := fun z => offA (List.mem_filterMap.mpr ⟨X.env, List.mem_cons_self, by rw [frm, z]⟩)
    have neF : a ∉ X.fs := fun m => by
      obtain ⟨en, me, q⟩ := List.mem_filterMap.mp m
      exact offA (List.mem_filterMap.mpr ⟨en, List.mem_cons_of_mem _ me, q⟩)
    have S3 := J3.suite get3 dat3 na neL neF
    have ld : ∀ {x : Str} {c : Value} {np : Pos}, Names X x c → ∀ {Q : Value → Shared → Prop} {E : Value → Shared → Prop}, Q c { t with heap := h3 } → wpAny (model X.prog X.w) (X.A.mark (some (.ref a))) (eval (.Name x np) X.env) Q E { t with heap := h3 } := fun {x c np} nm {Q E} q => by
      obtain ⟨g, db, m | ⟨m, v, nn⟩⟩ := nm
      · exact ld_glob (X := X.suite a ((a, oe3) :: (X.pn ++ pins))) S3 g m q db
      · exact ld_blt (X := X.suite a ((a, oe3) :: (X.pn ++ pins))) S3 g m v q nn db
    have LT : PySem.W.Looks (model X.prog X.w) h3 (typeOf (.ref a)) cls := fun A Q E s k q => wpAny_typeOf_ref (k _ _ get3) (by rw [zc3.1]; exact q)
    have go : ∀ {l : List ExceptHandler} {r : List Clause}, ClausesOk X l r → wClauses X.K D r cls d σ' H' → wpAny (model X.prog X.w) X.A (handleBy (.ref a) X.env l) (SP X pins D) X.xe { t with heap := h3 } := by
      intro l r ck
      induction ck with
      | stop => intro w; exact False.elim w
      | @as_ x n i c ts b₀ suite np pp l r hi hln hc hsu t2 ih =>
        intro w
        obtain ⟨b, eb, yes, no⟩ := w
        refine wpAny_handleBy_cons (codeAny_handlers_test ?_) (by intro q; cases q)
        refine ld hc ((PySem.W.exm_one (M := model X.prog X.w) J3.kIn LT eb).here ?_)
        cases b with
        | false =>
          show wpAny _ X.A (handleBy (.ref a) X.env l) _ _ _
          exact ih (no rfl)
        | true =>
          refine codeAny_handlers_suite_as ?_
          refine HandSPX.lands_againZ fl3 fun h4 fl4 up4 => ?_
          have J4 : Inv X pins σ' H' { t with heap := h4 } := J1.landed ngr fl4.1 ((up.trans up3).trans up4) os ag
          obtain ⟨oe4, vs4, get4, zc4, dat4⟩ := fl4.there
          have S4 := J4.suite get4 dat4 na neL neF
          refine store_ok (X := X.suite a ((a, oe4) :: (X.pn ++ pins))) (v := .ref a) S4 nod hi (.inl hln) rfl (fun t5 S5 => ?_) (.inr hln)
          refine wpAny_mono ((hsu a oe4 cls d (X.pn ++ pins) zc4 ⟨_, dat4⟩).run [] t5 _ H' _ S5 (yes rfl a na)) (fun fl t6 sp => ?_) (fun _ _ z => False.elim z)
          have un : ∀ {σ6 : L2.St} {H6 : Hp} {Q : Shared → Prop}, Inv (X.suite a ((a, oe4) :: (X.pn ++ pins))) [] σ6 H6 t6 → (∀ t7, Inv X pins (σ6.set i none) H6 t7 → Q t7) →
              wpAny (model X.prog X.w) X.A (do bindName X.env n .none; unbindBehindTheSuite X.env n pp) (fun _ t7 => Q t7) X.xe t6 := fun {σ6 H6 Q} S6 q => gone_ok (S6.unsuite xok) nod hi hln q
          cases fl with
          | next => exact let ⟨_, _, S6, q6⟩ := sp; un S6 fun t7 J7 => ⟨_, _, J7, q6⟩
          | brk => exact let ⟨_, _, S6, q6⟩ := sp; un S6 fun t7 J7 => ⟨_, _, J7, q6⟩
          | cont => exact let ⟨_, _, S6, q6⟩ := sp; un S6 fun t7 J7 => ⟨_, _, J7, q6⟩
          | ret u => exact let ⟨_, _, _, S6, r6, q6⟩ := sp; un S6 fun t7 J7 => ⟨_, _, _, J7, r6, q6⟩
      | @only x c ts b₀ suite np pp l r hc hsu t2 ih =>
        intro w
        obtain ⟨b, eb, yes, no⟩ := w
        refine wpAny_handleBy_cons (codeAny_handlers_test ?_) (by intro q; cases q)
        refine ld hc ((PySem.W.exm_one (M := model X.prog X.w) J3.kIn LT eb).here ?_)
        cases b with
        | false =>
          show wpAny _ X.A (handleBy (.ref a) X.env l) _ _ _
          exact ih (no rfl)
        | true =>
          refine codeAny_handlers_suite ?_
          refine HandSPX.lands_againZ fl3 fun h4 fl4 up4 => ?_
          have J4 : Inv X pins σ' H' { t with heap := h4 } := J1.landed ngr fl4.1 ((up.trans up3).trans up4) os ag
          obtain ⟨oe4, vs4, get4, zc4, dat4⟩ := fl4.there
          have S4 := J4.suite get4 dat4 na neL neF
          refine wpAny_mono ((hsu a oe4 cls d (X.pn ++ pins) zc4 ⟨_, dat4⟩).run [] _ _ H' _ S4 (yes rfl a na)) (fun fl t6 sp => ?_) (fun _ _ z => False.elim z)
          cases fl with
          | next => exact let ⟨_, _, S6, q6⟩ := sp; ⟨_, _, S6.unsuite xok, q6⟩
          | brk => exact let ⟨_, _, S6, q6⟩ := sp; ⟨_, _, S6.unsuite xok, q6⟩
          | cont => exact let ⟨_, _, S6, q6⟩ := sp; ⟨_, _, S6.unsuite xok, q6⟩
          | ret u => exact let ⟨_, _, _, S6, r6, q6⟩ := sp; ⟨_, _, _, S6.unsuite xok, r6, q6⟩
    exact go cls' wish
  · cases fl with
    | next => exact let ⟨σ', H', J', q⟩ := sp; wpAny_execs_nil ⟨σ', H', J'.ofTry xok, q⟩
    | brk => exact let ⟨σ', H', J', q⟩ := sp; ⟨σ', H', J'.ofTry xok, q⟩
    | cont => exact let ⟨σ', H', J', q⟩ := sp; ⟨σ', H', J'.ofTry xok, q⟩
    | ret u => exact let ⟨v, σ', H', J', r, q⟩ := sp; ⟨v, σ', H', J'.ofTry xok, r, q⟩
end
end TS

/-! ### 11. data: kinds, sizes -/
namespace TS
open PySem PySem.Spec PyProof.Rows L2
def tyN : PyData → String
  | .none => "NoneType"
  | .bool _ => "bool"
  | .int _ => "int"
  | .str _ => "str"
  | .list _ => "list"
  | .tuple _ => "tuple"
  | .dict _ => "dict"
theorem Dt.ty {K : PySem.W.Frag} {H : Hp} : ∀ {v : V} {d : PyData}, Dt K H v d → TyX K H v (.type (tyN d))
  | _, _, .non => .base .non
  | _, _, .bl b => .base (.bl b)
  | _, _, .int i => .base (.int i)
  | _, _, .str x => .base (.str x)
  | _, _, .lst h _ => by
    rcases h with (h | ⟨o, h⟩) | ⟨o, its, n, hk, hc, _⟩
    · exact .base (.lst h)
    · exact .base (.frz h)
    · exact .kList hk hc
  | _, _, .tup h _ => by
    rcases h with (h | ⟨o, h⟩) | ⟨o, its, n, hk, hc, _⟩
    · exact .base (.tup h)
    · exact .fTuple h
    · exact .kTuple hk hc
  | _, _, .dct h _ _ => .base (.dK h)
/-- isinstance of data -/
def isD (c : String) (d : PyData) : Bool := kitB (tyN d) c == some true
theorem tyN_mem (d : PyData) : tyN d ∈ kinds := by cases d <;> simp [tyN, kinds]
section
variable {K : PySem.W.Frag} {d : PyData}
theorem isi_str : PySem.W.kitOne K (.type (tyN d)) (.type "str") = some (isD "str" d) := kit_ty ((by decide +kernel : ∀ n ∈ kinds, kitB n "str" = some (kitB n "str" == some true)) _ (tyN_mem d))
theorem isi_int : PySem.W.kitOne K (.type (tyN d)) (.type "int") = some (isD "int" d) := kit_ty ((by decide +kernel : ∀ n ∈ kinds, kitB n "int" = some (kitB n "int" == some true)) _ (tyN_mem d))
theorem isi_bool : PySem.W.kitOne K (.type (tyN d)) (.type "bool") = some (isD "bool" d) := kit_ty ((by decide +kernel : ∀ n ∈ kinds, kitB n "bool" = some (kitB n "bool" == some true)) _ (tyN_mem d))
theorem isi_list : PySem.W.kitOne K (.type (tyN d)) (.type "list") = some (isD "list" d) := kit_ty ((by decide +kernel : ∀ n ∈ kinds, kitB n "list" = some (kitB n "list" == some true)) _ (tyN_mem d))
theorem isi_tuple : PySem.W.kitOne K (.type (tyN d)) (.type "tuple") = some (isD "tuple" d) := kit_ty ((by decide +kernel : ∀ n ∈ kinds, kitB n "tuple" = some (kitB n "tuple" == some true)) _ (tyN_mem d))
theorem isi_dict : PySem.W.kitOne K (.type (tyN d)) (.type "dict") = some (isD "dict" d) := kit_ty ((by decide +kernel : ∀ n ∈ kinds, kitB n "dict" = some (kitB n "dict" == some true)) _ (tyN_mem d))
theorem isi_lt : PySem.W.kitAny K (.type (tyN d)) [.type "list", .type "tuple"] = some (isD "list" d || isD "tuple" d) :=
  kitAny_cons isi_list (fun h1 => kitAny_cons isi_tuple (fun h => by rw [h1, h]; rfl) (fun h => by rw [h, Bool.or_true])) (fun h => by rw [h, Bool.true_or])
theorem isD_str (h : isD "str" d = true) : ∃ z, d = .str z := by
  have e := (by decide +kernel : ∀ n ∈ kinds, (kitB n "str" == some true) = true → n = "str") _ (tyN_mem d) h
  cases d <;> first | exact ⟨_, rfl⟩ | exact absurd e (by simp [tyN])
theorem isD_int (h : isD "int" d = true) : (∃ i, d = .int i) ∨ ∃ b, d = .bool b := by
  have e := (by decide +kernel : ∀ n ∈ kinds, (kitB n "int" == some true) = true → n = "int" ∨ n = "bool") _ (tyN_mem d) h
  cases d <;> first | exact .inl ⟨_, rfl⟩ | exact .inr ⟨_, rfl⟩ | exact absurd e (by simp [tyN])
theorem isD_bool (h : isD "bool" d = true) : ∃ b, d = .bool b := by
  have e := (by decide +kernel : ∀ n ∈ kinds, (kitB n "bool" == some true) = true → n = "bool") _ (tyN_mem d) h
  cases d <;> first | exact ⟨_, rfl⟩ | exact absurd e (by simp [tyN])
theorem isD_list (h : isD "list" d = true) : ∃ l, d = .list l := by
  have e := (by decide +kernel : ∀ n ∈ kinds, (kitB n "list" == some true) = true → n = "list") _ (tyN_mem d) h
  cases d <;> first | exact ⟨_, rfl⟩ | exact absurd e (by simp [tyN])
theorem isD_tuple (h : isD "tuple" d = true) : ∃ l, d = .tuple l := by
  have e := (by decide +kernel : ∀ n ∈ kinds, (kitB n "tuple" == some true) = true → n = "tuple") _ (tyN_mem d) h
  cases d <;> first | exact ⟨_, rfl⟩ | exact absurd e (by simp [tyN])
theorem isD_dict (h : isD "dict" d = true) : ∃ l, d = .dict l := by
  have e := (by decide +kernel : ∀ n ∈ kinds, (kitB n "dict" == some true) = true → n = "dict") _ (tyN_mem d) h
  cases d <;> first | exact ⟨_, rfl⟩ | exact absurd e (by simp [tyN])
theorem isD_strs (z : Str) : isD "str" (.str z) = true := by show (kitB "str" "str" == some true) = true; decide +kernel
theorem isD_lists (l : List PyData) : isD "list" (.list l) = true := by show (kitB "list" "list" == some true) = true; decide +kernel
theorem isD_tuples (l : List PyData) : isD "tuple" (.tuple l) = true := by show (kitB "tuple" "tuple" == some true) = true; decide +kernel
theorem isD_ints (i : Int) : isD "int" (.int i) = true := by show (kitB "int" "int" == some true) = true; decide +kernel
theorem isD_intb (i : Int) : isD "bool" (.int i) = false := by show (kitB "int" "bool" == some true) = false; decide +kernel
theorem isD_bools (i : Bool) : isD "bool" (.bool i) = true := by show (kitB "bool" "bool" == some true) = true; decide +kernel
theorem isD_boolt (i : Bool) : isD "int" (.bool i) = true := by show (kitB "bool" "int" == some true) = true; decide +kernel
end
/-! values of data by their kind -/
section
variable {K : PySem.W.Frag} {H : Hp} {v : V}
theorem Dt.str_inv {z : Str} (h : Dt K H v (.str z)) : v = .str z := by cases h; rfl
theorem Dt.int_inv {i : Int} (h : Dt K H v (.int i)) : v = .int i := by cases h; rfl
theorem Dt.bool_inv {i : Bool} (h : Dt K H v (.bool i)) : v = .bl i := by cases h; rfl
theorem Dt.list_inv {l : List PyData} (h : Dt K H v (.list l)) : ∃ a xs, v = .ref a ∧ SqL K H a xs ∧ DtAll K H xs l := by cases h with | lst a b => exact ⟨_, _, rfl, a, b⟩
theorem Dt.tup_inv {l : List PyData} (h : Dt K H v (.tuple l)) : ∃ a xs, v = .ref a ∧ SqT K H a xs ∧ DtAll K H xs l := by cases h with | tup a b => exact ⟨_, _, rfl, a, b⟩
theorem DtAll.get : ∀ {xs : List V} {ds : List PyData} {i : Nat} {x : V}, DtAll K H xs ds → xs[i]? = some x → ∃ d, ds[i]? = some d ∧ Dt K H x d
  | _, _, 0, _, .cons h _, e => by cases e; exact ⟨_, rfl, h⟩
  | _ :: _, _ :: _, i + 1, _, .cons _ t, e => DtAll.get (i := i) t (by simpa using e)
  | _, _, _, _, .nil, e => by simp at e
theorem DtAll.getD : ∀ {xs : List V} {ds : List PyData} {i : Nat} {d : PyData}, DtAll K H xs ds → ds[i]? = some d → ∃ x, xs[i]? = some x ∧ Dt K H x d
  | _, _, 0, _, .cons h _, e => by cases e; exact ⟨_, rfl, h⟩
  | _ :: _, _ :: _, i + 1, _, .cons _ t, e => DtAll.getD (i := i) t (by simpa using e)
  | _, _, _, _, .nil, e => by simp at e
theorem DtAll.append : ∀ {xs ys : List V} {ds es : List PyData}, DtAll K H xs ds → DtAll K H ys es → DtAll K H (xs ++ ys) (ds ++ es)
  | _, _, _, _, .nil, b => b
  | _, _, _, _, .cons h t, b => .cons h (DtAll.append t b)
theorem DtAll.set : ∀ {xs : List V} {ds : List PyData} {i : Nat} {x : V} {d : PyData}, DtAll K H xs ds → Dt K H x d → DtAll K H (xs.set i x) (ds.set i d)
  | _, _, _, _, _, .nil, _ => .nil
  | _, _, 0, _, _, .cons _ t, h => .cons h t
  | _, _, i + 1, _, _, .cons a t, h => .cons a (DtAll.set t h)
theorem DtAll.of : ∀ {xs : List V} {ds : List PyData}, xs.length = ds.length → (∀ (i : Nat) (x : V) (d : PyData), xs[i]? = some x → ds[i]? = some d → Dt K H x d) → DtAll K H xs ds
  | [], [], _, _ => .nil
  | x :: xs, d :: ds, h, q => .cons (q 0 x d rfl rfl) (DtAll.of (by simpa using h) fun i y e a b => q (i + 1) y e a b)
end
/-! ### sizes: what may be shown -/
structure Shows (d : PyData) : Prop where
  ok : d.showable = true
  deep : d.depth ≤ 40
  size : d.shown.length ≤ sizeLine
def smB (k n : Nat) (d : PyData) : Bool := d.showable && decide (d.depth ≤ k) && d.leavesShort 40 && decide (d.weight ≤ n)
def Sm (k n : Nat) (d : PyData) : Prop := smB k n d = true
theorem Sm.of {k n : Nat} {d : PyData} (a : d.showable = true) (b : d.depth ≤ k) (c : d.leavesShort 40 = true) (e : d.weight ≤ n) : Sm k n d := by
  unfold Sm smB
  rw [a, decide_eq_true b, c, decide_eq_true e]; rfl
theorem Sm.to {k n : Nat} {d : PyData} (h : Sm k n d) : d.showable = true ∧ d.depth ≤ k ∧ d.leavesShort 40 = true ∧ d.weight ≤ n := by
  unfold Sm smB at h
  simp only [Bool.and_eq_true, decide_eq_true_eq] at h
  exact ⟨h.1.1.1, h.1.1.2, h.1.2, h.2⟩
theorem Sm.mono {k n k' n' : Nat} {d : PyData} (h : Sm k n d) (hk : k ≤ k') (hn : n ≤ n') : Sm k' n' d := let ⟨a, b, c, e⟩ := h.to; .of a (by omega) c (by omega)
theorem Sm.shows {k n : Nat} {d : PyData} (h : Sm k n d) (hk : k ≤ 40 := by decide) (hn : n ≤ 300000 := by decide) : Shows d := by
  obtain ⟨a, b, c, e⟩ := h.to
  refine ⟨a, by omega, Nat.le_trans (PyData.shown_le 40 (by decide) d c) ?_⟩
  rw [sizeLine_eq]
  omega
theorem Sm.str {z : Str} {k n : Nat} (hc : ∀ c ∈ z.cps.toList, c < 16 ^ 8) (h : z.length ≤ n) : Sm k n (.str z) := by
  refine .of rfl (Nat.zero_le _) ?_ h
  unfold PyData.leavesShort
  rw [List.all_eq_true]
  exact fun c m => decide_eq_true (hc c m)
section
variable {k n : Nat}
theorem all_show : ∀ {ds : List PyData}, (∀ d ∈ ds, d.showable = true) → PyData.showableAll ds = true
  | [], _ => rfl
  | d :: r, h => by unfold PyData.showableAll; rw [h d (by simp), all_show fun x m => h x (List.mem_cons_of_mem _ m)]; rfl
theorem all_deep : ∀ {ds : List PyData}, (∀ d ∈ ds, d.depth ≤ k) → PyData.depthAll ds ≤ k
  | [], _ => Nat.zero_le _
  | d :: r, h => by
    unfold PyData.depthAll
    have a := h d (by simp)
    have b := all_deep fun x m => h x (List.mem_cons_of_mem d m)
    omega
theorem all_short : ∀ {ds : List PyData}, (∀ d ∈ ds, d.leavesShort 40 = true) → PyData.leavesShortAll 40 ds = true
  | [], _ => rfl
  | d :: r, h => by unfold PyData.leavesShortAll; rw [h d (by simp), all_short fun x m => h x (List.mem_cons_of_mem _ m)]; rfl
theorem all_weight : ∀ {ds : List PyData}, (∀ d ∈ ds, d.weight ≤ n) → PyData.weightAll ds ≤ ds.length * (n + 1)
  | [], _ => Nat.zero_le _
  | d :: r, h => by
    unfold PyData.weightAll
    have a := h d (by simp)
    have b := all_weight fun x m => h x (List.mem_cons_of_mem d m)
    rw [List.length_cons, Nat.succ_mul]
    omega
theorem Sm.list {ds : List PyData} {m : Nat} (h : ∀ d ∈ ds, Sm k n d) (hl : ds.length ≤ m) : Sm (k + 1) (m * (n + 1)) (.list ds) := by
  refine .of (by unfold PyData.showable; exact all_show fun d m => (h d m).to.1) (by unfold PyData.depth; have := all_deep fun d m => (h d m).to.2.1; omega) (by unfold PyData.leavesShort; exact all_short fun d m => (h d m).to.2.2.1) ?_
  unfold PyData.weight
  exact Nat.le_trans (all_weight fun d m => (h d m).to.2.2.2) (Nat.mul_le_mul_right _ hl)
theorem Sm.tuple {ds : List PyData} {m : Nat} (h : ∀ d ∈ ds, Sm k n d) (hl : ds.length ≤ m) : Sm (k + 1) (m * (n + 1)) (.tuple ds) := by
  refine .of (by unfold PyData.showable; exact all_show fun d m => (h d m).to.1) (by unfold PyData.depth; have := all_deep fun d m => (h d m).to.2.1; omega) (by unfold PyData.leavesShort; exact all_short fun d m => (h d m).to.2.2.1) ?_
  unfold PyData.weight
  exact Nat.le_trans (all_weight fun d m => (h d m).to.2.2.2) (Nat.mul_le_mul_right _ hl)
end
/-! small numbers -/
theorem Sm.int {i : Int} {k : Nat} (h0 : -100 ≤ i) (h1 : i ≤ 150) : Sm k 10 (.int i) := by
  have all : ∀ j ∈ (List.range 251).map (fun n : Nat => (n : Int) - 100), smB 0 10 (.int j) = true := by decide +kernel
  have m : i ∈ (List.range 251).map (fun n : Nat => (n : Int) - 100) := List.mem_map.mpr ⟨(i + 100).toNat, List.mem_range.mpr (by omega), by omega⟩
  exact Sm.mono (k := 0) (all i m) (Nat.zero_le _) (Nat.le_refl _)
theorem Sm.bool {b : Bool} {k n : Nat} : Sm k n (.bool b) := .of rfl (Nat.zero_le _) rfl (Nat.zero_le _)
theorem Sm.none {k n : Nat} : Sm k n .none := .of rfl (Nat.zero_le _) rfl (Nat.zero_le _)
end TS

/-! ### 12. walks over lists or tuples; comprehensions whose turns only add to the heap -/
namespace TS
open PySem PySem.Spec PyProof.Rows L2
theorem yes {σ : L2.St} {H : Hp} {C : Bool → Hp → Prop} (h : C true H) : tYes σ H C := h
/-- a list or a tuple -/
def Sq (K : PySem.W.Frag) (H : Hp) (a : Addr) (xs : List V) : Prop := SqL K H a xs ∨ SqT K H a xs
theorem Sq.same {K : PySem.W.Frag} {H H' : Hp} {a : Addr} {xs : List V} (e : Same H H') (h : Sq K H a xs) : Sq K H' a xs := h.imp (fun q => e.seq q) (fun q => SqT.same e q)
theorem Sq.len {K : PySem.W.Frag} {H : Hp} {a : Addr} {xs : List V} (h : Sq K H a xs) : LenV K (.ref a) H xs.length := h.imp (fun q => ⟨xs, q, rfl⟩) (fun q => ⟨xs, q, rfl⟩)
theorem seq_it {K : PySem.W.Frag} {H : Hp} {a : Addr} {xs : List V} {i : Nat} {σ : L2.St} {R : It → Hp → Prop} (hv : σ[i]? = some (some (.ref a))) (h : Sq K H a xs)
    (k : ∀ (J : It) (G : Hp → Prop), Walk J xs.length G (YAt xs) → (∀ H', Same H H' → G H') → R J H) : iList K (tVar i) σ H R ∨ iTup K (tVar i) σ H R := by
  rcases h with h | h
  · exact .inl ⟨_, hv, a, rfl, ⟨xs, h⟩, k _ _ walk_list fun _ e => e.seq h⟩
  · exact .inr ⟨_, hv, a, rfl, ⟨xs, h⟩, k _ _ walk_tup fun _ e => SqT.same e h⟩
theorem seq_it0 {K : PySem.W.Frag} {H0 H : Hp} {a : Addr} {xs : List V} {i : Nat} {σ : L2.St} {R : It → Hp → Prop} (hv : σ[i]? = some (some (.ref a))) (h : Sq K H0 a xs) (s : Same H0 H)
    (k : ∀ (J : It) (G : Hp → Prop), Walk J xs.length G (YAt xs) → (∀ H', Same H0 H' → G H') → R J H) : iList K (tVar i) σ H R ∨ iTup K (tVar i) σ H R := by
  rcases h with h | h
  · exact .inl ⟨_, hv, a, rfl, ⟨xs, s.seq h⟩, k _ _ walk_list fun _ e => e.seq h⟩
  · exact .inr ⟨_, hv, a, rfl, ⟨xs, SqT.same s h⟩, k _ _ walk_tup fun _ e => SqT.same e h⟩
section
variable {J : It} {n : Nat} {G : Hp → Prop} {Y : Nat → Hp → V → Hp → Prop}
theorem scK_it {P : Program} {w : World} (wk : Walk J n G Y) {g : TG} {tt : TT} {te : TE} {vs : List Nat} {σ : L2.St} {H1 : Hp} {D : Addr} {Qd : Hp → Prop} (Pv : Nat → Hp → Prop) (h0 : Pv 0 (upd H1 D (SetK P w D (fun _ => false) 0))) (hG : ∀ i H, i ≤ n → Pv i H → G H)
    (hs : ∀ i x H H', i < n → Pv i H → Y i H x H' → g x (wipe σ vs) H' fun σ2 H2 => wipe σ2 vs = wipe σ vs ∧ tt σ2 H2 fun b H3 =>
      if b = true then te σ2 H3 fun y H4 => ∃ (k : Key) (S : Key → Bool) (m : Nat), y = kV k ∧ H4 D = some (SetK P w D S m) ∧ m + 1 < scanBound ∧ Pv (i + 1) (upd H4 D (SetK P w D (fun j => S j || decide (j = k)) (if S k = true then m else m + 1))) else Pv (i + 1) H3) (hd : ∀ H, Pv n H → Qd H) :
    ∃ W : Nat → Nat → Hp → Prop, (∃ m, W 0 m (upd H1 D (SetK P w D (fun _ => false) 0))) ∧ ∀ i m H, W i m H →
      (J.stop i H ∧ Qd H) ∨ (J.go i H ∧ ∃ Nx : Hp → Prop, (∀ H', Nx H' → ∃ m', m' < m ∧ W (i + 1) m' H') ∧ ∀ x H', J.yld i H x H' → g x (wipe σ vs) H' fun σ2 H2 => wipe σ2 vs = wipe σ vs ∧ tt σ2 H2 fun b H3 =>
        if b = true then te σ2 H3 fun y H4 => ∃ (k : Key) (S : Key → Bool) (m : Nat), y = kV k ∧ H4 D = some (SetK P w D S m) ∧ m + 1 < scanBound ∧ Nx (upd H4 D (SetK P w D (fun j => S j || decide (j = k)) (if S k = true then m else m + 1))) else Nx H3) := by
  refine ⟨fun i m H => m = n - i ∧ i ≤ n ∧ Pv i H, ⟨n, by simp, Nat.zero_le _, h0⟩, ?_⟩
  rintro i m H ⟨rfl, hi, p⟩
  have q := hG i H hi p
  rcases Nat.lt_or_ge i n with hlt | hge
  · exact .inr ⟨wk.goes i H hlt q, Pv (i + 1), fun G' p' => ⟨n - (i + 1), by omega, rfl, hlt, p'⟩, fun x G' y => hs i x H G' hlt p (wk.yields i H x G' hlt q y)⟩
  · obtain rfl : i = n := by omega
    exact .inl ⟨wk.stops H q, hd H p⟩
theorem dc_it (wk : Walk J n G Y) {g : TG} {tt : TT} {tk tv : TE} {vs : List Nat} {σ : L2.St} {H1 : Hp} {D : Addr} {Qd : Hp → Prop} (Pv : Nat → Hp → Prop) (h0 : Pv 0 (upd H1 D (.dK []))) (hG : ∀ i H, i ≤ n → Pv i H → G H)
    (hs : ∀ i x H H', i < n → Pv i H → Y i H x H' → g x (wipe σ vs) H' fun σ2 H2 => wipe σ2 vs = wipe σ vs ∧ tt σ2 H2 fun b H3 =>
      if b = true then tk σ2 H3 fun y H4 => tv σ2 H4 fun z H5 => ∃ kvs k, y = kV k ∧ H5 D = some (.dK kvs) ∧ kvs.length < sizeLine ∧ Pv (i + 1) (upd H5 D (.dK (putK kvs k z))) else Pv (i + 1) H3) (hd : ∀ H, Pv n H → Qd H) :
    ∃ W : Nat → Nat → Hp → Prop, (∃ m, W 0 m (upd H1 D (.dK []))) ∧ ∀ i m H, W i m H →
      (J.stop i H ∧ Qd H) ∨ (J.go i H ∧ ∃ Nx : Hp → Prop, (∀ H', Nx H' → ∃ m', m' < m ∧ W (i + 1) m' H') ∧ ∀ x H', J.yld i H x H' → g x (wipe σ vs) H' fun σ2 H2 => wipe σ2 vs = wipe σ vs ∧ tt σ2 H2 fun b H3 =>
        if b = true then tk σ2 H3 fun y H4 => tv σ2 H4 fun z H5 => ∃ kvs k, y = kV k ∧ H5 D = some (.dK kvs) ∧ kvs.length < sizeLine ∧ Nx (upd H5 D (.dK (putK kvs k z))) else Nx H3) := by
  refine ⟨fun i m H => m = n - i ∧ i ≤ n ∧ Pv i H, ⟨n, by simp, Nat.zero_le _, h0⟩, ?_⟩
  rintro i m H ⟨rfl, hi, p⟩
  have q := hG i H hi p
  rcases Nat.lt_or_ge i n with hlt | hge
  · exact .inr ⟨wk.goes i H hlt q, Pv (i + 1), fun G' p' => ⟨n - (i + 1), by omega, rfl, hlt, p'⟩, fun x G' y => hs i x H G' hlt p (wk.yields i H x G' hlt q y)⟩
  · obtain rfl : i = n := by omega
    exact .inl ⟨wk.stops H q, hd H p⟩
end
/-- a list comprehension without tests, each turn adding to the heap alone: the i-th value is f i -/
theorem lc_same {J : It} {G : Hp → Prop} {xs : List V} (wk : Walk J xs.length G (YAt xs)) {H H1 : Hp} {te : TE} {vs : List Nat} {j : Nat} {σ : L2.St} {D : Addr} {Qd : Hp → Prop} (hG : ∀ H', Same H H' → G H') (hl : xs.length ≤ 100000) (s1 : Same H H1) (hD : H1 D = none) (f : Nat → V)
    (hw : ∀ x, wipe ((wipe σ vs).set j (some x)) vs = wipe σ vs)
    (step : ∀ i x H2 (C : VK), xs[i]? = some x → Same H H2 → (∀ H4, Same H2 H4 → C (f i) H4) → te ((wipe σ vs).set j (some x)) H2 C)
    (fin : ∀ H2, Same H1 H2 → H2 D = some (.lst ((List.range xs.length).map f)) → Qd H2) :
    ∃ W : Nat → Nat → Hp → Prop, (∃ m, W 0 m (upd H1 D (.lst []))) ∧ ∀ i m H, W i m H →
      (J.stop i H ∧ Qd H) ∨ (J.go i H ∧ ∃ Nx : Hp → Prop, (∀ H', Nx H' → ∃ m', m' < m ∧ W (i + 1) m' H') ∧ ∀ x H', J.yld i H x H' → gName j x (wipe σ vs) H' fun σ2 H2 => wipe σ2 vs = wipe σ vs ∧ tYes σ2 H2 fun b H3 =>
        if b = true then te σ2 H3 fun y H4 => ∃ acc, H4 D = some (.lst acc) ∧ acc.length < sizeLine ∧ Nx (upd H4 D (.lst (acc ++ [y]))) else Nx H3) := by
  refine lc_it wk (fun i G' => Same H1 G' ∧ G' D = some (.lst ((List.range i).map f))) ⟨Same.new (Same.refl _) hD, upd_same ..⟩ (fun i G' _ p => hG G' (s1.trans p.1)) ?_ (fun G' p => fin G' p.1 p.2)
  rintro i x H2 H3 hi ⟨p1, p2⟩ ⟨rfl, hx⟩
  refine ⟨hw x, ?_⟩
  unfold tYes
  dsimp only
  rw [if_pos rfl]
  refine step i x _ _ hx (s1.trans p1) fun H4 s4 => ⟨_, s4 _ _ p2, ?_, ?_, ?_⟩
  · rw [List.length_map, List.length_range]
    exact Nat.lt_of_lt_of_le hi (Nat.le_trans hl (by decide))
  · intro a o e
    rw [upd_ne (ne_of_none e hD)]
    exact s4 _ _ (p1 _ _ e)
  · rw [upd_same, List.range_succ, List.map_append]
    rfl
theorem pg_tupK {X : Cx} {K : PySem.W.Frag} {es : List Expr} {k : Nat} {t : TGs} {n : Nat} {pos : Pos} (hK : X.K = K) (hc : X.calm = true) (h : PGs X es t)
    (hn : (assignEach es X.env).length = n := by rfl) (hst : (assignEach es X.env).findIdx? (·.1) = none := by rfl) : PG X (.Tuple es k pos) (gTup K n t) := by subst hK; exact pg_tup hc h hn hst
/-- enumerate over a list or a tuple -/
theorem enum_it {K : PySem.W.Frag} {H : Hp} {a : Addr} {xs : List V} {i : Nat} {σ : L2.St} {R : It → Hp → Prop} (hv : σ[i]? = some (some (.ref a))) (h : Sq K H a xs)
    (k : ∀ (J : It) (G : Hp → Prop), Walk J xs.length G (YPair (fun i => some (.int (i : Nat))) (fun i => xs[i]?)) → (∀ H', Same H H' → G H') → R J H) : iEnum K (tCons (tVar i) tNil) σ H R ∨ iEnumT K (tCons (tVar i) tNil) σ H R := by
  rcases h with h | h
  · exact .inl ⟨_, hv, a, xs, rfl, h, k _ _ walk_enum fun _ e => e.seq h⟩
  · exact .inr ⟨_, hv, a, xs, rfl, h, k _ _ walk_enumT fun _ e => SqT.same e h⟩
end TS

/-! ### 13. draws: what a def of a bag gives back; comprehensions and loops that draw -/
namespace TS
open PySem PySem.Spec PyProof.Rows L2
theorem atI_in {α : Type} {xs : List α} {i : Int} (h0 : 0 ≤ i) (h1 : i < xs.length) : ∃ v, atI xs i = some v ∧ v ∈ xs := by
  have hj : i.toNat < xs.length := by omega
  refine ⟨xs[i.toNat], ?_, List.getElem_mem _⟩
  have e : ((i.toNat : Nat) : Int) = i := by omega
  have h := atI_nat (xs := xs) (List.getElem?_eq_getElem hj)
  rw [e] at h
  exact h
/-- the bag b drawn of (n draws left at least), all else as it was -/
structure Dr (b : Addr) (n : Nat) (H H' : Hp) : Prop where
  fx : Fx b H H'
  bag : ∃ o, H' b = some o ∧ Bag n o
theorem Dr.trans {b : Addr} {m n : Nat} {H H1 H2 : Hp} (x : Dr b m H H1) (y : Dr b n H1 H2) : Dr b n H H2 := ⟨x.fx.trans y.fx, y.bag⟩
theorem Dr.refl {b : Addr} {n : Nat} {H : Hp} (h : ∃ o, H b = some o ∧ Bag n o) : Dr b n H H := ⟨Fx.refl b H, h⟩
theorem Dr.mono {b : Addr} {m n : Nat} {H H' : Hp} (x : Dr b m H H') (h : n ≤ m) : Dr b n H H' := ⟨x.fx, let ⟨o, e, g⟩ := x.bag; ⟨o, e, g.mono h⟩⟩
theorem Dr.same {b : Addr} {n : Nat} {H H' : Hp} (e : Same H H') (h : ∃ o, H b = some o ∧ Bag n o) : Dr b n H H' := ⟨Fx.of e, let ⟨o, q, g⟩ := h; ⟨o, e _ _ q, g⟩⟩
theorem Dr.draw {b : Addr} {n : Nat} {H : Hp} {o : HO} (g : Bag n o) : Dr b n H (upd H b o) := ⟨(Fx.refl b H).upd, o, upd_same .., g⟩
theorem Dr.new {b p : Addr} {n : Nat} {H H' : Hp} {o : HO} (x : Dr b n H H') (h : H' p = none) : Dr b n H (upd H' p o) := x.trans (.same (Same.new (Same.refl _) h) x.bag)
theorem Dr.ne {b p : Addr} {n : Nat} {H H' : Hp} (x : Dr b n H H') (h : H' p = none) : p ≠ b := fun e => by
  obtain ⟨o, q, _⟩ := x.bag
  rw [e, q] at h
  cases h
theorem Dr.at {b a : Addr} {n : Nat} {H H' : Hp} {o : HO} (x : Dr b n H H') (h : a ≠ b) (e : H a = some o) : H' a = some o := x.fx a o h e
theorem Dr.hide {b : Addr} {n : Nat} {H H' : Hp} (x : Dr b n H H') : Same (hide H b) (hide H' b) := x.fx.hide
theorem Dr.free {b p : Addr} {n : Nat} {H H' : Hp} (x : Dr b n H H') (h : H' p = none) : H p = none := by
  cases e : H p with
  | none => rfl
  | some o =>
    have := x.fx p o (x.ne h) e
    rw [h] at this
    cases this
/-- a draw, by spTake -/
theorem take_of {b : Addr} {n : Nat} {H : Hp} {many : Int} {Q : VK} {E : XK} (h : ∃ o, H b = some o ∧ Bag (n + 1) o) (m0 : 0 < many) (m1 : many < 2 ^ 200) (q : ∀ (d : Int) (H' : Hp), 0 ≤ d → d < many → Dr b n H H' → Q (.int d) H') : spTake [.ref b, .int many] H Q E := by
  obtain ⟨o, e, g⟩ := h
  exact ⟨b, o, n, many, rfl, e, g, m0, m1, fun d o' h0 h1 g' => q d _ h0 h1 (.draw g')⟩
/-- the heap without the bag and the list that is being made -/
abbrev hide2 (H : Hp) (b D : Addr) : Hp := hide (hide H b) D
theorem hide2_at {H : Hp} {b D p : Addr} {o : HO} (h1 : p ≠ b) (h2 : p ≠ D) (e : H p = some o) : hide2 H b D p = some o := by show hide (hide H b) D p = some o; rw [hide_ne h2, hide_ne h1]; exact e
theorem hide2_fx {H H' : Hp} {b D : Addr} (h : ∀ a o, a ≠ b → a ≠ D → H a = some o → H' a = some o) : Same (hide2 H b D) (hide2 H' b D) := fun a o e => by
  show hide (hide H' b) D a = some o
  replace e : hide (hide H b) D a = some o := e
  have h2 : a ≠ D := fun z => by rw [z, hide_self] at e; cases e
  rw [hide_ne h2] at e ⊢
  have h1 : a ≠ b := fun z => by rw [z, hide_self] at e; cases e
  rw [hide_ne h1] at e ⊢
  exact h a o h1 h2 e
/-- a comprehension without tests, each turn drawing at most k times -/
theorem lc_draw {J : It} {m : Nat} {G : Hp → Prop} {f : Nat → V} (wk : Walk J m G (YFn f)) {b : Addr} {k N : Nat} {H1 : Hp} {te : TE} {vs : List Nat} {j : Nat} {σ : L2.St} {D : Addr} {Qd : Hp → Prop} (F : Nat → Hp → V → Prop)
    (hF : ∀ i H H' v, Same H H' → F i H v → F i H' v) (hG : ∀ H', Fx b H1 H' → G H') (hm : m ≤ 100000) (hD : H1 D = none) (hb : ∃ o, H1 b = some o ∧ Bag (N + k * m) o) (hw : ∀ x, wipe ((wipe σ vs).set j (some x)) vs = wipe σ vs)
    (step : ∀ (i n : Nat) (H2 : Hp) (C : VK), i < m → Fx b H1 H2 → (∃ o, H2 b = some o ∧ Bag (n + k) o) → (∃ o, H2 D = some o) → (∀ v H4, F i (hide2 H4 b D) v → Dr b n H2 H4 → C v H4) → te ((wipe σ vs).set j (some (f i))) H2 C)
    (fin : ∀ H2 (xs : List V), Dr b N H1 H2 → xs.length = m → (∀ (i : Nat) (v : V), xs[i]? = some v → F i (hide2 H2 b D) v) → H2 D = some (.lst xs) → D ≠ b → Qd H2) :
    ∃ W : Nat → Nat → Hp → Prop, (∃ m, W 0 m (upd H1 D (.lst []))) ∧ ∀ i m H, W i m H →
      (J.stop i H ∧ Qd H) ∨ (J.go i H ∧ ∃ Nx : Hp → Prop, (∀ H', Nx H' → ∃ m', m' < m ∧ W (i + 1) m' H') ∧ ∀ x H', J.yld i H x H' → gName j x (wipe σ vs) H' fun σ2 H2 => wipe σ2 vs = wipe σ vs ∧ tYes σ2 H2 fun b H3 =>
        if b = true then te σ2 H3 fun y H4 => ∃ acc, H4 D = some (.lst acc) ∧ acc.length < sizeLine ∧ Nx (upd H4 D (.lst (acc ++ [y]))) else Nx H3) := by
  have neD : D ≠ b := fun e => by
    obtain ⟨o, q, _⟩ := hb
    rw [e, q] at hD
    cases hD
  refine lc_it wk (fun i G' => Dr b (N + k * (m - i)) H1 G' ∧ ∃ xs : List V, xs.length = i ∧ (∀ (i : Nat) (v : V), xs[i]? = some v → F i (hide2 G' b D) v) ∧ G' D = some (.lst xs)) ⟨.same (Same.new (Same.refl _) hD) hb, [], rfl, fun i v e => by simp at e, upd_same ..⟩ (fun i G' _ p => hG G' p.1.fx) ?_ ?_
  · rintro i x H2 H3 hi ⟨dr, xs, hl, hx, eD⟩ ⟨rfl, rfl⟩
    refine ⟨hw _, yes (iteT ?_)⟩
    have ek : N + k * (m - (i + 1)) + k = N + k * (m - i) := by
      have : m - i = m - (i + 1) + 1 := by omega
      rw [this, Nat.mul_add, Nat.mul_one, Nat.add_assoc]
    refine step i (N + k * (m - (i + 1))) _ _ hi dr.fx (by rw [ek]; exact dr.bag) ⟨_, eD⟩ fun v H4 hv d4 => ⟨xs, d4.at neD eD, by rw [hl]; exact Nat.lt_of_lt_of_le hi (Nat.le_trans hm (by decide)), ⟨fun a o ha e => ?_, ?_⟩, xs ++ [v], by simp [hl], fun i2 v2 e2 => ?_, upd_same ..⟩
    · rw [upd_ne (ne_of_none e hD)]
      exact (dr.trans d4).fx a o ha e
    · obtain ⟨o, q, g⟩ := d4.bag
      exact ⟨o, by rw [upd_ne neD.symm]; exact q, g⟩
    · have s5 : Same (hide2 H4 b D) (hide2 (upd H4 D (.lst (xs ++ [v]))) b D) := hide2_fx fun a o _ h e => by rw [upd_ne h]; exact e
      rcases Nat.lt_or_ge i2 i with z | z
      · rw [List.getElem?_append_left (by omega)] at e2
        exact hF _ _ _ _ ((hide2_fx fun a o h _ e => d4.fx a o h e).trans s5) (hx i2 v2 e2)
      · rw [List.getElem?_append_right (by omega)] at e2
        have e3 : i2 = i := by
          rcases Nat.lt_or_ge i i2 with y | y
          · rw [List.getElem?_eq_none (by simp; omega)] at e2
            cases e2
          · omega
        rw [e3, hl, Nat.sub_self] at e2
        cases e2
        rw [e3]
        exact hF _ _ _ _ s5 hv
  · rintro G' ⟨dr, xs, hl, hx, eD⟩
    exact fin G' xs (by rw [Nat.sub_self] at dr; exact dr) hl hx eD neD
/-- a comprehension without tests that only adds to the heap, by any walk -/
theorem lc_sameF {J : It} {n : Nat} {G : Hp → Prop} {g : Nat → V} (wk : Walk J n G (YFn g)) {H : Hp} {te : TE} {vs : List Nat} {j : Nat} {σ : L2.St} {D : Addr} {Qd : Hp → Prop} (hG : ∀ H', Same H H' → G H') (hl : n ≤ 100000) (hD : H D = none) (f : Nat → V)
    (hw : ∀ x, wipe ((wipe σ vs).set j (some x)) vs = wipe σ vs)
    (step : ∀ i H2 (C : VK), i < n → Same H H2 → (∀ H4, Same H2 H4 → C (f i) H4) → te ((wipe σ vs).set j (some (g i))) H2 C)
    (fin : ∀ H2, Same H H2 → H2 D = some (.lst ((List.range n).map f)) → Qd H2) :
    ∃ W : Nat → Nat → Hp → Prop, (∃ m, W 0 m (upd H D (.lst []))) ∧ ∀ i m H, W i m H →
      (J.stop i H ∧ Qd H) ∨ (J.go i H ∧ ∃ Nx : Hp → Prop, (∀ H', Nx H' → ∃ m', m' < m ∧ W (i + 1) m' H') ∧ ∀ x H', J.yld i H x H' → gName j x (wipe σ vs) H' fun σ2 H2 => wipe σ2 vs = wipe σ vs ∧ tYes σ2 H2 fun b H3 =>
        if b = true then te σ2 H3 fun y H4 => ∃ acc, H4 D = some (.lst acc) ∧ acc.length < sizeLine ∧ Nx (upd H4 D (.lst (acc ++ [y]))) else Nx H3) := by
  refine lc_it wk (fun i G' => Same H G' ∧ G' D = some (.lst ((List.range i).map f))) ⟨Same.new (Same.refl _) hD, upd_same ..⟩ (fun i G' _ p => hG G' p.1) ?_ (fun G' p => fin G' p.1 p.2)
  rintro i x H2 H3 hi ⟨p1, p2⟩ ⟨rfl, rfl⟩
  refine ⟨hw _, yes (iteT (step i _ _ hi p1 fun H4 s4 => ⟨_, s4 _ _ p2, ?_, ?_, ?_⟩))⟩
  · rw [List.length_map, List.length_range]
    exact Nat.lt_of_lt_of_le hi (Nat.le_trans hl (by decide))
  · intro a o e
    rw [upd_ne (ne_of_none e hD)]
    exact s4 _ _ (p1 _ _ e)
  · rw [upd_same, List.range_succ, List.map_append]
    rfl
theorem walk_at {J : It} {n : Nat} {G : Hp → Prop} {xs : List V} (w : Walk J n G (YAt xs)) : Walk J n G (YFn fun i => xs.getD i .non) :=
  w.mono (fun _ h => h) fun i H x H' _ _ y => ⟨y.1, by show x = xs.getD i .non; rw [List.getD_eq_getElem?_getD, y.2]; rfl⟩
theorem same_of {H G : Hp} {p : Addr} {o : HO} (h : L2.upd H p o = G) (hp : H p = none) : Same H G := h ▸ Same.new (Same.refl _) hp
theorem at_of {H G : Hp} {p : Addr} {o : HO} (h : L2.upd H p o = G) : G p = some o := h ▸ upd_same ..
theorem dr_of {H G : Hp} {b : Addr} {n : Nat} {o : HO} (h : L2.upd H b o = G) (g : Bag n o) : Dr b n H G := h ▸ Dr.draw g
/-- list == [] -/
def rEqNil (K : PySem.W.Frag) : R2 := fun x y H Q => ∃ a p xs, x = .ref a ∧ y = .ref p ∧ SqL K H a xs ∧ SqL K H p [] ∧ Q (.bl xs.isEmpty) H
theorem op_eqNil {X : Cx} {K : PySem.W.Frag} (hu : X.A.units + 64 < cLine) (hK : X.K = K := by rfl) : OpR X (compareOp .Eq) (rEqNil K) := by
  subst hK
  intro pins s σ H x y v u Q J rx ry h
  obtain ⟨a, p, xs, rfl, rfl, ha, hp, q⟩ := h
  cases rx
  cases ry
  obtain ⟨its, rv, l1, _⟩ := J.list ha
  obtain ⟨its2, rv2, l2, _⟩ := J.list hp
  cases rv2
  have hl := rv.length
  cases xs with
  | nil =>
    cases rv
    exact SeqAt.eq_listAt (e := fun _ => true) l1.isList l2.isList rfl (by omega) (fun i h => by simp at h) ⟨.bl true, H, J.kept fun _ _ z => z, rfl, q⟩
  | cons x r =>
    exact SeqAt.eq_list_lengthsAt l1.isList l2.isList (by simp; intro z; rw [z] at hl; simp at hl) (by omega) ⟨.bl false, H, J.kept fun _ _ z => z, rfl, q⟩
end TS

/-! ### what the head tells of classes -/
namespace TS
open PySem PySem.Spec PyProof.Rows L2
theorem meth_of {K : PySem.W.Frag} {fn : List He.DefD} (c1 : fn.all (fun d => d.ok K) = true) (c2 : fn.map (fun d => He.fnW K d.at_) = fn.map He.DefD.val)
    {C m q : Str} {st : Stmt} (i : Nat) (hi : fn[i]? = some (methD C m q st)) : DefM K (He.ma K (He.ga K C) m) m q st := by
  have e1 : He.fnW K (methD C m q st).at_ = (methD C m q st).val := by
    have h1 := congrArg (·[i]?) c2
    simp only [List.getElem?_map, hi, Option.map_some] at h1
    exact Option.some.inj h1
  obtain ⟨fd, F⟩ := He.DefD.funD e1 (List.all_eq_true.mp c1 _ (List.mem_of_getElem? hi))
  exact ⟨fd, F⟩
theorem famB_ok {K : PySem.W.Frag} {x : Str} (h : famB K x = true) : FamV K (He.ga K x) := by
  obtain ⟨h1, h2⟩ := He.ba h
  obtain ⟨h3, h4⟩ := He.ba h1
  refine ⟨⟨h3, He.eqO_ok h4⟩, ?_⟩
  split at h2
  · rename_i s e
    rw [e, of_decide_eq_true h2]
  · cases h2
theorem oexB_ok {K : PySem.W.Frag} {C : Addr} (h : oexB K C = true) : ∃ nm q N bs bm sn sub ab col dd k0 k1 k2 k3 k5, K.lookup C = some (excClassObj nm q C N bs bm true sn sub ab col dd k0 k1 k2 k3 k5 "ValueError.__new__") ∧ PySem.HandSPX.refsVE bm = true := by
  unfold oexB at h
  split at h
  · rename_i c dd cd sl ho
    split at h
    · rename_i C' bm k0 k1 k2 k3 n k5 hm hs
      obtain ⟨a1, h⟩ := He.ba h
      obtain ⟨a2, h⟩ := He.ba h
      obtain ⟨a3, h⟩ := He.ba h
      obtain ⟨a4, h⟩ := He.ba h
      obtain ⟨a5, a6⟩ := He.ba h
      have a1 := of_decide_eq_true a1
      have a2 := of_decide_eq_true a2
      have a3 := of_decide_eq_true a3
      obtain ⟨nm, bs, mro, ns, qn, hd, sn, sb, ab, col, del⟩ := cd
      dsimp only at hm a4 a5
      have a5 : del = false := by simpa using a5
      subst a1 a2 a3 hm a4 a5
      have hsl : sl = #[k0, k1, k2, k3, some (.builtin "ValueError.__new__"), k5] := by
        obtain ⟨l⟩ := sl
        simp only at hs
        rw [hs]
      subst hsl
      exact ⟨nm, qn, ns, bs, bm, sn, sb, ab, col, dd, k0, k1, k2, k3, k5, ho, a6⟩
    · cases h
  · cases h
theorem ownB_ok {K : PySem.W.Frag} {x f : Str} (h : ownB K x f = true) : OwnV K (He.ga K x) f := by
  obtain ⟨h1, h⟩ := He.ba h
  obtain ⟨a1, h1⟩ := He.ba h1
  obtain ⟨a2, h1⟩ := He.ba h1
  obtain ⟨a3, h1⟩ := He.ba h1
  obtain ⟨a4, a5⟩ := He.ba h1
  obtain ⟨h2, h⟩ := He.ba h
  obtain ⟨b1, b2⟩ := He.ba h2
  obtain ⟨b3, b4⟩ := He.ba h
  exact ⟨⟨oexB_ok a1, He.eqO_ok a2, of_decide_eq_true a3, of_decide_eq_true a4, a5⟩, xfB_ok b1, He.eqO_ok b2, of_decide_eq_true b3, He.eqO_ok b4⟩
end TS

/-! ### 14. keyword-only parameters with defaults, no other defaults -/
namespace TS
open PySem PySem.Spec PyProof.Rows L2
def DefK (K : PySem.W.Frag) (mg : Str → Option Value) (x : Str) (st : Stmt) (kws : List (Str × V)) : Prop := ∃ f fd, FunD K x x (defArgs st) (defBody st) (defScope st) [] kws f fd ∧ mg x = some (.ref f)
/-- a call with n positional values and the keywords ks keeps sp, the lacking ones being ms -/
def PromK (P : Program) (w : World) (K : PySem.W.Frag) (mg : Str → Option Value) (base : Heap) (k : Nat) (x : Str) (ps : List Str) (sp : Sp) (n : Nat) (ks : List Str) (gV : List V → List V → List V) : Prop :=
  ∃ f fd g, FnOk P w K mg base CX0 k f fd ps sp ∧ mg x = some (.ref f) ∧ PySem.W.keepIn K (.ref f) = true ∧ KBn K fd ps n ks g gV
theorem kbinds0 {K : PySem.W.Frag} {x qual : Str} {params : Arguments} {body : List Stmt} {scope : Scope} {kws : List (Str × V)} {f : Addr} {fd : FuncData} {ps : List Str} (F : FunD K x qual params body scope [] kws f fd) (n : Nat) (ks : List Str) (ms : List (Str × V))
    (g : {α : Type} → List α → List α → List α → List α) (hk : kws ≠ []) (hms : ∀ q ∈ ms, q ∈ kws) (hrel : ∀ {vs mz zs : List V} {us mv ws : List Value}, Vals vs us → Vals mz mv → Vals zs ws → Vals (g vs mz zs) (g us mv ws))
    (h : ∀ (D : Addr) (doc pm : Value) (an : Option Addr) (cdv ct : Value) (us mv ws : List Value), us.length = n → mv.length = ms.length → ws.length = ks.length →
      KwChain D ((ms.map (·.1)).zip mv) (bindArgs (PySem.W.fnOf x qual params body scope .none (.ref D) doc pm an cdv ct) ⟨us, ks.zip ws⟩) (ps.zip (g us mv ws))) :
    ∃ mv : List Value, KBn K fd ps n ks (fun us ws => g us mv ws) (fun vs zs => g vs (ms.map (·.2)) zs) := by
  obtain ⟨oc, od, dV, kV, doc, pm, an, cdv, ct, osl, rfl, lk, hcd, dd, kk⟩ := F.ex
  rcases dd with ⟨_, rfl⟩ | ⟨e, _⟩
  · rcases kk with e | ⟨D, rfl, hq⟩
    · exact absurd e hk
    · obtain ⟨mv, l, r, a⟩ := kwd_vals (ms := ms) fun q m => hq q (hms q m)
      exact ⟨mv, ⟨fun s us ws X l1 l2 => BindsTo.of_looks fun M => KwChain.looks X a (h D doc pm an cdv ct us mv ws l1 l l2), fun r1 r2 => hrel r1 r r2⟩⟩
  · exact absurd rfl e
section
variable {X : Cx} {k n : Nat} {ps ks : List Str} {sp : Sp} {x : Str} {p pos : Pos} {e : Expr} {es : List Expr} {kws : List Keyword} {t tk : TA} {gV : List V → List V → List V}
theorem pe_pcK (pr : PromK X.prog X.w X.K X.mg X.base k x ps sp n ks gV) (hr : Room k X.A) (hg : Gl X x) (ha : PA X (e :: es) t) (hkw : PK X kws tk) (hall : (backToKw pos (keywordEach kws X.env)).all (·.1.isSome) = true := by rfl)
    (hks : (backToKw pos (keywordEach kws X.env)).filterMap (·.1) = ks := by rfl) (hdb : (x == ("__debug__" : Str)) = false := by decide) (he : starEach (e :: es) X.env = (false, eval e X.env) :: starEach es X.env := by rfl)
    (hpl : ((backTo pos (starEach (e :: es) X.env)).any (·.1) || (backToKw pos (keywordEach kws X.env)).any (·.1.isNone)) = false := by rfl) :
    PE X (.Call (.Name x p) (e :: es) kws pos) (tCallN n ks.length sp gV E0 t tk) := by
  obtain ⟨f, fd, g, F, m, kp, b⟩ := pr
  exact pe_callN F hr hg m kp b pass0 ha hkw hall hks hdb he hpl
end
section
variable {P : Program} {w : World} {K : PySem.W.Frag} {mg : Str → Option Value} {base : Heap} {N ps ks : List Str} {k n : Nat} {sp : Sp} {x : Str} {st : Stmt} {kws ms : List (Str × V)}
theorem promK_mk (D : DefK K mg x st kws) (S : FnScope N ps (defScope st)) (len : ∀ vs H Q E, sp vs H Q E → vs.length = ps.length) (ms : List (Str × V)) (g : {α : Type} → List α → List α → List α → List α) (hk : kws ≠ []) (hms : ∀ q ∈ ms, q ∈ kws)
    (hrel : ∀ {vs mz zs : List V} {us mv ws : List Value}, Vals vs us → Vals mz mv → Vals zs ws → Vals (g vs mz zs) (g us mv ws))
    (h : ∀ (D : Addr) (doc pm : Value) (an : Option Addr) (cdv ct : Value) (us mv ws : List Value), us.length = n → mv.length = ms.length → ws.length = ks.length →
      KwChain D ((ms.map (·.1)).zip mv) (bindArgs (PySem.W.fnOf x x (defArgs st) (defBody st) (defScope st) .none (.ref D) doc pm an cdv ct) ⟨us, ks.zip ws⟩) (ps.zip (g us mv ws)))
    (body : ∀ (f : Addr) (cdv : Value) (A : Around) (outer : List Env) (s : Shared) (H : Hp) (vs : List V) (Q : VK) (E : XK), Room k (A.deeper (envOfC x (defScope st) s.heap.objs.size f cdv)) → sp vs H Q E →
      ∃ t, PSs (cxOf CX0 P w K mg base N x (defScope st) f cdv A outer s H E).nox (defBody st) t ∧ t { nx := fun _ H' => Q .non H', rt := Q } (start N vs) H) : PromK P w K mg base (k + 1) x ps sp n ks (fun vs zs => g vs (ms.map (·.2)) zs) := by
  obtain ⟨f, fd, F, m⟩ := D
  obtain ⟨mv, b⟩ := kbinds0 F n ks ms g hk hms hrel h
  refine ⟨f, fd, _, F.ok S len fun cdv A outer s H vs Q E hr h => ?_, m, F.kp, b⟩
  obtain ⟨t, h1, h2⟩ := body f cdv A outer s H vs Q E hr h
  exact ⟨t, h1.nox, h2⟩
end
theorem defK_of {K : PySem.W.Frag} {h : Heap} {mg : Str → Option Value} {fn : List He.DefD} (X : K.In h) (G : h.Ns mainGlobals mg) (c1 : fn.all (fun d => d.ok K) = true) (c2 : fn.map (fun d => He.fnW K d.at_) = fn.map He.DefD.val)
    {x : Str} {st : Stmt} {kwd : List (Str × He.Dv)} (i : Nat) (hi : fn[i]? = some (defKD x st kwd)) (hg : (He.Fa.glo x).ok K = true) : DefK K mg x st (kwd.map fun q => (q.1, q.2.v K)) := by
  have e1 : He.fnW K (defKD x st kwd).at_ = (defKD x st kwd).val := by
    have h1 := congrArg (·[i]?) c2
    simp only [List.getElem?_map, hi, Option.map_some] at h1
    exact Option.some.inj h1
  obtain ⟨fd, F⟩ := He.DefD.funD e1 (List.all_eq_true.mp c1 _ (List.mem_of_getElem? hi))
  exact ⟨He.ga K x, fd, F, He.glo_ok X G hg⟩
end TS

/-! ### 15. C(e, .., k = v, ..) of an own class whose __init__ may raise -/
namespace TS
open PySem PySem.Spec PyProof.Rows L2
/-- a method with keyword-only parameters, called with n positional values (self among them) and the keywords ks -/
def PromAK (P : Program) (w : World) (K : PySem.W.Frag) (mg : Str → Option Value) (base : Heap) (k : Nat) (f : Addr) (ps : List Str) (sp : Sp) (n : Nat) (ks : List Str) (gV : List V → List V → List V) : Prop :=
  ∃ fd g, FnOk P w K mg base (L2.CX P w) k f fd ps sp ∧ KBn K fd ps n ks g gV
def tMakeSK (C : Addr) (n m : Nat) (sp : Sp) (gV : List V → List V → List V) (W : WX) (t tk : TA) : TE := fun σ H Q => t σ H fun vs H1 => tk σ H1 fun zs H2 => vs.length = n ∧ zs.length = m ∧ ∀ x dx, H2 x = none → H2 dx = none → dx ≠ x →
  sp (gV (.ref x :: vs) zs) (upd (upd H2 dx (.own x)) x (.ins C dx [])) (fun v H3 => v = .non ∧ Q (.ref x) H3) (WE W σ)
section
variable {X : Cx} {k n : Nat} {f C : Addr} {ps ks : List Str} {sp : Sp} {W : WX} {x : Str} {p pos : Pos} {e : Expr} {es : List Expr} {kws : List Keyword} {t tk : TA} {gV : List V → List V → List V}
theorem make_runSK {fd : FuncData} {g : List Value → List Value → List Value} {pins : List (Addr × Obj)} {σ : L2.St} {H : Hp} {s : Shared} {Q : VK} {us ws : List Value} {vs zs : List V} (M : Mk X.K C f) (F : FnOk X.prog X.w X.K X.mg X.base (L2.CX X.prog X.w) k f fd ps sp)
    (hr : Room (k + 1) X.A) (hb : KBn X.K fd ps (n + 1) ks g gV) (tkn : Takes X W) (J : Inv X pins σ H s) (r : Vals vs us) (rz : Vals zs ws) (l1 : vs.length = n) (l2 : zs.length = ks.length)
    (h : ∀ x dx, H x = none → H dx = none → dx ≠ x → sp (gV (.ref x :: vs) zs) (upd (upd H dx (.own x)) x (.ins C dx [])) (fun v H2 => v = .non ∧ Q (.ref x) H2) (WE W σ)) :
    wpAny (model X.prog X.w) X.A (call (.ref C) us (ks.zip ws)) (EP X pins σ Q) X.xe s := by
  have q := h (s.heap.objs.size + 1) s.heap.objs.size (J.hok.fresh (Nat.le_succ _)) (J.hok.fresh (Nat.le_refl _)) (Nat.ne_of_lt (Nat.lt_succ_self _))
  have J2 := Inv.made (C := C) J
  have r1 : Vals (V.ref (s.heap.objs.size + 1) :: vs) (Value.ref (s.heap.objs.size + 1) :: us) := .cons rfl r
  have n1 : (Value.ref (s.heap.objs.size + 1) :: us).length = n + 1 := by rw [List.length_cons, ← r.length, l1]
  refine wpAny_call (make_map (f := f) J.kIn M.makes M.init (beq_iff_eq.mp M.fn) (codeAny_mono (F.run _ X.stack _ _ ⟨Value.ref (s.heap.objs.size + 1) :: us, ks.zip ws⟩ (g (Value.ref (s.heap.objs.size + 1) :: us) ws) _ _ (WE W σ) (hr.make C us (ks.zip ws))
    (J2.env0.make C us (ks.zip ws)) (hb.to _ (Value.ref (s.heap.objs.size + 1) :: us) ws J2.kIn n1 (rz.length.symm.trans l2)) (hb.rel r1 rz) q) fun o t z => ?_))
  match o, z with
  | .error e, z => exact passAt tkn σ pins _ _ e t J2 z
  | .ok (.ret u), z =>
    obtain ⟨v, G, J3, rv, ev, q3⟩ := J2.after z
    subst ev
    exact ⟨rv, ⟨V.ref (s.heap.objs.size + 1), G, J3, rfl, q3⟩⟩
theorem pe_makeSK (M : Mk X.K C f) (pr : PromAK X.prog X.w X.K X.mg X.base k f ps sp (n + 1) ks gV) (tkn : Takes X W) (hr : Room (k + 1) X.A) (hg : Gl X x) (hm : X.mg x = some (.ref C)) (ha : PA X (e :: es) t) (hkw : PK X kws tk)
    (hall : (backToKw pos (keywordEach kws X.env)).all (·.1.isSome) = true := by rfl) (hks : (backToKw pos (keywordEach kws X.env)).filterMap (·.1) = ks := by rfl) (hdb : (x == ("__debug__" : Str)) = false := by decide)
    (he : starEach (e :: es) X.env = (false, eval e X.env) :: starEach es X.env := by rfl) (hpl : ((backTo pos (starEach (e :: es) X.env)).any (·.1) || (backToKw pos (keywordEach kws X.env)).any (·.1.isNone)) = false := by rfl) :
    PE X (.Call (.Name x p) (e :: es) kws pos) (tMakeSK C n ks.length sp gV W t tk) := by
  obtain ⟨fd, g, F, b⟩ := pr
  refine ⟨fun pins s σ H Q J h => wpAny_Call_Name_kw (ld_glob J hg hm ?_ hdb)⟩
  refine PySem.W.callWith_KW (h₀ := X.base) J.ok.mod.kin M.kp hall (thn (ha.run pos pins s σ H _ J h) fun us s1 ⟨vs, H1, J1, r, q⟩ => ?_) hpl he
  refine thn (hkw.run pos pins s1 σ H1 _ J1 q) fun ws s2 ⟨zs, H2, J2, rz, l1, l2, q2⟩ => ⟨J2.kIn, ?_⟩
  rw [hks]
  exact make_runSK M F hr b tkn J2 r rz l1 l2 q2
end
theorem units1 {k : Nat} {A : Around} (r : Room k A) : A.units + 1 < cLine := by
  have := r.units
  omega
/-! methods by their promises -/
section
variable {X : Cx} {k : Nat} {f C : Addr} {ps : List Str} {sp : Sp} {m : Str} {pos apos : Pos} {e o : Expr} {es : List Expr} {ta : TE} {t : TA}
theorem pe_pm {pl : Sem Bool} (c : Cls X.K C) (hm : Meth X.K C m f) (pr : PromA CX0 X.prog X.w X.K X.mg X.base k f ps sp) (hr : Room k X.A) (he : PE X o ta) (ha : PA X (e :: es) t)
    (hst : starEach (e :: es) X.env = (false, eval e X.env) :: starEach es X.env := by rfl) (hpl : (backTo pos (starEach es X.env)).any (·.1) = false := by rfl)
    (ht : eval (.Call (.Attribute o m apos) (e :: es) [] pos) X.env = (do
      let ov ← eval o X.env
      standAt apos.atName
      let (f, first) ← holding [ov] (getMethod ov m pl)
      callWith pos f first (backTo pos (starEach (e :: es) X.env)) (backToKw pos (keywordEach [] X.env))) := by rfl) : PE X (.Call (.Attribute o m apos) (e :: es) [] pos) (tMeth C m sp [] E0 ta t) := by
  obtain ⟨fd, F, b⟩ := pr
  exact pe_meth he c hm F hr b .nil pass0 ha hst hpl ht
theorem pe_pm0 {pl : Sem Bool} (c : Cls X.K C) (hm : Meth X.K C m f) (pr : PromA CX0 X.prog X.w X.K X.mg X.base k f ps sp) (hr : Room k X.A) (he : PE X o ta)
    (ht : eval (.Call (.Attribute o m apos) [] [] pos) X.env = (do
      let ov ← eval o X.env
      standAt apos.atName
      let (f, first) ← holding [ov] (getMethod ov m pl)
      callWith pos f first (backTo pos (starEach [] X.env)) (backToKw pos (keywordEach [] X.env))) := by rfl) : PE X (.Call (.Attribute o m apos) [] [] pos) (tMeth C m sp [] E0 ta tNil) := by
  obtain ⟨fd, F, b⟩ := pr
  exact pe_meth0 he c hm F hr b .nil pass0 ht
end
end TS

/-! ### 16. isinstance by an own class -/
namespace TS
open PySem PySem.Spec PyProof.Rows L2
structure IsC (K : PySem.W.Frag) (C : Addr) : Prop where
  cl : Cls K C
  ha : PySem.W.findIn K (.ref C) "__class__" = some (some (.builtin "object.__class__"))
  hn : PySem.W.specialIn K (.builtin "object.__class__") "__get__" = some (some (.builtin "getset_descriptor.__get__"))
  ht : PySem.W.takesIn K (.builtin "object.__class__") = some true
  hm : PySem.W.mroIn K C (.type "object") = some true
  yes : PySem.W.kitOne K (.ref C) (.ref C) = some true
  no : ∀ n ∈ kinds, PySem.W.kitOne K (.type n) (.ref C) = some false
theorem isCB_ok {K : PySem.W.Frag} {C : Addr} (c : Cls K C) (h : isCB K C = true) : IsC K C := by
  obtain ⟨h1, h2⟩ := He.ba h
  obtain ⟨a1, h1⟩ := He.ba h1
  obtain ⟨a2, h1⟩ := He.ba h1
  obtain ⟨a3, a4⟩ := He.ba h1
  obtain ⟨b1, b2⟩ := He.ba h2
  exact ⟨c, He.eqO_ok a1, He.eqO_ok a2, of_decide_eq_true a3, of_decide_eq_true a4, of_decide_eq_true b1, fun n m => of_decide_eq_true (List.all_eq_true.mp b2 n m)⟩
theorem IsC.ty {K : PySem.W.Frag} {C : Addr} (T : IsC K C) {H : Hp} {a dx : Addr} {fs : List (Str × V)} (e : H a = some (.ins C dx fs)) : TyX K H (.ref a) (.ref C) := .base (.ins e T.cl T.ha T.hn T.ht T.hm)
theorem IsC.data {K : PySem.W.Frag} {C : Addr} (T : IsC K C) (d : PyData) : PySem.W.kitOne K (.type (tyN d)) (.ref C) = some false := T.no _ (tyN_mem d)
end TS

/-! ### 17. terms as trees: signs in reading order, where parts end -/
namespace TS
open PySem
mutual
inductive Tm where
  | mk (s : Str) (ts : Fs)
inductive Fs where
  | nil
  | cons (t : Tm) (r : Fs)
end
def Fs.len : Fs → Nat
  | .nil => 0
  | .cons _ r => r.len + 1
mutual
def Tm.size : Tm → Nat
  | .mk _ ts => ts.size + 1
def Fs.size : Fs → Nat
  | .nil => 0
  | .cons t r => t.size + r.size
end
mutual
def Tm.flat : Tm → List Str
  | .mk s ts => s :: ts.flat
def Fs.flat : Fs → List Str
  | .nil => []
  | .cons t r => t.flat ++ r.flat
end
/-! each sign with its places -/
mutual
def Tm.wf (pl : Str → Option Nat) : Tm → Prop
  | .mk s ts => pl s = some ts.len ∧ ts.wf pl
def Fs.wf (pl : Str → Option Nat) : Fs → Prop
  | .nil => True
  | .cons t r => t.wf pl ∧ r.wf pl
end
/-! where each part ends, from the place o on -/
mutual
def Tm.ends (o : Nat) : Tm → List Nat
  | .mk s ts => (o + ts.size + 1) :: ts.ends (o + 1)
def Fs.ends (o : Nat) : Fs → List Nat
  | .nil => []
  | .cons t r => t.ends o ++ r.ends (o + t.size)
end
mutual
theorem Tm.flat_len : ∀ t : Tm, t.flat.length = t.size
  | .mk s ts => by
    unfold Tm.flat Tm.size
    rw [List.length_cons, Fs.flat_len ts]
theorem Fs.flat_len : ∀ r : Fs, r.flat.length = r.size
  | .nil => rfl
  | .cons t r => by
    unfold Fs.flat Fs.size
    rw [List.length_append, Tm.flat_len t, Fs.flat_len r]
end
mutual
theorem Tm.ends_len : ∀ (t : Tm) (o : Nat), (t.ends o).length = t.size
  | .mk s ts, o => by
    unfold Tm.ends Tm.size
    rw [List.length_cons, Fs.ends_len ts]
theorem Fs.ends_len : ∀ (r : Fs) (o : Nat), (r.ends o).length = r.size
  | .nil, _ => rfl
  | .cons t r, o => by
    unfold Fs.ends Fs.size
    rw [List.length_append, Tm.ends_len t, Fs.ends_len r]
end
theorem Tm.size_pos (t : Tm) : 0 < t.size := by
  cases t with
  | mk s ts => unfold Tm.size; omega
/-! how a list of signs is read: k parts lack -/
/-- what is lacking behind the signs; none: a sign that is none, or a sign behind the end -/
def lacks (pl : Str → Option Nat) : Nat → List Str → Option Nat
  | k, [] => some k
  | 0, _ :: _ => none
  | k + 1, z :: r => (pl z).bind fun p => lacks pl (k + p) r
def Fs.app : Fs → Fs → Fs
  | .nil, b => b
  | .cons t r, b => .cons t (r.app b)
theorem Fs.split : ∀ (r : Fs) (p k : Nat), r.len = k + p → ∃ a b : Fs, r = a.app b ∧ a.len = p ∧ b.len = k
  | r, 0, k, h => ⟨.nil, r, rfl, rfl, by simpa using h⟩
  | .nil, p + 1, k, h => by simp [Fs.len] at h
  | .cons t r, p + 1, k, h => by
    obtain ⟨a, b, e, ha, hb⟩ := Fs.split r p k (by simp only [Fs.len] at h; omega)
    exact ⟨.cons t a, b, by rw [e]; rfl, by simp only [Fs.len]; omega, hb⟩
theorem Fs.flat_app : ∀ a b : Fs, (a.app b).flat = a.flat ++ b.flat
  | .nil, b => rfl
  | .cons t r, b => by
    show t.flat ++ (r.app b).flat = (t.flat ++ r.flat) ++ b.flat
    rw [Fs.flat_app r b, List.append_assoc]
theorem Fs.wf_app {pl : Str → Option Nat} : ∀ {a b : Fs}, (a.app b).wf pl → a.wf pl ∧ b.wf pl
  | .nil, b, h => ⟨by simp [Fs.wf], h⟩
  | .cons t r, b, h => by
    have h' : t.wf pl ∧ (r.app b).wf pl := h
    obtain ⟨h1, h2⟩ := Fs.wf_app h'.2
    exact ⟨⟨h'.1, h1⟩, h2⟩
/-- signs that are read to their end are k trees -/
theorem parse {pl : Str → Option Nat} : ∀ (zs : List Str) (k : Nat), lacks pl k zs = some 0 → ∃ r : Fs, r.flat = zs ∧ r.wf pl ∧ r.len = k
  | [], k, h => by
    have e : k = 0 := by simpa [lacks] using h
    subst e
    exact ⟨.nil, rfl, by simp [Fs.wf], rfl⟩
  | z :: r, 0, h => by simp [lacks] at h
  | z :: r, k + 1, h => by
    cases hp : pl z with
    | none => simp [lacks, hp] at h
    | some p =>
      have h' : lacks pl (k + p) r = some 0 := by simpa [lacks, hp] using h
      obtain ⟨f, hf, hw, hl⟩ := parse r (k + p) h'
      obtain ⟨a, b, rfl, ha, hb⟩ := f.split p k hl
      obtain ⟨w1, w2⟩ := Fs.wf_app hw
      refine ⟨.cons (.mk z a) b, ?_, ⟨⟨by rw [ha]; exact hp, w1⟩, w2⟩, by simp only [Fs.len]; omega⟩
      show (z :: a.flat) ++ b.flat = z :: r
      rw [← hf, Fs.flat_app]
      rfl
/-! jumps from part to part -/
def jump (E : List Nat) : Nat → Nat → Option Nat
  | 0, s => some s
  | n + 1, s => (E[s]?).bind (jump E n)
theorem Tm.ends_head (t : Tm) (o : Nat) : (t.ends o)[0]? = some (o + t.size) := by
  cases t with
  | mk s ts =>
    unfold Tm.ends Tm.size
    rw [List.getElem?_cons_zero, Nat.add_assoc]
theorem Fs.jumps : ∀ (r : Fs) (o : Nat) (E : List Nat), (∀ i, i < r.size → E[o + i]? = (r.ends o)[i]?) → jump E r.len o = some (o + r.size)
  | .nil, o, E, _ => by simp [Fs.len, Fs.size, jump]
  | .cons t r, o, E, h => by
    have tp := t.size_pos
    have h0 : E[o]? = some (o + t.size) := by
      have := h 0 (by unfold Fs.size; omega)
      rw [Nat.add_zero] at this
      rw [this]
      show (t.ends o ++ r.ends (o + t.size))[0]? = _
      rw [List.getElem?_append_left (by rw [Tm.ends_len]; exact tp), Tm.ends_head]
    show (E[o]?).bind (jump E r.len) = _
    rw [h0]
    show jump E r.len (o + t.size) = _
    rw [Fs.jumps r (o + t.size) E fun i hi => ?_]
    · show _ = some (o + (t.size + r.size))
      rw [Nat.add_assoc]
    · have := h (t.size + i) (by unfold Fs.size; omega)
      rw [← Nat.add_assoc] at this
      rw [this]
      show (t.ends o ++ r.ends (o + t.size))[t.size + i]? = _
      rw [List.getElem?_append_right (by rw [Tm.ends_len]; omega), Tm.ends_len, Nat.add_sub_cancel_left]
/-- what stands at a place: its sign, its parts behind it, where it ends -/
structure NodeAt (pl : Str → Option Nat) (flat : List Str) (ends : List Nat) (o i : Nat) (s : Str) (ts : Fs) : Prop where
  sign : flat[i]? = some s
  wf : ts.wf pl
  many : pl s = some ts.len
  stop : ends[i]? = some (o + i + 1 + ts.size)
  in_ : i + ts.size < flat.length
  kids : ∀ j, j < ts.size → ends[i + 1 + j]? = (ts.ends (o + i + 1))[j]?
mutual
theorem Tm.node {pl : Str → Option Nat} : ∀ (t : Tm) (o i : Nat), t.wf pl → i < t.size → ∃ s ts, NodeAt pl t.flat (t.ends o) o i s ts
  | .mk s ts, o, 0, hw, _ => by
    have hw' : pl s = some ts.len ∧ ts.wf pl := hw
    refine ⟨s, ts, rfl, hw'.2, hw'.1, ?_, ?_, fun j hj => ?_⟩
    · show some (o + ts.size + 1) = _
      congr 1
      omega
    · rw [Tm.flat_len]
      show 0 + ts.size < ts.size + 1
      omega
    · show ((o + ts.size + 1) :: ts.ends (o + 1))[0 + 1 + j]? = _
      rw [show 0 + 1 + j = j + 1 by omega, List.getElem?_cons_succ]
  | .mk s ts, o, i + 1, hw, hi => by
    have hw' : pl s = some ts.len ∧ ts.wf pl := hw
    obtain ⟨s2, ts2, n⟩ := Fs.node ts (o + 1) i hw'.2 (by unfold Tm.size at hi; omega)
    refine ⟨s2, ts2, ?_, n.wf, n.many, ?_, ?_, fun j hj => ?_⟩
    · show (s :: ts.flat)[i + 1]? = _
      rw [List.getElem?_cons_succ]; exact n.sign
    · show ((o + ts.size + 1) :: ts.ends (o + 1))[i + 1]? = _
      rw [List.getElem?_cons_succ, n.stop]
      congr 1
      omega
    · have := n.in_
      rw [Fs.flat_len] at this
      rw [Tm.flat_len]
      show i + 1 + ts2.size < ts.size + 1
      omega
    · show ((o + ts.size + 1) :: ts.ends (o + 1))[i + 1 + 1 + j]? = _
      rw [show i + 1 + 1 + j = (i + 1 + j) + 1 by omega, List.getElem?_cons_succ, n.kids j hj, show o + 1 + i + 1 = o + (i + 1) + 1 by omega]
theorem Fs.node {pl : Str → Option Nat} : ∀ (r : Fs) (o i : Nat), r.wf pl → i < r.size → ∃ s ts, NodeAt pl r.flat (r.ends o) o i s ts
  | .nil, o, i, _, hi => absurd hi (by unfold Fs.size; omega)
  | .cons t r, o, i, hw, hi => by
    have hw' : t.wf pl ∧ r.wf pl := hw
    by_cases h : i < t.size
    · obtain ⟨s, ts, n⟩ := Tm.node t o i hw'.1 h
      have ni := n.in_
      rw [Tm.flat_len] at ni
      refine ⟨s, ts, ?_, n.wf, n.many, ?_, ?_, fun j hj => ?_⟩
      · show (t.flat ++ r.flat)[i]? = _
        rw [List.getElem?_append_left (by rw [Tm.flat_len]; exact h)]; exact n.sign
      · show (t.ends o ++ r.ends (o + t.size))[i]? = _
        rw [List.getElem?_append_left (by rw [Tm.ends_len]; exact h)]; exact n.stop
      · rw [Fs.flat_len]
        show i + ts.size < t.size + r.size
        omega
      · show (t.ends o ++ r.ends (o + t.size))[i + 1 + j]? = _
        rw [List.getElem?_append_left (by rw [Tm.ends_len]; omega)]; exact n.kids j hj
    · have hi2 : i - t.size < r.size := by unfold Fs.size at hi; omega
      obtain ⟨s, ts, n⟩ := Fs.node r (o + t.size) (i - t.size) hw'.2 hi2
      have ni := n.in_
      rw [Fs.flat_len] at ni
      refine ⟨s, ts, ?_, n.wf, n.many, ?_, ?_, fun j hj => ?_⟩
      · show (t.flat ++ r.flat)[i]? = _
        rw [List.getElem?_append_right (by rw [Tm.flat_len]; omega), Tm.flat_len]; exact n.sign
      · show (t.ends o ++ r.ends (o + t.size))[i]? = _
        rw [List.getElem?_append_right (by rw [Tm.ends_len]; omega), Tm.ends_len, n.stop]
        congr 1
        omega
      · rw [Fs.flat_len]
        show i + ts.size < t.size + r.size
        omega
      · show (t.ends o ++ r.ends (o + t.size))[i + 1 + j]? = _
        rw [List.getElem?_append_right (by rw [Tm.ends_len]; omega), Tm.ends_len, show i + 1 + j - t.size = i - t.size + 1 + j by omega, n.kids j hj, show o + t.size + (i - t.size) + 1 = o + i + 1 by omega]
end
theorem Fs.len_size : ∀ r : Fs, r.len ≤ r.size
  | .nil => Nat.le_refl _
  | .cons t r => by
    have h1 := t.size_pos
    have h2 := Fs.len_size r
    show r.len + 1 ≤ t.size + r.size
    omega
end TS

/-! ### 18. methods with keyword-only parameters -/
namespace TS
open PySem PySem.Spec PyProof.Rows L2
def DefMK (K : PySem.W.Frag) (f : Addr) (m qual : Str) (st : Stmt) (kws : List (Str × V)) : Prop := ∃ fd, FunD K m qual (defArgs st) (defBody st) (defScope st) [] kws f fd
section
variable {P : Program} {w : World} {K : PySem.W.Frag} {mg : Str → Option Value} {base : Heap} {N ps ks : List Str} {k n : Nat} {sp : Sp} {m qual : Str} {st : Stmt} {f : Addr} {kws : List (Str × V)}
theorem methXK_mk (D : DefMK K f m qual st kws) (S : FnScope N ps (defScope st)) (len : ∀ vs H Q E, sp vs H Q E → vs.length = ps.length)
    (body : ∀ (cdv : Value) (A : Around) (outer : List Env) (s : Shared) (H : Hp) (vs : List V) (Q : VK) (E : XK), Room k (A.deeper (envOfC qual (defScope st) s.heap.objs.size f cdv)) → sp vs H Q E →
      ∃ t, PSs (cxOf (L2.CX P w) P w K mg base N qual (defScope st) f cdv A outer s H E) (defBody st) t ∧ t { nx := fun _ G => Q .non G, rt := Q } (start N vs) H) :
    ∃ fd, FunD K m qual (defArgs st) (defBody st) (defScope st) [] kws f fd ∧ FnOk P w K mg base (L2.CX P w) (k + 1) f fd ps sp := by
  obtain ⟨fd, F⟩ := D
  exact ⟨fd, F, F.ok S len body⟩
theorem promAK_of (h : ∃ fd, FunD K m qual (defArgs st) (defBody st) (defScope st) [] kws f fd ∧ FnOk P w K mg base (L2.CX P w) k f fd ps sp) (n : Nat) (ks : List Str) (ms : List (Str × V)) (g : {α : Type} → List α → List α → List α → List α) (hk : kws ≠ []) (hms : ∀ q ∈ ms, q ∈ kws)
    (hrel : ∀ {vs mz zs : List V} {us mv ws : List Value}, Vals vs us → Vals mz mv → Vals zs ws → Vals (g vs mz zs) (g us mv ws))
    (hb : ∀ (D : Addr) (doc pm : Value) (an : Option Addr) (cdv ct : Value) (us mv ws : List Value), us.length = n → mv.length = ms.length → ws.length = ks.length →
      KwChain D ((ms.map (·.1)).zip mv) (bindArgs (PySem.W.fnOf m qual (defArgs st) (defBody st) (defScope st) .none (.ref D) doc pm an cdv ct) ⟨us, ks.zip ws⟩) (ps.zip (g us mv ws))) :
    PromAK P w K mg base k f ps sp n ks (fun vs zs => g vs (ms.map (·.2)) zs) := by
  obtain ⟨fd, F, ok⟩ := h
  obtain ⟨mv, b⟩ := kbinds0 F n ks ms g hk hms hrel hb
  exact ⟨fd, _, ok, b⟩
end
theorem methK_of {K : PySem.W.Frag} {fn : List He.DefD} (c1 : fn.all (fun d => d.ok K) = true) (c2 : fn.map (fun d => He.fnW K d.at_) = fn.map He.DefD.val)
    {C m q : Str} {st : Stmt} {kwd : List (Str × He.Dv)} (i : Nat) (hi : fn[i]? = some (methKD C m q st kwd)) : DefMK K (He.ma K (He.ga K C) m) m q st (kwd.map fun q => (q.1, q.2.v K)) := by
  have e1 : He.fnW K (methKD C m q st kwd).at_ = (methKD C m q st kwd).val := by
    have h1 := congrArg (·[i]?) c2
    simp only [List.getElem?_map, hi, Option.map_some] at h1
    exact Option.some.inj h1
  obtain ⟨fd, F⟩ := He.DefD.funD e1 (List.all_eq_true.mp c1 _ (List.mem_of_getElem? hi))
  exact ⟨fd, F⟩
section
variable {X : Cx} {k : Nat} {ps : List Str} {sp : Sp} {x : Str} {p pos : Pos}
/-- a guarded def called with nothing -/
theorem pe_pcG0 (pr : PromG X.prog X.w X.K X.mg X.base k x ps sp) (hgd : X.A.guards = some []) (hr : Room k X.A) (hg : Gl X x) (hdb : (x == ("__debug__" : Str)) = false := by decide) :
    PE X (.Call (.Name x p) [] [] pos) (tCall sp [] E0 tNil) := by
  obtain ⟨f, fd, F, m, kp, b⟩ := pr
  refine ⟨fun pins s σ H Q I h => wpAny_Call_Name_kw (ld_glob I hg m ?_ hdb)⟩
  exact PySem.W.callWith_K0 I.kIn kp (run_G (us := []) F hgd hr b .nil pass0 I .nil h)
end
end TS

/-! ### 19. parts of a term by their places; where they begin; spots -/
namespace TS
open PySem
def Fs.starts (o : Nat) : Fs → List Nat
  | .nil => []
  | .cons t r => o :: r.starts (o + t.size)
def Fs.list : Fs → List Tm
  | .nil => []
  | .cons t r => t :: r.list
theorem Fs.list_len : ∀ r : Fs, r.list.length = r.len
  | .nil => rfl
  | .cons t r => by show r.list.length + 1 = r.len + 1; rw [Fs.list_len r]
theorem Fs.starts_len : ∀ (r : Fs) (o : Nat), (r.starts o).length = r.len
  | .nil, _ => rfl
  | .cons t r, o => by show (r.starts _).length + 1 = r.len + 1; rw [Fs.starts_len r]
/-! t' stands at the place p -/
mutual
inductive At : Tm → Nat → Tm → Prop
  | here (t : Tm) : At t 0 t
  | kid {s : Str} {ts : Fs} {p : Nat} {t : Tm} : FsAt ts p t → At (.mk s ts) (p + 1) t
inductive FsAt : Fs → Nat → Tm → Prop
  | first {t : Tm} {r : Fs} {p : Nat} {u : Tm} : At t p u → FsAt (.cons t r) p u
  | rest {t : Tm} {r : Fs} {p : Nat} {u : Tm} : FsAt r p u → FsAt (.cons t r) (t.size + p) u
end
structure Seg (flat : List Str) (ends : List Nat) (o p : Nat) (u : Tm) : Prop where
  le : p + u.size ≤ flat.length
  flat : ∀ j, j < u.size → flat[p + j]? = u.flat[j]?
  ends : ∀ j, j < u.size → ends[p + j]? = (u.ends (o + p))[j]?
mutual
theorem At.seg : ∀ {t : Tm} {p : Nat} {u : Tm} (o : Nat), At t p u → Seg t.flat (t.ends o) o p u
  | _, _, _, o, .here t => ⟨by rw [Nat.zero_add, Tm.flat_len]; exact Nat.le_refl _, fun j _ => by rw [Nat.zero_add], fun j _ => by rw [Nat.zero_add, Nat.add_zero]⟩
  | .mk s ts, _, u, o, .kid (p := p) h => by
    have g := FsAt.seg (o + 1) h
    refine ⟨?_, fun j hj => ?_, fun j hj => ?_⟩
    · have := g.le
      rw [Tm.flat_len]
      rw [Fs.flat_len] at this
      show p + 1 + u.size ≤ ts.size + 1
      omega
    · show (s :: ts.flat)[p + 1 + j]? = _
      rw [show p + 1 + j = (p + j) + 1 by omega, List.getElem?_cons_succ]
      exact g.flat j hj
    · show ((o + ts.size + 1) :: ts.ends (o + 1))[p + 1 + j]? = _
      rw [show p + 1 + j = (p + j) + 1 by omega, List.getElem?_cons_succ, g.ends j hj, show o + 1 + p = o + (p + 1) by omega]
theorem FsAt.seg : ∀ {r : Fs} {p : Nat} {u : Tm} (o : Nat), FsAt r p u → Seg r.flat (r.ends o) o p u
  | .cons t r, p, u, o, .first h => by
    have g := At.seg o h
    have gl := g.le
    rw [Tm.flat_len] at gl
    refine ⟨?_, fun j hj => ?_, fun j hj => ?_⟩
    · rw [Fs.flat_len]
      show p + u.size ≤ t.size + r.size
      omega
    · show (t.flat ++ r.flat)[p + j]? = _
      rw [List.getElem?_append_left (by rw [Tm.flat_len]; omega)]
      exact g.flat j hj
    · show (t.ends o ++ r.ends (o + t.size))[p + j]? = _
      rw [List.getElem?_append_left (by rw [Tm.ends_len]; omega)]
      exact g.ends j hj
  | .cons t r, _, u, o, .rest (p := p) h => by
    have g := FsAt.seg (o + t.size) h
    have gl := g.le
    rw [Fs.flat_len] at gl
    refine ⟨?_, fun j hj => ?_, fun j hj => ?_⟩
    · rw [Fs.flat_len]
      show t.size + p + u.size ≤ t.size + r.size
      omega
    · show (t.flat ++ r.flat)[t.size + p + j]? = _
      rw [List.getElem?_append_right (by rw [Tm.flat_len]; omega), Tm.flat_len, show t.size + p + j - t.size = p + j by omega]
      exact g.flat j hj
    · show (t.ends o ++ r.ends (o + t.size))[t.size + p + j]? = _
      rw [List.getElem?_append_right (by rw [Tm.ends_len]; omega), Tm.ends_len, show t.size + p + j - t.size = p + j by omega, g.ends j hj, show o + t.size + p = o + (t.size + p) by omega]
end
mutual
theorem At.wf {pl : Str → Option Nat} : ∀ {t : Tm} {p : Nat} {u : Tm}, At t p u → t.wf pl → u.wf pl
  | _, _, _, .here _, h => h
  | .mk s ts, _, _, .kid g, h => FsAt.wf g (show pl s = some ts.len ∧ ts.wf pl from h).2
theorem FsAt.wf {pl : Str → Option Nat} : ∀ {r : Fs} {p : Nat} {u : Tm}, FsAt r p u → r.wf pl → u.wf pl
  | .cons t r, _, _, .first g, h => At.wf g (show t.wf pl ∧ r.wf pl from h).1
  | .cons t r, _, _, .rest g, h => FsAt.wf g (show t.wf pl ∧ r.wf pl from h).2
end
mutual
theorem At.trans : ∀ {t : Tm} {p : Nat} {u : Tm} {q : Nat} {v : Tm}, At t p u → At u q v → At t (p + q) v
  | _, _, _, q, _, .here _, g => by rw [Nat.zero_add]; exact g
  | .mk s ts, _, _, q, _, .kid (p := p) h, g => by
    rw [show p + 1 + q = (p + q) + 1 by omega]
    exact .kid (FsAt.trans h g)
theorem FsAt.trans : ∀ {r : Fs} {p : Nat} {u : Tm} {q : Nat} {v : Tm}, FsAt r p u → At u q v → FsAt r (p + q) v
  | .cons t r, _, _, q, _, .first h, g => .first (At.trans h g)
  | .cons t r, _, _, q, _, .rest (p := p) h, g => by
    rw [show t.size + p + q = t.size + (p + q) by omega]
    exact .rest (FsAt.trans h g)
end
/-- where the parts stand -/
theorem Fs.kid_at : ∀ (r : Fs) (o i : Nat) (u : Tm), r.list[i]? = some u → ∃ p, (r.starts o)[i]? = some (o + p) ∧ FsAt r p u
  | .nil, o, i, u, h => by simp [Fs.list] at h
  | .cons t r, o, 0, u, h => by
    have : t = u := by simpa [Fs.list] using h
    subst this
    exact ⟨0, by simp [Fs.starts], .first (.here t)⟩
  | .cons t r, o, i + 1, u, h => by
    obtain ⟨p, h1, h2⟩ := Fs.kid_at r (o + t.size) i u (by simpa [Fs.list] using h)
    refine ⟨t.size + p, ?_, .rest h2⟩
    show (o :: r.starts (o + t.size))[i + 1]? = _
    rw [List.getElem?_cons_succ, h1, Nat.add_assoc]
theorem At.kids {t : Tm} {p : Nat} {s : Str} {ts : Fs} (h : At t p (.mk s ts)) {i : Nat} {u : Tm} (hu : ts.list[i]? = some u) : ∃ q, (ts.starts (p + 1))[i]? = some q ∧ At t q u := by
  obtain ⟨q, h1, h2⟩ := ts.kid_at (p + 1) i u hu
  refine ⟨p + 1 + q, h1, ?_⟩
  rw [show p + 1 + q = p + (q + 1) by omega]
  exact h.trans (.kid h2)
theorem take_eq {α : Type} {l m : List α} {p n : Nat} (hm : m.length = n) (hl : p + n ≤ l.length) (h : ∀ j, j < n → l[p + j]? = m[j]?) : (l.drop p).take n = m := by
  apply List.ext_getElem?
  intro j
  by_cases hj : j < n
  · rw [List.getElem?_take_of_lt hj, List.getElem?_drop, h j hj]
  · rw [List.getElem?_eq_none (by rw [List.length_take, List.length_drop]; omega), List.getElem?_eq_none (by omega)]
/-- the part's own signs -/
theorem Seg.signs {flat : List Str} {ends : List Nat} {o p : Nat} {u : Tm} (g : Seg flat ends o p u) : (flat.drop p).take u.size = u.flat := take_eq (Tm.flat_len u) g.le g.flat
/-- where it ends -/
theorem Seg.stop {flat : List Str} {ends : List Nat} {p : Nat} {u : Tm} (g : Seg flat ends 0 p u) : ends[p]? = some (p + u.size) := by
  have h := g.ends 0 u.size_pos
  rw [Nat.add_zero, Nat.zero_add, Tm.ends_head] at h
  exact h
/-! one reading alone -/
theorem Fs.app_inj : ∀ {a b c d : Fs}, a.len = c.len → a.app b = c.app d → a = c ∧ b = d
  | .nil, b, .nil, d, _, h => ⟨rfl, h⟩
  | .nil, b, .cons _ _, d, h, _ => by simp [Fs.len] at h
  | .cons _ _, b, .nil, d, h, _ => by simp [Fs.len] at h
  | .cons t r, b, .cons u q, d, h, e => by
    have e' : Fs.cons t (r.app b) = Fs.cons u (q.app d) := e
    injection e' with e1 e2
    obtain ⟨h1, h2⟩ := Fs.app_inj (by simpa [Fs.len] using h) e2
    exact ⟨by rw [e1, h1], h2⟩
theorem Fs.app_len : ∀ a b : Fs, (a.app b).len = a.len + b.len
  | .nil, b => by show b.len = 0 + b.len; omega
  | .cons t r, b => by show (r.app b).len + 1 = r.len + 1 + b.len; rw [Fs.app_len r b]; omega
theorem Fs.app_wf {pl : Str → Option Nat} : ∀ {a b : Fs}, a.wf pl → b.wf pl → (a.app b).wf pl
  | .nil, b, _, h => h
  | .cons t r, b, h1, h2 => ⟨(show t.wf pl ∧ r.wf pl from h1).1, Fs.app_wf (show t.wf pl ∧ r.wf pl from h1).2 h2⟩
theorem Fs.uniq {pl : Str → Option Nat} : ∀ (n : Nat) (r q : Fs), r.flat.length ≤ n → r.wf pl → q.wf pl → r.len = q.len → r.flat = q.flat → r = q
  | _, .nil, .nil, _, _, _, _, _ => rfl
  | _, .nil, .cons _ _, _, _, _, h, _ => by simp [Fs.len] at h
  | _, .cons _ _, .nil, _, _, _, h, _ => by simp [Fs.len] at h
  | 0, .cons (.mk s ts) r, .cons _ _, hn, _, _, _, _ => by
    rw [Fs.flat_len] at hn
    have hn' : (Tm.mk s ts).size + r.size ≤ 0 := hn
    have := (Tm.mk s ts).size_pos
    omega
  | n + 1, .cons (.mk s ts) r, .cons (.mk s2 ts2) q, hn, h1, h2, hl, hf => by
    have f1 : s :: (ts.app r).flat = s2 :: (ts2.app q).flat := by
      rw [Fs.flat_app, Fs.flat_app]
      exact hf
    injection f1 with es ef
    subst es
    have w1 : (pl s = some ts.len ∧ ts.wf pl) ∧ r.wf pl := h1
    have w2 : (pl s = some ts2.len ∧ ts2.wf pl) ∧ q.wf pl := h2
    have hlen : ts.len = ts2.len := Option.some.inj (w1.1.1.symm.trans w2.1.1)
    have hl' : r.len = q.len := by simpa [Fs.len] using hl
    have e := Fs.uniq n (ts.app r) (ts2.app q) (by
      rw [Fs.flat_app, List.length_append, Fs.flat_len, Fs.flat_len]
      rw [Fs.flat_len] at hn
      have hn' : (ts.size + 1) + r.size ≤ n + 1 := hn
      omega) (Fs.app_wf w1.1.2 w1.2) (Fs.app_wf w2.1.2 w2.2) (by rw [Fs.app_len, Fs.app_len]; omega) ef
    obtain ⟨a, b⟩ := Fs.app_inj hlen e
    rw [a, b]
theorem Tm.uniq {pl : Str → Option Nat} {t u : Tm} (h1 : t.wf pl) (h2 : u.wf pl) (h : t.flat = u.flat) : t = u := by
  have e := Fs.uniq (pl := pl) _ (.cons t .nil) (.cons u .nil) (Nat.le_refl _) ⟨h1, by simp [Fs.wf]⟩ ⟨h2, by simp [Fs.wf]⟩ rfl (by show t.flat ++ [] = u.flat ++ []; rw [h])
  injection e
theorem Fs.one : ∀ {r : Fs}, r.len = 1 → ∃ t, r = .cons t .nil
  | .nil, h => by simp [Fs.len] at h
  | .cons t .nil, _ => ⟨t, rfl⟩
  | .cons t (.cons u r), h => by simp [Fs.len] at h
/-! signs of a tree are read to their end -/
theorem lacks_add {pl : Str → Option Nat} : ∀ (r : Fs) (k : Nat) (zs : List Str), r.wf pl → lacks pl (r.len + k) (r.flat ++ zs) = lacks pl k zs := fun r => by
  have main : ∀ (n : Nat) (r : Fs) (k : Nat) (zs : List Str), r.size ≤ n → r.wf pl → lacks pl (r.len + k) (r.flat ++ zs) = lacks pl k zs := fun n => by
    induction n with
    | zero =>
      intro r k zs hn _
      cases r with
      | nil => show lacks pl (0 + k) zs = _; rw [Nat.zero_add]
      | cons t r =>
        have := t.size_pos
        have hn' : t.size + r.size ≤ 0 := hn
        omega
    | succ n ih =>
      intro r k zs hn hw
      cases r with
      | nil => show lacks pl (0 + k) zs = _; rw [Nat.zero_add]
      | cons t r =>
        cases t with
        | mk s ts =>
          have w : (pl s = some ts.len ∧ ts.wf pl) ∧ r.wf pl := hw
          have hn' : (ts.size + 1) + r.size ≤ n + 1 := hn
          show lacks pl (r.len + 1 + k) ((s :: ts.flat) ++ r.flat ++ zs) = _
          rw [show r.len + 1 + k = (r.len + k) + 1 by omega]
          show (pl s).bind (fun p => lacks pl (r.len + k + p) ((ts.flat ++ r.flat) ++ zs)) = _
          rw [w.1.1]
          show lacks pl (r.len + k + ts.len) ((ts.flat ++ r.flat) ++ zs) = _
          rw [List.append_assoc, show r.len + k + ts.len = ts.len + (r.len + k) by omega, ih ts (r.len + k) (r.flat ++ zs) (by omega) w.1.2]
          exact ih r k zs (by omega) w.2
  exact fun k zs h => main r.size r k zs (Nat.le_refl _) h
theorem Tm.lacks {pl : Str → Option Nat} {t : Tm} (h : t.wf pl) : TS.lacks pl 1 t.flat = some 0 := by
  have := lacks_add (pl := pl) (.cons t .nil) 0 [] ⟨h, by simp [Fs.wf]⟩
  rw [List.append_nil] at this
  rw [show t.flat = (Fs.cons t .nil).flat by show _ = t.flat ++ []; rw [List.append_nil]]
  exact this
theorem Fs.app_nil : ∀ a : Fs, a.app .nil = a
  | .nil => rfl
  | .cons t r => by show Fs.cons t (r.app .nil) = _; rw [Fs.app_nil r]
theorem Fs.app_assoc : ∀ a b c : Fs, (a.app b).app c = a.app (b.app c)
  | .nil, b, c => rfl
  | .cons t r, b, c => by show Fs.cons t ((r.app b).app c) = Fs.cons t (r.app (b.app c)); rw [Fs.app_assoc r b c]
theorem Fs.app_size : ∀ a b : Fs, (a.app b).size = a.size + b.size
  | .nil, b => by show b.size = 0 + b.size; omega
  | .cons t r, b => by show t.size + (r.app b).size = t.size + r.size + b.size; rw [Fs.app_size r b]; omega
theorem Fs.starts_app : ∀ (a b : Fs) (o : Nat), (a.app b).starts o = a.starts o ++ b.starts (o + a.size)
  | .nil, b, o => by show b.starts o = [] ++ b.starts (o + 0); rw [Nat.add_zero]; rfl
  | .cons t r, b, o => by
    show o :: (r.app b).starts (o + t.size) = (o :: r.starts (o + t.size)) ++ b.starts (o + (t.size + r.size))
    rw [Fs.starts_app r b, Nat.add_assoc]
    rfl
theorem Fs.app_at : ∀ (a : Fs) (u : Tm) (r : Fs), FsAt (a.app (.cons u r)) a.size u
  | .nil, u, r => .first (.here u)
  | .cons t q, u, r => .rest (Fs.app_at q u r)
theorem Fs.list_app : ∀ a b : Fs, (a.app b).list = a.list ++ b.list
  | .nil, b => rfl
  | .cons t r, b => by show t :: (r.app b).list = (t :: r.list) ++ b.list; rw [Fs.list_app r b]; rfl
end TS

/-! ### 20. comprehensions whose items are told by a word that stays -/
namespace TS
open PySem PySem.Spec PyProof.Rows L2
theorem Same.keep' {H G : Hp} {F : Addr} {o : HO} (s : Same H G) (h : H F = none) : Same H (L2.upd G F o) := fun a u e => by
  rw [upd_ne (ne_of_none e h)]
  exact s a u e
theorem lc_prop {J : It} {m : Nat} {G : Hp → Prop} {g : Nat → V} (wk : Walk J m G (YFn g)) {H : Hp} {te : TE} {vs : List Nat} {j : Nat} {σ : L2.St} {D : Addr} {Qd : Hp → Prop} (F : Nat → Hp → V → Prop) (hF : ∀ i H H' v, Same H H' → F i H v → F i H' v)
    (hG : ∀ H', Same H H' → G H') (hl : m ≤ 100000) (hD : H D = none) (hw : ∀ x, wipe ((wipe σ vs).set j (some x)) vs = wipe σ vs)
    (step : ∀ i H2 (C : VK), i < m → Same H H2 → (∃ l, H2 D = some (.lst l)) → (∀ v H4, Same H2 H4 → F i (hide H4 D) v → C v H4) → te ((wipe σ vs).set j (some (g i))) H2 C)
    (fin : ∀ H2 (ys : List V), Same H H2 → ys.length = m → (∀ (i : Nat) (v : V), ys[i]? = some v → F i (hide H2 D) v) → H2 D = some (.lst ys) → Qd H2) :
    ∃ W : Nat → Nat → Hp → Prop, (∃ m, W 0 m (upd H D (.lst []))) ∧ ∀ i m H, W i m H →
      (J.stop i H ∧ Qd H) ∨ (J.go i H ∧ ∃ Nx : Hp → Prop, (∀ H', Nx H' → ∃ m', m' < m ∧ W (i + 1) m' H') ∧ ∀ x H', J.yld i H x H' → gName j x (wipe σ vs) H' fun σ2 H2 => wipe σ2 vs = wipe σ vs ∧ tYes σ2 H2 fun b H3 =>
        if b = true then te σ2 H3 fun y H4 => ∃ acc, H4 D = some (.lst acc) ∧ acc.length < sizeLine ∧ Nx (upd H4 D (.lst (acc ++ [y]))) else Nx H3) := by
  refine lc_it wk (fun i G' => Same H G' ∧ ∃ ys : List V, ys.length = i ∧ (∀ (k : Nat) (v : V), ys[k]? = some v → F k (hide G' D) v) ∧ G' D = some (.lst ys)) ⟨Same.new (Same.refl _) hD, [], rfl, fun k v e => by simp at e, upd_same ..⟩ (fun i G' _ p => hG G' p.1) ?_ ?_
  · rintro i x H2 H3 hi ⟨s1, ys, ly, hy, eD⟩ ⟨rfl, rfl⟩
    refine ⟨hw _, yes (iteT (step i _ _ hi s1 ⟨_, eD⟩ fun v H4 s4 hv => ⟨ys, s4 _ _ eD, ?_, Same.keep' (s1.trans s4) hD, ys ++ [v], by simp [ly], fun k u e => ?_, upd_same ..⟩))⟩
    · rw [ly]
      exact Nat.lt_of_lt_of_le hi (Nat.le_trans hl (by decide))
    · have hid : Same (hide H4 D) (hide (upd H4 D (.lst (ys ++ [v]))) D) := fun a o e => by
        have ha : a ≠ D := fun z => by rw [z, hide_self] at e; cases e
        rw [hide_ne ha] at e ⊢
        rw [upd_ne ha]
        exact e
      rcases Nat.lt_or_ge k i with z | z
      · rw [List.getElem?_append_left (by omega)] at e
        refine hF _ _ _ _ hid (hF _ _ _ _ (fun a o e => ?_) (hy k u e))
        have ha : a ≠ D := fun z => by rw [z, hide_self] at e; cases e
        rw [hide_ne ha] at e ⊢
        exact s4 _ _ e
      · rw [List.getElem?_append_right (by omega)] at e
        have e3 : k = i := by
          rcases Nat.lt_or_ge i k with y | y
          · rw [List.getElem?_eq_none (by simp; omega)] at e
            cases e
          · omega
        rw [e3, ly, Nat.sub_self] at e
        cases e
        rw [e3]
        exact hF _ _ _ _ hid hv
  · rintro G' ⟨s1, ys, ly, hy, eD⟩
    exact fin G' ys s1 ly hy eD
end TS

/-! ### 21. spots in reading order, with their places -/
namespace TS
open PySem
mutual
def Tm.spotsP (sp : List Nat) (o : Nat) : Tm → List (List Nat × Nat)
  | .mk _ ts => (sp, o) :: ts.spotsP sp 0 (o + 1)
def Fs.spotsP (sp : List Nat) (i o : Nat) : Fs → List (List Nat × Nat)
  | .nil => []
  | .cons t r => t.spotsP (sp ++ [i]) o ++ r.spotsP sp (i + 1) (o + t.size)
end
/-- the parts, each with its spot and its place -/
def Fs.ents (sp : List Nat) (i o : Nat) : Fs → List (List Nat × Nat × Tm)
  | .nil => []
  | .cons t r => (sp ++ [i], o, t) :: r.ents sp (i + 1) (o + t.size)
theorem Fs.ents_spots : ∀ (r : Fs) (sp : List Nat) (i o : Nat), (r.ents sp i o).flatMap (fun w => w.2.2.spotsP w.1 w.2.1) = r.spotsP sp i o
  | .nil, _, _, _ => rfl
  | .cons t r, sp, i, o => by
    show t.spotsP (sp ++ [i]) o ++ (r.ents sp (i + 1) (o + t.size)).flatMap _ = _
    rw [Fs.ents_spots r]
    rfl
theorem Fs.ents_len : ∀ (r : Fs) (sp : List Nat) (i o : Nat), (r.ents sp i o).length = r.len
  | .nil, _, _, _ => rfl
  | .cons t r, sp, i, o => by show (r.ents _ _ _).length + 1 = r.len + 1; rw [Fs.ents_len r]
theorem Fs.ents_sum : ∀ (r : Fs) (sp : List Nat) (i o : Nat), ((r.ents sp i o).map fun w => w.2.2.size).sum = r.size
  | .nil, _, _, _ => rfl
  | .cons t r, sp, i, o => by
    show ((t.size : Nat) :: (r.ents sp (i + 1) (o + t.size)).map _).sum = t.size + r.size
    rw [List.sum_cons, Fs.ents_sum r]
theorem Fs.ents_at : ∀ (r : Fs) (sp : List Nat) (i o j : Nat) (u : Tm), r.list[j]? = some u → ∃ p, (r.starts o)[j]? = some p ∧ (r.ents sp i o)[j]? = some (sp ++ [i + j], p, u)
  | .nil, sp, i, o, j, u, h => by simp [Fs.list] at h
  | .cons t r, sp, i, o, 0, u, h => by
    have : t = u := by simpa [Fs.list] using h
    subst this
    exact ⟨o, rfl, rfl⟩
  | .cons t r, sp, i, o, j + 1, u, h => by
    obtain ⟨p, h1, h2⟩ := Fs.ents_at r sp (i + 1) (o + t.size) j u (by simpa [Fs.list] using h)
    refine ⟨p, by show (o :: r.starts (o + t.size))[j + 1]? = _; rw [List.getElem?_cons_succ, h1], ?_⟩
    show ((sp ++ [i], o, t) :: r.ents sp (i + 1) (o + t.size))[j + 1]? = _
    rw [List.getElem?_cons_succ, h2, show i + 1 + j = i + (j + 1) by omega]
mutual
theorem Tm.spotsP_len : ∀ (t : Tm) (sp : List Nat) (o : Nat), (t.spotsP sp o).length = t.size
  | .mk s ts, sp, o => by show (ts.spotsP sp 0 (o + 1)).length + 1 = ts.size + 1; rw [Fs.spotsP_len ts]
theorem Fs.spotsP_len : ∀ (r : Fs) (sp : List Nat) (i o : Nat), (r.spotsP sp i o).length = r.size
  | .nil, _, _, _ => rfl
  | .cons t r, sp, i, o => by show (t.spotsP (sp ++ [i]) o ++ r.spotsP sp (i + 1) (o + t.size)).length = t.size + r.size; rw [List.length_append, Tm.spotsP_len t, Fs.spotsP_len r]
end
/-! how deep -/
mutual
def Tm.deep : Tm → Nat
  | .mk _ ts => ts.deep
def Fs.deep : Fs → Nat
  | .nil => 0
  | .cons t r => max (t.deep + 1) r.deep
end
mutual
def Tm.fan : Tm → Nat
  | .mk _ ts => max ts.len ts.fan
def Fs.fan : Fs → Nat
  | .nil => 0
  | .cons t r => max t.fan r.fan
end
theorem Fs.starts_ge : ∀ (r : Fs) (o j q : Nat), (r.starts o)[j]? = some q → o ≤ q
  | .nil, o, j, q, h => by simp [Fs.starts] at h
  | .cons t r, o, 0, q, h => by
    have : o = q := by simpa [Fs.starts] using h
    omega
  | .cons t r, o, j + 1, q, h => by
    have := Fs.starts_ge r (o + t.size) j q (by simpa [Fs.starts] using h)
    omega
end TS

/-! ### 22. a spot followed from part to part -/
namespace TS
open PySem
def stepT : Nat × Tm → Nat → Option (Nat × Tm)
  | (p, .mk _ ts), i => (ts.list[i]?).bind fun u => ((ts.starts (p + 1))[i]?).map fun q => (q, u)
def fol : Nat × Tm → List Nat → Option (Nat × Tm)
  | x, [] => some x
  | x, i :: r => (stepT x i).bind fun y => fol y r
theorem step_at {t : Tm} {p i : Nat} {u : Tm} {y : Nat × Tm} (h : At t p u) (e : stepT (p, u) i = some y) : At t y.1 y.2 := by
  cases u with
  | mk s ts =>
    cases hl : ts.list[i]? with
    | none => simp [stepT, hl] at e
    | some v =>
      obtain ⟨q, h1, h2⟩ := h.kids hl
      have : y = (q, v) := by simpa [stepT, hl, h1] using e.symm
      rw [this]
      exact h2
theorem step_wf {pl : Str → Option Nat} {p i : Nat} {s : Str} {ts : Fs} {y : Nat × Tm} (e : stepT (p, .mk s ts) i = some y) : i < ts.len := by
  cases hl : ts.list[i]? with
  | none => simp [stepT, hl] at e
  | some v =>
    have := (List.getElem?_eq_some_iff.mp hl).1
    rw [Fs.list_len] at this
    exact this
theorem fol_at {t : Tm} : ∀ (sp : List Nat) (x y : Nat × Tm), At t x.1 x.2 → fol x sp = some y → At t y.1 y.2
  | [], x, y, h, e => by cases e; exact h
  | i :: r, x, y, h, e => by
    cases hs : stepT x i with
    | none => simp [fol, hs] at e
    | some z =>
      have e' : fol z r = some y := by simpa [fol, hs] using e
      exact fol_at r z y (step_at (u := x.2) (p := x.1) h hs) e'
/-- numbers of a spot lie below the places -/
theorem fol_small {t : Tm} {pl : Str → Option Nat} (hp : ∀ s n, pl s = some n → n ≤ 4) (hw : t.wf pl) : ∀ (sp : List Nat) (x y : Nat × Tm), At t x.1 x.2 → fol x sp = some y → ∀ i ∈ sp, i ≤ 3
  | [], _, _, _, _, i, hi => by cases hi
  | j :: r, x, y, h, e, i, hi => by
    cases hs : stepT x j with
    | none => simp [fol, hs] at e
    | some z =>
      have e' : fol z r = some y := by simpa [fol, hs] using e
      rcases List.mem_cons.mp hi with q | m
      · subst q
        obtain ⟨p, u⟩ := x
        cases u with
        | mk s ts =>
          have h1 := step_wf (pl := pl) hs
          have h2 : pl s = some ts.len ∧ ts.wf pl := h.wf hw
          have := hp s _ h2.1
          omega
      · exact fol_small hp hw r z y (step_at (u := x.2) (p := x.1) h hs) e' i m
mutual
theorem Tm.spots_fol : ∀ (u : Tm) (sp0 : List Nat) (p : Nat) (w : List Nat × Nat), w ∈ u.spotsP sp0 p → ∃ sp1 v, w.1 = sp0 ++ sp1 ∧ fol (p, u) sp1 = some (w.2, v)
  | .mk s ts, sp0, p, w, h => by
    rcases List.mem_cons.mp (show w ∈ (sp0, p) :: ts.spotsP sp0 0 (p + 1) from h) with e | m
    · rw [e]
      exact ⟨[], .mk s ts, by simp, rfl⟩
    · obtain ⟨j, u, q, sp1, v, h1, h2, h3, h4⟩ := Fs.spots_fol ts sp0 0 (p + 1) w m
      refine ⟨j :: sp1, v, by rw [h3, Nat.zero_add, List.append_assoc]; rfl, ?_⟩
      show (stepT (p, .mk s ts) j).bind (fun y => fol y sp1) = _
      have : stepT (p, .mk s ts) j = some (q, u) := by simp [stepT, h1, h2]
      rw [this]
      exact h4
theorem Fs.spots_fol : ∀ (r : Fs) (sp0 : List Nat) (i o : Nat) (w : List Nat × Nat), w ∈ r.spotsP sp0 i o → ∃ j u q sp1 v, r.list[j]? = some u ∧ (r.starts o)[j]? = some q ∧ w.1 = (sp0 ++ [i + j]) ++ sp1 ∧ fol (q, u) sp1 = some (w.2, v)
  | .nil, _, _, _, _, h => by cases h
  | .cons t r, sp0, i, o, w, h => by
    rcases List.mem_append.mp (show w ∈ t.spotsP (sp0 ++ [i]) o ++ r.spotsP sp0 (i + 1) (o + t.size) from h) with m | m
    · obtain ⟨sp1, v, h1, h2⟩ := Tm.spots_fol t (sp0 ++ [i]) o w m
      exact ⟨0, t, o, sp1, v, rfl, rfl, by rw [h1, Nat.add_zero], h2⟩
    · obtain ⟨j, u, q, sp1, v, h1, h2, h3, h4⟩ := Fs.spots_fol r sp0 (i + 1) (o + t.size) w m
      refine ⟨j + 1, u, q, sp1, v, by show (t :: r.list)[j + 1]? = _; rw [List.getElem?_cons_succ, h1], by show (o :: r.starts (o + t.size))[j + 1]? = _; rw [List.getElem?_cons_succ, h2], by rw [h3, show i + 1 + j = i + (j + 1) by omega], h4⟩
end
/-! spots alone -/
mutual
def Tm.spotsS : Tm → List (List Nat)
  | .mk _ ts => [] :: ts.spotsS 0
def Fs.spotsS (i : Nat) : Fs → List (List Nat)
  | .nil => []
  | .cons t r => t.spotsS.map (fun sp => i :: sp) ++ r.spotsS (i + 1)
end
mutual
theorem Tm.spots_fst : ∀ (t : Tm) (sp : List Nat) (o : Nat), (t.spotsP sp o).map (·.1) = t.spotsS.map (fun x => sp ++ x)
  | .mk s ts, sp, o => by
    show sp :: (ts.spotsP sp 0 (o + 1)).map (·.1) = (sp ++ []) :: (ts.spotsS 0).map (fun x => sp ++ x)
    rw [Fs.spots_fst ts sp 0 (o + 1), List.append_nil]
theorem Fs.spots_fst : ∀ (r : Fs) (sp : List Nat) (i o : Nat), (r.spotsP sp i o).map (·.1) = (r.spotsS i).map (fun x => sp ++ x)
  | .nil, _, _, _ => rfl
  | .cons t r, sp, i, o => by
    show (t.spotsP (sp ++ [i]) o ++ r.spotsP sp (i + 1) (o + t.size)).map (·.1) = (t.spotsS.map (fun x => i :: x) ++ r.spotsS (i + 1)).map (fun x => sp ++ x)
    rw [List.map_append, List.map_append, Tm.spots_fst t (sp ++ [i]) o, Fs.spots_fst r sp (i + 1) (o + t.size), List.map_map]
    congr 1
    refine List.map_congr_left fun x _ => ?_
    show (sp ++ [i]) ++ x = sp ++ (i :: x)
    rw [List.append_assoc]
    rfl
end
theorem Tm.spots_eq (t : Tm) : (t.spotsP [] 0).map (·.1) = t.spotsS := by
  rw [Tm.spots_fst]
  exact List.map_id t.spotsS
mutual
theorem Tm.spotsS_len : ∀ t : Tm, t.spotsS.length = t.size
  | .mk s ts => by show (ts.spotsS 0).length + 1 = ts.size + 1; rw [Fs.spotsS_len ts 0]
theorem Fs.spotsS_len : ∀ (r : Fs) (i : Nat), (r.spotsS i).length = r.size
  | .nil, _ => rfl
  | .cons t r, i => by show (t.spotsS.map (fun x => i :: x) ++ r.spotsS (i + 1)).length = t.size + r.size; rw [List.length_append, List.length_map, Tm.spotsS_len t, Fs.spotsS_len r]
end
theorem Fs.spotsS_app : ∀ (a b : Fs) (i : Nat), (a.app b).spotsS i = a.spotsS i ++ b.spotsS (i + a.len)
  | .nil, b, i => by show b.spotsS i = [] ++ b.spotsS (i + 0); rw [Nat.add_zero]; rfl
  | .cons t r, b, i => by
    show t.spotsS.map (fun x => i :: x) ++ (r.app b).spotsS (i + 1) = (t.spotsS.map (fun x => i :: x) ++ r.spotsS (i + 1)) ++ b.spotsS (i + (r.len + 1))
    rw [Fs.spotsS_app r b, List.append_assoc, show i + 1 + r.len = i + (r.len + 1) by omega]
mutual
theorem Tm.spotsS_deep : ∀ (t : Tm), ∀ sp ∈ t.spotsS, sp.length ≤ t.deep
  | .mk s ts, sp, h => by
    rcases List.mem_cons.mp (show sp ∈ [] :: ts.spotsS 0 from h) with e | m
    · rw [e]; exact Nat.zero_le _
    · exact Fs.spotsS_deep ts 0 sp m
theorem Fs.spotsS_deep : ∀ (r : Fs) (i : Nat), ∀ sp ∈ r.spotsS i, sp.length ≤ r.deep
  | .nil, _, _, h => by cases h
  | .cons t r, i, sp, h => by
    show sp.length ≤ max (t.deep + 1) r.deep
    rcases List.mem_append.mp (show sp ∈ t.spotsS.map (fun x => i :: x) ++ r.spotsS (i + 1) from h) with m | m
    · obtain ⟨x, hx, rfl⟩ := List.mem_map.mp m
      have := Tm.spotsS_deep t x hx
      show x.length + 1 ≤ _
      omega
    · have := Fs.spotsS_deep r (i + 1) sp m
      omega
end
mutual
theorem Tm.deep_size : ∀ t : Tm, t.deep + 1 ≤ t.size
  | .mk s ts => by
    have := Fs.deep_size ts
    show ts.deep + 1 ≤ ts.size + 1
    omega
theorem Fs.deep_size : ∀ r : Fs, r.deep ≤ r.size
  | .nil => Nat.le_refl _
  | .cons t r => by
    have h1 := Tm.deep_size t
    have h2 := Fs.deep_size r
    show max (t.deep + 1) r.deep ≤ t.size + r.size
    omega
end
theorem Fs.deep_mem : ∀ (r : Fs) (u : Tm), u ∈ r.list → u.deep + 1 ≤ r.deep
  | .nil, _, h => by cases h
  | .cons t r, u, h => by
    show u.deep + 1 ≤ max (t.deep + 1) r.deep
    rcases List.mem_cons.mp (show u ∈ t :: r.list from h) with e | m
    · rw [e]; omega
    · have := Fs.deep_mem r u m
      omega
end TS

/-! ### 23. x == y by an own __eq__, both of one own class -/
namespace TS
open PySem PySem.Spec PyProof.Rows L2
def rEqOwn (C : Addr) (sp : Sp) : R2 := fun x y H Q => ∃ a b dx dy fs gs, x = .ref a ∧ y = .ref b ∧ H a = some (.ins C dx fs) ∧ H b = some (.ins C dy gs) ∧ sp [.ref a, .ref b] H (fun v G => ∃ c, v = .bl c ∧ Q (.bl c) G) E0
theorem op_eqOwn {X : Cx} {k : Nat} {C f : Addr} {ps : List Str} {sp : Sp} (M : Meth X.K C "__eq__" f) (pr : PromA CX0 X.prog X.w X.K X.mg X.base k f ps sp) (hr : Room k X.A) : OpR X (compareOp .Eq) (rEqOwn C sp) := by
  intro pins s σ H x y v u Q J rx ry rd
  obtain ⟨a, b, dx, dy, fs, gs, rfl, rfl, ha, hb, q⟩ := rd
  cases rx
  cases ry
  obtain ⟨fd, F, bn⟩ := pr
  obtain ⟨mA, O, _⟩ := ins_get J.hok ha
  obtain ⟨mB, O2, _⟩ := ins_get J.hok hb
  obtain ⟨od, look, _⟩ := O.look
  obtain ⟨od2, look2, _⟩ := O2.look
  obtain ⟨m, hF⟩ := J.fr
  show wpAny (model X.prog X.w) X.A (richCompare .Eq (.ref a) (.ref b)) (EP X pins σ Q) X.xe s
  refine PySem.W.cmp_K (op := .Eq) (tb := .ref C) hr.units0 hF J.ok.mod.kin look look2.type (by simp [PySem.W.notFirst]) M.at_ M.fn ?_
  have r2 : Vals [V.ref a, V.ref b] [Value.ref a, Value.ref b] := .cons rfl (.cons rfl .nil)
  have bd := bn s [.ref a, .ref b] J.kIn (by rw [List.append_nil]; exact F.len _ _ _ _ q)
  rw [List.append_nil] at bd
  refine wpAny_call (codeAny_mono (F.run X.A X.stack s H ⟨[.ref a, .ref b], []⟩ [.ref a, .ref b] [.ref a, .ref b] _ E0 hr J.env0 bd r2 q) fun o t z => ?_)
  match o, z with
  | .error e, z => exact pass0 pins σ H s e t J z
  | .ok (.ret u), z =>
    obtain ⟨v, G, J2, rv, c, rfl, q2⟩ := J.after z
    cases rv
    exact ⟨.bl c, G, J2, rfl, q2⟩
end TS

set_option maxHeartbeats 2000000
/-! ### 11. try with a clause of two classes; the exception caught may be handed on to a def -/
namespace TS
open PySem PySem.Spec PyProof.Rows L2
abbrev Clause2 := List Value × Option Nat × (Addr → Value → Option Addr → TS)
/-- one class: its own answer; two: either -/
def exmL (K : PySem.W.Frag) (cls : Value) : List Value → Option Bool
  | [c] => PySem.W.exmOne K cls c
  | l => PySem.W.exmAny K cls l
def wClauses2 (K : PySem.W.Frag) (D : Ends) : List Clause2 → WX
  | [] => fun _ _ _ _ => False
  | (cs, some i, ts) :: r => fun cls d σ H => ∃ b, exmL K cls cs = some b ∧ (b = true → ∀ a, H a = none → ts a cls d (Ends.drop D i) (σ.set i (some (.ref a))) H) ∧ (b = false → wClauses2 K D r cls d σ H)
  | (cs, none, ts) :: r => fun cls d σ H => ∃ b, exmL K cls cs = some b ∧ (b = true → ∀ a, H a = none → ts a cls d D σ H) ∧ (b = false → wClauses2 K D r cls d σ H)
/-- in the suite the exception lies outside the base, too -/
abbrev SuiteOk2 (X : Cx) (st : List Stmt) (ts : Addr → Value → Option Addr → TS) : Prop :=
  ∀ (a : Addr) (oe : Obj) (cls : Value) (d : Option Addr) (pn : List (Addr × Obj)), X.base.get? a = none → Zc cls d oe → (∃ vs, oe.data = .fields vs) → PSs (X.suite a ((a, oe) :: pn)) st (ts a cls d)
/-- the test of a clause -/
inductive TestOk (X : Cx) : Expr → List Value → Prop
  | one {x : Str} {c : Value} {np : Pos} (hc : Names X x c) : TestOk X (.Name x np) [c]
  | two {x y : Str} {c e : Value} {np mp tp : Pos} {kk : Nat} (hc : Names X x c) (he : Names X y e) : TestOk X (.Tuple [.Name x np, .Name y mp] kk tp) [c, e]
  | three {x y z : Str} {c e f : Value} {np mp lp tp : Pos} {kk : Nat} (hc : Names X x c) (he : Names X y e) (hf : Names X z f) : TestOk X (.Tuple [.Name x np, .Name y mp, .Name z lp] kk tp) [c, e, f]
inductive ClausesOk2 (X : Cx) : List ExceptHandler → List Clause2 → Prop
  | stop {l : List ExceptHandler} : ClausesOk2 X l []
  | as_ {t : Expr} {n : Str} {i : Nat} {cs : List Value} {ts : Addr → Value → Option Addr → TS} {b₀ : Stmt} {suite : List Stmt} {pp : Pos} {l : List ExceptHandler} {r : List Clause2} (hi : X.N[i]? = some n) (hln : X.env.kindOf n = some .local) (hc : TestOk X t cs)
      (hsu : SuiteOk2 X (b₀ :: suite) ts) (tl : ClausesOk2 X l r) : ClausesOk2 X (.ExceptHandler (some t) (some n) (b₀ :: suite) pp :: l) ((cs, some i, ts) :: r)
  | only {t : Expr} {cs : List Value} {ts : Addr → Value → Option Addr → TS} {b₀ : Stmt} {suite : List Stmt} {pp : Pos} {l : List ExceptHandler} {r : List Clause2} (hc : TestOk X t cs)
      (hsu : SuiteOk2 X (b₀ :: suite) ts) (tl : ClausesOk2 X l r) : ClausesOk2 X (.ExceptHandler (some t) none (b₀ :: suite) pp :: l) ((cs, none, ts) :: r)
theorem flying_push {B : Heap} {l : List Env} {a : Addr} {Z : Obj → Prop} {h h' : Heap} (k : ∀ b o, h.get? b = some o → h'.get? b = some o) (f : HandSPX.FlyingZ B l a Z h) : HandSPX.FlyingZ B l a Z h' := by
  obtain ⟨k1, k2, k3, oe, vs, T, oT, ts, e1, z, d1, t1, bT, nT, e2, d2, q⟩ := f
  exact ⟨fun b o e => k b o (k1 b o e), k2, Heap.FunFrames.of_keeps (fun b o e _ => ⟨o, k b o e, rfl⟩) k3, oe, vs, T, oT, ts, k _ _ e1, z, d1, t1, bT, nT, k _ _ e2, d2, q⟩
section
variable {X : Cx} {body : List Stmt} {h₀ : ExceptHandler} {hs' : List ExceptHandler} {cl : List Clause2} {pos : Pos} {tb : WX → TS}
theorem ps_try2 (stk : X.stack = X.env :: X.outer) (frm : X.env.frame = some X.env.locals) (nod : X.N.Nodup)
    (bod : ∀ (W : WX) (pn : List (Addr × Obj)) (xe : Value → Shared → Prop), Takes (X.tr pn xe) W → PassesOwn (model X.prog X.w) X.A X.env xe → PSs (X.tr pn xe) body (tb W))
    (cls' : ClausesOk2 X (h₀ :: hs') cl) : PS X (.Try body (h₀ :: hs') [] [] pos) (fun D σ H => tb (wClauses2 X.K D cl) D σ H) := by
  refine ⟨fun pins s σ H D J rd => ?_⟩
  have xok := J.ok
  have afr : X.A.frames = some (X.env :: X.outer) := by rw [xok.frames, stk]
  refine wpAny_Try_except ?_
  refine wpAny_mono ((bod (wClauses2 X.K D cl) (X.pn ++ pins) (fun u t1 => wpAny (model X.prog X.w) X.A (noteFrame u X.env) (fun _ t2 => wpAny (model X.prog X.w) X.A (setFlight u none) (fun _ t3 =>
    wpAny (model X.prog X.w) X.A (handleBy u X.env (h₀ :: hs')) (SP X pins D) X.xe t3) X.xe t2) X.xe t1) (fun u t air => ?_) PassesOwn.looking).run [] s σ H D (J.toTry _) rd) (fun fl t1 sp => ?_) (fun u t1 z => z)
  · obtain ⟨a, gr, sA, pins', σ', H', cls, d, rfl, J', ngr, up, sky, na, os, ag, wish⟩ := air
    have J1 : Inv X pins σ' H' sA := J'.ofTry xok
    have sky1 : Sky gr (X.env :: X.outer) a (Zc cls d) X.env.locals t.heap := by rw [← stk]; exact sky
    show wpAny (model X.prog X.w) X.A (noteFrame (.ref a) X.env) _ _ _
    refine Sky.land Zc.steady afr frm sky1 fun h3 fl3 up3 => ?_
    have bna : X.base.get? a = none := by
      cases e : X.base.get? a with
      | none => rfl
      | some o =>
        have g0 := J1.bk a o e
        have nf : a ∉ frs X.stack := fun m => by
          have := (J1.stack.mem m).1
          rw [e] at this; cases this
        have g1 := ngr a o g0 nf
        rw [fl3.2.1] at g1; cases g1
    have go : ∀ {l : List ExceptHandler} {r : List Clause2}, ClausesOk2 X l r → wClauses2 X.K D r cls d σ' H' → ∀ h3 : Heap, HandSPX.FlyingZ gr (X.env :: X.outer) a (Zc cls d) h3 → sA.heap.UpToSlots h3 →
        wpAny (model X.prog X.w) X.A (handleBy (.ref a) X.env l) (SP X pins D) X.xe { t with heap := h3 } := by
      intro l r ck
      induction ck with
      | stop => intro w; exact False.elim w
      | @as_ te n i cs ts b₀ suite pp l r hi hln hc hsu t2 ih =>
        intro w h3 fl3 up3
        obtain ⟨b, eb, yes, no⟩ := w
        have J3 : Inv X pins σ' H' { t with heap := h3 } := J1.landed ngr fl3.1 up3 os ag
        obtain ⟨oe3, vs3, get3, zc3, dat3⟩ := fl3.there
        have offA : a ∉ frs (X.env :: X.outer) := fun m => by
          obtain ⟨_, o', g', nf⟩ := fl3.2.2.1.mem m
          rw [get3] at g'; cases g'
          exact nf _ dat3
        have neL : a ≠ X.env.locals := fun z => offA (List.mem_filterMap.mpr ⟨X.env, List.mem_cons_self, by rw [frm, z]⟩)
        have neF : a ∉ X.fs := fun m => by
          obtain ⟨en, me, q⟩ := List.mem_filterMap.mp m
          exact offA (List.mem_filterMap.mpr ⟨en, List.mem_cons_of_mem _ me, q⟩)
        have S3 := J3.suite get3 dat3 na neL neF
        have ld : ∀ {x : Str} {c : Value} {np : Pos}, Names X x c → ∀ {Q : Value → Shared → Prop} {E : Value → Shared → Prop}, Q c { t with heap := h3 } → wpAny (model X.prog X.w) (X.A.mark (some (.ref a))) (eval (.Name x np) X.env) Q E { t with heap := h3 } := fun {x c np} nm {Q E} q => by
          obtain ⟨g, db, m | ⟨m, v, nn⟩⟩ := nm
          · exact ld_glob (X := X.suite a ((a, oe3) :: (X.pn ++ pins))) S3 g m q db
          · exact ld_blt (X := X.suite a ((a, oe3) :: (X.pn ++ pins))) S3 g m v q nn db
        have LT : PySem.W.Looks (model X.prog X.w) h3 (typeOf (.ref a)) cls := fun A Q E s k q => wpAny_typeOf_ref (k _ _ get3) (by rw [zc3.1]; exact q)
        refine wpAny_handleBy_cons (codeAny_handlers_test ?_) (by intro q; cases q)
        have test : ∀ {Q : Bool → Shared → Prop} {E : Value → Shared → Prop}, (∀ h4 : Heap, HandSPX.FlyingZ gr (X.env :: X.outer) a (Zc cls d) h4 → sA.heap.UpToSlots h4 → Q b { t with heap := h4 }) →
            wpAny (model X.prog X.w) (X.A.mark (some (.ref a))) (eval te X.env) (fun c s1 => wpAny (model X.prog X.w) (X.A.mark (some (.ref a))) (excMatches (.ref a) c) Q E s1) E { t with heap := h3 } := by
          intro Q E q
          cases hc with
          | one hc => exact ld hc ((PySem.W.exm_one (M := model X.prog X.w) J3.kIn LT eb).here (q h3 fl3 up3))
          | @two x y c e np mp tp kk hc he =>
            refine wpAny_Tuple (wpAny_items_cons (ld hc (wpAny_items_cons (ld he (wpAny_items_nil ⟨by show 2 ≤ sizeLine; decide, ?_⟩)))))
            have kp : ∀ q o, h3.get? q = some o → (h3.push { cls := .type "tuple", data := .seq [c, e].toArray }).get? q = some o := fun _ _ z => Heap.get?_push_of_some _ z
            refine (PySem.W.exm_tup2 (M := model X.prog X.w) (J3.kIn.keeps kp) (LT.keeps kp) (Heap.get?_push_size h3 rfl) eb).here (q _ (flying_push kp fl3) (up3.trans fun b o g _ => ⟨o.slots, kp b o g⟩))
          | @three x y z c e f np mp lp tp kk hc he hf =>
            refine wpAny_Tuple (wpAny_items_cons (ld hc (wpAny_items_cons (ld he (wpAny_items_cons (ld hf (wpAny_items_nil ⟨by show 3 ≤ sizeLine; decide, ?_⟩)))))))
            have kp : ∀ q o, h3.get? q = some o → (h3.push { cls := .type "tuple", data := .seq [c, e, f].toArray }).get? q = some o := fun _ _ z => Heap.get?_push_of_some _ z
            refine (PySem.W.exm_tup3 (M := model X.prog X.w) (J3.kIn.keeps kp) (LT.keeps kp) (Heap.get?_push_size h3 rfl) eb).here (q _ (flying_push kp fl3) (up3.trans fun b o g _ => ⟨o.slots, kp b o g⟩))
        refine test fun h5 fl5 up5 => ?_
        cases b with
        | false =>
          show wpAny _ X.A (handleBy (.ref a) X.env l) _ _ _
          exact ih (no rfl) h5 fl5 up5
        | true =>
          refine codeAny_handlers_suite_as ?_
          refine HandSPX.lands_againZ fl5 fun h4 fl4 up4 => ?_
          have J4 : Inv X pins σ' H' { t with heap := h4 } := J1.landed ngr fl4.1 (up5.trans up4) os ag
          obtain ⟨oe4, vs4, get4, zc4, dat4⟩ := fl4.there
          have S4 := J4.suite get4 dat4 na neL neF
          refine store_ok (X := X.suite a ((a, oe4) :: (X.pn ++ pins))) (v := .ref a) S4 nod hi (.inl hln) rfl (fun t5 S5 => ?_) (.inr hln)
          refine wpAny_mono ((hsu a oe4 cls d (X.pn ++ pins) bna zc4 ⟨_, dat4⟩).run [] t5 _ H' _ S5 (yes rfl a na)) (fun fl t6 sp => ?_) (fun _ _ z => False.elim z)
          have un : ∀ {σ6 : L2.St} {H6 : Hp} {Q : Shared → Prop}, Inv (X.suite a ((a, oe4) :: (X.pn ++ pins))) [] σ6 H6 t6 → (∀ t7, Inv X pins (σ6.set i none) H6 t7 → Q t7) →
              wpAny (model X.prog X.w) X.A (do bindName X.env n .none; unbindBehindTheSuite X.env n pp) (fun _ t7 => Q t7) X.xe t6 := fun {σ6 H6 Q} S6 q => gone_ok (S6.unsuite xok) nod hi hln q
          cases fl with
          | next => exact let ⟨_, _, S6, q6⟩ := sp; un S6 fun t7 J7 => ⟨_, _, J7, q6⟩
          | brk => exact let ⟨_, _, S6, q6⟩ := sp; un S6 fun t7 J7 => ⟨_, _, J7, q6⟩
          | cont => exact let ⟨_, _, S6, q6⟩ := sp; un S6 fun t7 J7 => ⟨_, _, J7, q6⟩
          | ret u => exact let ⟨_, _, _, S6, r6, q6⟩ := sp; un S6 fun t7 J7 => ⟨_, _, _, J7, r6, q6⟩
      | @only te cs ts b₀ suite pp l r hc hsu t2 ih =>
        intro w h3 fl3 up3
        obtain ⟨b, eb, yes, no⟩ := w
        have J3 : Inv X pins σ' H' { t with heap := h3 } := J1.landed ngr fl3.1 up3 os ag
        obtain ⟨oe3, vs3, get3, zc3, dat3⟩ := fl3.there
        have offA : a ∉ frs (X.env :: X.outer) := fun m => by
          obtain ⟨_, o', g', nf⟩ := fl3.2.2.1.mem m
          rw [get3] at g'; cases g'
          exact nf _ dat3
        have neL : a ≠ X.env.locals := fun z => offA (List.mem_filterMap.mpr ⟨X.env, List.mem_cons_self, by rw [frm, z]⟩)
        have neF : a ∉ X.fs := fun m => by
          obtain ⟨en, me, q⟩ := List.mem_filterMap.mp m
          exact offA (List.mem_filterMap.mpr ⟨en, List.mem_cons_of_mem _ me, q⟩)
        have S3 := J3.suite get3 dat3 na neL neF
        have ld : ∀ {x : Str} {c : Value} {np : Pos}, Names X x c → ∀ {Q : Value → Shared → Prop} {E : Value → Shared → Prop}, Q c { t with heap := h3 } → wpAny (model X.prog X.w) (X.A.mark (some (.ref a))) (eval (.Name x np) X.env) Q E { t with heap := h3 } := fun {x c np} nm {Q E} q => by
          obtain ⟨g, db, m | ⟨m, v, nn⟩⟩ := nm
          · exact ld_glob (X := X.suite a ((a, oe3) :: (X.pn ++ pins))) S3 g m q db
          · exact ld_blt (X := X.suite a ((a, oe3) :: (X.pn ++ pins))) S3 g m v q nn db
        have LT : PySem.W.Looks (model X.prog X.w) h3 (typeOf (.ref a)) cls := fun A Q E s k q => wpAny_typeOf_ref (k _ _ get3) (by rw [zc3.1]; exact q)
        refine wpAny_handleBy_cons (codeAny_handlers_test ?_) (by intro q; cases q)
        have test : ∀ {Q : Bool → Shared → Prop} {E : Value → Shared → Prop}, (∀ h4 : Heap, HandSPX.FlyingZ gr (X.env :: X.outer) a (Zc cls d) h4 → sA.heap.UpToSlots h4 → Q b { t with heap := h4 }) →
            wpAny (model X.prog X.w) (X.A.mark (some (.ref a))) (eval te X.env) (fun c s1 => wpAny (model X.prog X.w) (X.A.mark (some (.ref a))) (excMatches (.ref a) c) Q E s1) E { t with heap := h3 } := by
          intro Q E q
          cases hc with
          | one hc => exact ld hc ((PySem.W.exm_one (M := model X.prog X.w) J3.kIn LT eb).here (q h3 fl3 up3))
          | @two x y c e np mp tp kk hc he =>
            refine wpAny_Tuple (wpAny_items_cons (ld hc (wpAny_items_cons (ld he (wpAny_items_nil ⟨by show 2 ≤ sizeLine; decide, ?_⟩)))))
            have kp : ∀ q o, h3.get? q = some o → (h3.push { cls := .type "tuple", data := .seq [c, e].toArray }).get? q = some o := fun _ _ z => Heap.get?_push_of_some _ z
            refine (PySem.W.exm_tup2 (M := model X.prog X.w) (J3.kIn.keeps kp) (LT.keeps kp) (Heap.get?_push_size h3 rfl) eb).here (q _ (flying_push kp fl3) (up3.trans fun b o g _ => ⟨o.slots, kp b o g⟩))
          | @three x y z c e f np mp lp tp kk hc he hf =>
            refine wpAny_Tuple (wpAny_items_cons (ld hc (wpAny_items_cons (ld he (wpAny_items_cons (ld hf (wpAny_items_nil ⟨by show 3 ≤ sizeLine; decide, ?_⟩)))))))
            have kp : ∀ q o, h3.get? q = some o → (h3.push { cls := .type "tuple", data := .seq [c, e, f].toArray }).get? q = some o := fun _ _ z => Heap.get?_push_of_some _ z
            refine (PySem.W.exm_tup3 (M := model X.prog X.w) (J3.kIn.keeps kp) (LT.keeps kp) (Heap.get?_push_size h3 rfl) eb).here (q _ (flying_push kp fl3) (up3.trans fun b o g _ => ⟨o.slots, kp b o g⟩))
        refine test fun h5 fl5 up5 => ?_
        cases b with
        | false =>
          show wpAny _ X.A (handleBy (.ref a) X.env l) _ _ _
          exact ih (no rfl) h5 fl5 up5
        | true =>
          refine codeAny_handlers_suite ?_
          refine HandSPX.lands_againZ fl5 fun h4 fl4 up4 => ?_
          have J4 : Inv X pins σ' H' { t with heap := h4 } := J1.landed ngr fl4.1 (up5.trans up4) os ag
          obtain ⟨oe4, vs4, get4, zc4, dat4⟩ := fl4.there
          have S4 := J4.suite get4 dat4 na neL neF
          refine wpAny_mono ((hsu a oe4 cls d (X.pn ++ pins) bna zc4 ⟨_, dat4⟩).run [] _ _ H' _ S4 (yes rfl a na)) (fun fl t6 sp => ?_) (fun _ _ z => False.elim z)
          cases fl with
          | next => exact let ⟨_, _, S6, q6⟩ := sp; ⟨_, _, S6.unsuite xok, q6⟩
          | brk => exact let ⟨_, _, S6, q6⟩ := sp; ⟨_, _, S6.unsuite xok, q6⟩
          | cont => exact let ⟨_, _, S6, q6⟩ := sp; ⟨_, _, S6.unsuite xok, q6⟩
          | ret u => exact let ⟨_, _, _, S6, r6, q6⟩ := sp; ⟨_, _, _, S6.unsuite xok, r6, q6⟩
    exact go cls' wish h3 fl3 (up.trans up3)
  · cases fl with
    | next => exact let ⟨σ', H', J', q⟩ := sp; wpAny_execs_nil ⟨σ', H', J'.ofTry xok, q⟩
    | brk => exact let ⟨σ', H', J', q⟩ := sp; ⟨σ', H', J'.ofTry xok, q⟩
    | cont => exact let ⟨σ', H', J', q⟩ := sp; ⟨σ', H', J'.ofTry xok, q⟩
    | ret u => exact let ⟨v, σ', H', J', r, q⟩ := sp; ⟨v, σ', H', J'.ofTry xok, r, q⟩
end
/-! the exception handed to a def -/
def exE (a : Addr) (oe : Obj) : HO := .ext fun h => h.get? a = some oe
/-- C's instances, asked by isinstance -/
def exI (K : PySem.W.Frag) (C : Addr) : Bool := (PySem.W.clsIn K C).isSome && (PySem.W.findIn K (.ref C) "__getattribute__" == some (some (.builtin "BaseException.__getattribute__")) && (PySem.W.findIn K (.ref C) "__getattr__" == some none && (PySem.W.subIn K (.ref C) (.type "BaseException") == some true &&
  (PySem.W.findIn K (.ref C) "__class__" == some (some (.builtin "object.__class__")) && (PySem.W.specialIn K (.builtin "object.__class__") "__get__" == some (some (.builtin "getset_descriptor.__get__")) && (PySem.W.takesIn K (.builtin "object.__class__") == some true && PySem.W.mroIn K C (.type "object") == some true))))))
/-- isinstance(e, c), e handed on -/
def rIsX (K : PySem.W.Frag) : List V → Hp → VK → Prop := fun xs H Q => ∃ (a D dx : Addr) (oe : Obj) (fs : List (Str × V)) (c : V) (cv : Value) (b : Bool), xs = [.ref a, c] ∧ H a = some (exE a oe) ∧ Zc (.ref D) (some dx) oe ∧ (∃ vs, oe.data = .fields vs) ∧ H dx = some (.xd fs) ∧ exI K D = true ∧ (∀ u, RelV c u → u = cv) ∧ PySem.W.kitOne K (.ref D) cv = some b ∧ Q (.bl b) H
theorem call_isX {X : Cx} {K : PySem.W.Frag} (hK : X.K = K) : CallR X (.builtin "isinstance") (rIsX K) := by
  subst hK
  intro pins s σ H xs us Q I r h
  obtain ⟨a, D, dx, oe, fs, c, cv, b, rfl, he, hz, hf, hdx, hi, hcv, e, q⟩ := h
  cases r with
  | cons rx rr =>
    cases rr with
    | cons rt rr =>
      cases rr
      cases rx
      have ec := hcv _ rt
      subst ec
      obtain ⟨hget, _⟩ := (show ObjOk X.prog X.w H s.heap a (.ext fun h => h.get? a = some oe) from I.hok a _ he)
      obtain ⟨vs, hv⟩ := hf
      obtain ⟨od, hod⟩ : ∃ od, s.heap.get? dx = some od := by
        cases g : s.heap.get? dx with
        | some o => exact ⟨o, rfl⟩
        | none =>
          have := I.hok.gone g
          rw [hdx] at this; cases this
      have J : PySem.W.InstAt s.heap a oe D (some od) := by
        obtain ⟨oc, odi, oda, osl⟩ := oe
        obtain ⟨h1, h2⟩ := hz
        dsimp only at h1 h2 hv
        subst h1 h2 hv
        exact ⟨hget, rfl, rfl, hod⟩
      simp only [exI, Bool.and_eq_true, beq_iff_eq] at hi
      obtain ⟨i1, i2, i3, i4, i5, i6, i7, i8⟩ := hi
      exact PySem.W.kia_one (PySem.W.kitx_exc i1 i2 i3 i4 i5 i6 i7 i8) I.kIn J e (fun z => nomatch z) fun tk => ⟨.bl b, H, I.kept (t' := tk) fun _ _ z => z, rfl, q⟩
/-- f(e), e the exception of the suite: the def sees its object -/
theorem un_back {fs : List Addr} {H H' : Hp} {h h' : Heap} {a : Addr} {oe : Obj} (hn : H a = none) (ha : H' a = some (exE a oe)) (g : h.get? a = some oe) (g' : h'.get? a = some oe) (u : Un fs [] (upd H a (exE a oe)) H' h h') : Un fs [] H (ItX.dropH H' a) h h' where
  keep := fun b o e n hb hx => by
    by_cases z : b = a
    · rw [z] at e ⊢; rw [g] at e; cases e; exact g'
    · exact u.keep b o e (by rw [upd_ne z]; exact n) hb hx
  slot := fun b o e n hb hx => by
    by_cases z : b = a
    · rw [z] at e ⊢; rw [g] at e; cases e; exact ⟨oe.slots, g'⟩
    · exact u.slot b o e (by rw [upd_ne z]; exact n) hb hx
  free := fun b o e n hx => by
    by_cases z : b = a
    · rw [z, ItX.dropH_same]
    · rw [ItX.dropH_ne z]; exact u.free b o e (by rw [upd_ne z]; exact n) hx
  there := fun b o e hx => u.there b o e hx
  tups := fun b xs e => by
    have z : b ≠ a := ne_of_none e hn
    rw [ItX.dropH_ne z]; exact u.tups b xs (by rw [upd_ne z]; exact e)
  frzs := fun b o xs e => by
    have z : b ≠ a := ne_of_none e hn
    rw [ItX.dropH_ne z]; exact u.frzs b o xs (by rw [upd_ne z]; exact e)
  tbls := fun b ps e => by
    have z : b ≠ a := ne_of_none e hn
    rw [ItX.dropH_ne z]; exact u.tbls b ps (by rw [upd_ne z]; exact e)
theorem hok_drop {P : Program} {w : World} {H : Hp} {h : Heap} {a : Addr} {oe : Obj} (ha : H a = some (exE a oe)) (x : HOk P w H h) : HOk P w (ItX.dropH H a) h := fun b u e => by
  have hb : b ≠ a := fun z => by
    rw [z, ItX.dropH_same] at e
    cases e
  rw [ItX.dropH_ne hb] at e
  have other : ∀ c u, H c = some u → (∀ ψ, u ≠ .ext ψ) → ItX.dropH H a c = some u := fun c u e n => by
    have hc : c ≠ a := fun z => by
      rw [z, ha] at e
      exact n _ (Option.some.inj e).symm
    rw [ItX.dropH_ne hc]
    exact e
  exact (x b u e).stay (fun _ _ _ z => z) (fun c z => other c _ z fun _ w => (nomatch w)) fun c xs z => other c _ z fun _ w => (nomatch w)
def tGive (sp : Sp) (a : Addr) (oe : Obj) (t : TA) : TE := fun σ H Q => t σ H fun vs H1 => H1 a = none ∧ sp vs (upd H1 a (exE a oe)) (fun v H' => H' a = some (exE a oe) ∧ Q v (ItX.dropH H' a)) fun _ _ _ => False
section
variable {X : Cx} {k : Nat} {ps : List Str} {sp : Sp} {x : Str} {p pos : Pos} {e : Expr} {es : List Expr} {t : TA} {a : Addr} {oe : Obj}
theorem env_give {pins : List (Addr × Obj)} {σ : L2.St} {H : Hp} {s : Shared} (I : Inv X pins σ H s) (mem : (a, oe) ∈ X.pn) (bna : X.base.get? a = none) : Env0 X.prog X.w X.K X.mg X.base X.A X.stack s (upd H a (exE a oe)) := by
  obtain ⟨g, n, nL, nF, _⟩ := I.pin (a, oe) (List.mem_append_left _ mem)
  have e0 := I.env0
  refine ⟨e0.frames, e0.mod, fun b o q => ⟨(e0.bs b o q).1, ?_⟩, e0.bsz, e0.funs, fun b hb => ?_, ?_, e0.bare⟩
  · rw [upd_ne (fun z => by rw [z, bna] at q; cases q)]
    exact (e0.bs b o q).2
  · have hne : b ≠ a := fun z => by
      rcases List.mem_cons.mp (I.stkSub b hb) with q | q
      · exact nL (z ▸ q)
      · exact nF (z ▸ q)
    rw [upd_ne hne]
    exact e0.frf b hb
  · exact e0.hok.laidN (fun _ _ z => z) n ⟨g, ⟨oe, g⟩, fun h1 h2 q k => k _ q⟩
theorem pe_give (mem : (a, oe) ∈ X.pn) (bna : X.base.get? a = none) (pr : Prom X.prog X.w X.K X.mg X.base k x ps sp) (hr : Room k X.A) (hg : Gl X x) (ha : PA X (e :: es) t) (hdb : (x == ("__debug__" : Str)) = false := by decide)
    (he : starEach (e :: es) X.env = (false, eval e X.env) :: starEach es X.env := by rfl) (hpl : (backTo pos (starEach es X.env)).any (·.1) = false := by rfl) :
    PE X (.Call (.Name x p) (e :: es) [] pos) (tGive sp a oe t) := by
  obtain ⟨f, fd, F, hm, hk, hb⟩ := pr
  refine ⟨fun pins s σ H Q I h => ?_⟩
  refine wpAny_Call_Name_kw (ld_glob I hg hm ?_ hdb)
  refine PySem.W.callWith_K (h₀ := X.base) I.ok.mod.kin hk (thn (ha.run pos pins s σ H _ I h) fun us s1 ⟨vs, H1, I1, r, n1, q⟩ => ⟨I1.kIn, ?_⟩) he hpl
  have hl : us.length = ps.length := by rw [← r.length]; exact F.len _ _ _ _ q
  have b := hb s1 us I1.kIn (by rw [List.append_nil]; exact hl)
  rw [List.append_nil] at b
  obtain ⟨g, n, _, _, _⟩ := I1.pin (a, oe) (List.mem_append_left _ mem)
  refine wpAny_call (codeAny_mono (F.run X.A X.stack s1 _ ⟨us, []⟩ us vs _ _ hr (env_give I1 mem bna) b r q) fun o t z => ?_)
  match o, z with
  | .error e, z => exact False.elim z
  | .ok (.ret u), z =>
    obtain ⟨v, H', os, bare, un, hok, rv, ea, q2⟩ := z
    obtain ⟨g', _⟩ := (show ObjOk X.prog X.w H' t.heap a (.ext fun h => h.get? a = some oe) from hok a _ ea)
    exact I1.after ⟨v, _, os, bare, un_back n ea g g' un, hok_drop ea hok, rv, q2⟩
end
end TS

/-! ### 25. x != y by an own __eq__, both of one own class: object.__ne__ turns the answer about -/
namespace TS
open PySem PySem.Spec PyProof.Rows L2
theorem ne_bind (self : Value) : bindSpecial (.builtin "object.__ne__") self = pure (.builtin "object.__ne__", [self]) :=
  (Slot.of (T := "object") (name := "__ne__") (owner := "object") (n := "__ne__") (by rw [typeLookup_type, builtinLookup_eq_fast]; kernel_rfl) (by decide +kernel) (by decide +kernel) (by decide +kernel)
    (.inl (by decide +kernel)) (by rw [isSubtype_type]; kernel_rfl)).bind self
def neB (K : PySem.W.Frag) (C : Addr) : Bool := PySem.W.findIn K (.ref C) "__ne__" == some (some (.builtin "object.__ne__")) && PySem.W.mroIn K C (.type "object") == some true
structure NeC (K : PySem.W.Frag) (C : Addr) : Prop where
  at_ : PySem.W.findIn K (.ref C) "__ne__" = some (some (.builtin "object.__ne__"))
  top : PySem.W.mroIn K C (.type "object") = some true
theorem neB_ok {K : PySem.W.Frag} {C : Addr} (h : neB K C = true) : NeC K C := by
  obtain ⟨a, b⟩ := He.ba h
  exact ⟨beq_iff_eq.mp a, beq_iff_eq.mp b⟩
section
variable {prog : Program} {w : World} {A : Around} {E : Value → Shared → Prop} {s : Shared} {K : PySem.W.Frag} {x C L f : Addr} {h₀ : Heap} {m : Str → Option Value} {ox : Obj} {od : Option Obj} {b tb : Value}
theorem ne_slotK {Q : Option Value → Shared → Prop} (hu : A.units + 1 < cLine) (X : K.In s.heap) (I : PySem.W.InstAt s.heap x ox C od) (N : NeC K C) (hs : PySem.W.findIn K (.ref C) "__eq__" = some (some (.ref f))) (hf : PySem.W.isFn K (.ref f) = true)
    (h : wpAny (model prog w) A.in1 (call (.ref f) [.ref x, b]) (fun v s' => ∃ c, v = .bool c ∧ Q (some (.bool (!c))) s') E s) : wpAny (model prog w) A (callSpecialIfBound? (.ref x) "__ne__" [b]) Q E s := by
  have body : wpAny (model prog w) A (call (.builtin "object.__ne__") [.ref x, b]) (fun v => Q (some v)) E s := by
    refine wpAny_call (codeAny_call_builtin (by decide +kernel) F.cmpEntry_ne (PySem.W.check_slot F.cmpKind_ne F.cmpSplit_ne (I.type.andThen (PySem.W.looks_subIn X N.top)) (F.cmpArgs_ne _ _) ?_))
    unfold Builtin.«object.__ne__»
    refine wpAny_bind (wpAny_of_eq rfl ?_)
    show wpAny _ _ (cRoomFor "comparison" [.ref x, b] >>= _) _ _ _
    refine wpAny_bind (wpAny_cRoomFor hu ?_)
    refine wpAny_bind (PySem.W.ifBound_K X I hs hf (wpAny_mono h (fun v s' hv => ?_) fun _ _ e => e))
    obtain ⟨c, rfl, q⟩ := hv
    refine wpAny_bind (wpAny_truthy_bool ?_)
    exact wpAny_pure q
  simp only [callSpecialIfBound?, bindSpecialIfBound?]
  refine wpAny_holding (wpAny_bind (wpAny_bind (wpAny_bind (I.type.here ((PySem.W.looks_findIn X N.at_).here ?_)))))
  refine wpAny_bind (wpAny_askSetting (wpAny_ite ?_))
  have fin : wpAny (model prog w) A (call (.builtin "object.__ne__") ([.ref x] ++ [b]) >>= fun v => pure (some v)) Q E s := wpAny_bind (wpAny_mono body (fun v s' h' => wpAny_pure h') fun _ _ h' => h')
  split
  · exact wpAny_bind (wpAny_of_eq (ne_bind _) (wpAny_pure (by exact fin)))
  · exact wpAny_tryCatch (wpAny_bind (wpAny_of_eq (ne_bind _) (wpAny_pure (by exact fin))))
theorem cmp_neK {Q : Value → Shared → Prop} (hu : A.units + 1 < cLine) (F : Fr h₀ L s.heap m) (X₀ : K.In h₀) (I : PySem.W.InstAt s.heap x ox C od) (hb : PySem.W.Looks (model prog w) s.heap (typeOf b) tb) (hn : PySem.W.notFirst K C tb = true)
    (N : NeC K C) (hs : PySem.W.findIn K (.ref C) "__eq__" = some (some (.ref f))) (hf : PySem.W.isFn K (.ref f) = true)
    (h : wpAny (model prog w) A.in1 (call (.ref f) [.ref x, b]) (fun v s' => ∃ c, v = .bool c ∧ Q (.bool (!c)) s') E s) : wpAny (model prog w) A (richCompare .NotEq (.ref x) b) Q E s := by
  have X := X₀.keeps F.keep
  have one : wpAny (model prog w) A (tryCompare (.ref x) (cmpInfo .NotEq).2.1 b) (fun r s' => ∃ v, r = some v ∧ Q v s') E s := by
    unfold tryCompare
    refine wpAny_bind (ne_slotK hu X I N hs hf (wpAny_mono h (fun v s' hv => ?_) fun _ _ e => e))
    obtain ⟨c, rfl, q⟩ := hv
    exact ⟨c, rfl, wpAny_pure ⟨_, rfl, q⟩⟩
  unfold richCompare
  simp only [oneThing_ref]
  refine wpAny_holding (wpAny_bind (wpAny_cRoomFor (Nat.lt_of_succ_lt hu) ?_))
  refine wpAny_bind (I.type.here (wpAny_bind (hb.here ?_)))
  split
  · rename_i q
    have e : PySem.W.subIn K tb (.ref C) = some false := by
      rcases Bool.or_eq_true_iff.mp hn with e | e
      · rw [beq_iff_eq.mp e] at q; simp at q
      · exact beq_iff_eq.mp e
    refine wpAny_bind ((PySem.W.looks_subIn X e).here ?_)
    simp only [Bool.false_eq_true, if_false]
    refine wpAny_bind (wpAny_mono one (fun r s' z => ?_) fun _ _ e => e)
    obtain ⟨v, rfl, hq⟩ := z
    exact wpAny_pure hq
  · refine wpAny_bind (wpAny_pure ?_)
    simp only [Bool.false_eq_true, if_false]
    refine wpAny_bind (wpAny_mono one (fun r s' z => ?_) fun _ _ e => e)
    obtain ⟨v, rfl, hq⟩ := z
    exact wpAny_pure hq
end
def rNeOwn (C : Addr) (sp : Sp) : R2 := fun x y H Q => ∃ a b dx dy fs gs, x = .ref a ∧ y = .ref b ∧ H a = some (.ins C dx fs) ∧ H b = some (.ins C dy gs) ∧ sp [.ref a, .ref b] H (fun v G => ∃ c, v = .bl c ∧ Q (.bl (!c)) G) E0
theorem op_neOwn {X : Cx} {k : Nat} {C f : Addr} {ps : List Str} {sp : Sp} (M : Meth X.K C "__eq__" f) (N : NeC X.K C) (pr : PromA CX0 X.prog X.w X.K X.mg X.base k f ps sp) (hr : Room (k + 1) X.A) : OpR X (compareOp .NotEq) (rNeOwn C sp) := by
  intro pins s σ H x y v u Q J rx ry rd
  obtain ⟨a, b, dx, dy, fs, gs, rfl, rfl, ha, hb, q⟩ := rd
  cases rx
  cases ry
  obtain ⟨fd, F, bn⟩ := pr
  obtain ⟨mA, O, _⟩ := ins_get J.hok ha
  obtain ⟨mB, O2, _⟩ := ins_get J.hok hb
  obtain ⟨od, look, _⟩ := O.look
  obtain ⟨od2, look2, _⟩ := O2.look
  obtain ⟨m, hF⟩ := J.fr
  show wpAny (model X.prog X.w) X.A (richCompare .NotEq (.ref a) (.ref b)) (EP X pins σ Q) X.xe s
  have hu := hr.units
  refine cmp_neK (tb := .ref C) (by omega) hF J.ok.mod.kin look look2.type (by simp [PySem.W.notFirst]) N M.at_ M.fn ?_
  have r2 : Vals [V.ref a, V.ref b] [Value.ref a, Value.ref b] := .cons rfl (.cons rfl .nil)
  have bd := bn s [.ref a, .ref b] J.kIn (by rw [List.append_nil]; exact F.len _ _ _ _ q)
  rw [List.append_nil] at bd
  have e0 : Env0 X.prog X.w X.K X.mg X.base X.A.in1 X.stack s H := J.env0.in1
  refine wpAny_call (codeAny_mono (F.run X.A.in1 X.stack s H ⟨[.ref a, .ref b], []⟩ [.ref a, .ref b] [.ref a, .ref b] _ E0 hr.in1 e0 bd r2 q) fun o t z => ?_)
  match o, z with
  | .error e, z => exact pass0 pins σ H s e t J z
  | .ok (.ret u), z =>
    obtain ⟨v, G, J2, rv, c, rfl, q2⟩ := J.after z
    cases rv
    exact ⟨c, rfl, .bl (!c), G, J2, rfl, q2⟩
end TS

/-! ### 27. x == y, x != y, x in [..] by an own __eq__, where one of both is data or of another own class -/
namespace TS
open PySem PySem.Spec PyProof.Rows L2
/-- an own class stands apart from the kinds of data -/
structure ApK (K : PySem.W.Frag) (C : Addr) : Prop where
  l : ∀ n ∈ kinds, PySem.W.subIn K (.type n) (.ref C) = some false
  r : ∀ n ∈ kinds, PySem.W.subIn K (.ref C) (.type n) = some false
def apKB (K : PySem.W.Frag) (C : Addr) : Bool := kinds.all fun n => decide (PySem.W.subIn K (.type n) (.ref C) = some false) && decide (PySem.W.subIn K (.ref C) (.type n) = some false)
theorem apKB_ok {K : PySem.W.Frag} {C : Addr} (h : apKB K C = true) : ApK K C :=
  ⟨fun n m => of_decide_eq_true (He.ba (List.all_eq_true.mp h n m)).1, fun n m => of_decide_eq_true (He.ba (List.all_eq_true.mp h n m)).2⟩
/-! what the built-in __eq__ of data says to an instance -/
section
variable {prog : Program} {w : World} {A : Around} {E : Value → Shared → Prop} {s : Shared} {K : PySem.W.Frag} {x C dx : Addr} {Q : Value → Shared → Prop}
open SeqAt AutoSeq1 MeetsSeq in
theorem dec_int (b : Int) (u : Tok) (e : s.heap.get? x = some (PySem.W.instObj C dx)) (q : Q .notImplemented s) : wpAny (model prog w) A (call (.builtin "int.__eq__") [.int b u, .ref x]) Q E s := by
  have m : Meets (Builtin.«int.__eq__» ⟨[.int b u, .ref x], []⟩) (fun _ R s => s.heap.get? x = some (PySem.W.instObj C dx) ∧ R (.ok (.ret .notImplemented)) s) :=
    .of_wp fun prog w A R t z => by obtain ⟨h0, g, d, k, os⟩ := t; obtain ⟨hl, z⟩ := z; wp_walk using wpAny_loadPart' hl, wpAny_load hl; exact ⟨_, rfl, z⟩
  exact call_meets F.slot_int_eq rfl F.entry_int_eq (F.args_int_eq_2 _ _) m ⟨e, q⟩
open SeqAt AutoSeq1 MeetsSeq in
theorem dec_bool (b : Bool) (e : s.heap.get? x = some (PySem.W.instObj C dx)) (q : Q .notImplemented s) : wpAny (model prog w) A (call (.builtin "int.__eq__") [.bool b, .ref x]) Q E s := by
  have m : Meets (Builtin.«int.__eq__» ⟨[.bool b, .ref x], []⟩) (fun _ R s => s.heap.get? x = some (PySem.W.instObj C dx) ∧ R (.ok (.ret .notImplemented)) s) :=
    .of_wp fun prog w A R t z => by obtain ⟨h0, g, d, k, os⟩ := t; obtain ⟨hl, z⟩ := z; wp_walk using wpAny_loadPart' hl, wpAny_load hl; exact ⟨_, rfl, z⟩
  exact call_meets F.slot_bool_eq rfl F.entry_int_eq (F.args_int_eq_2 _ _) m ⟨e, q⟩
open SeqAt AutoSeq1 MeetsSeq in
theorem dec_str (b : Str) (u : Tok) (e : s.heap.get? x = some (PySem.W.instObj C dx)) (q : Q .notImplemented s) : wpAny (model prog w) A (call (.builtin "str.__eq__") [.str b u, .ref x]) Q E s := by
  have m : Meets (Builtin.«str.__eq__» ⟨[.str b u, .ref x], []⟩) (fun _ R s => s.heap.get? x = some (PySem.W.instObj C dx) ∧ R (.ok (.ret .notImplemented)) s) :=
    .of_wp fun prog w A R t z => by obtain ⟨h0, g, d, k, os⟩ := t; obtain ⟨hl, z⟩ := z; wp_walk using wpAny_loadPart' hl, wpAny_load hl; exact ⟨_, rfl, z⟩
  exact call_meets F.slot_str_eq rfl F.entry_str_eq (F.args_str_eq_2 _ _) m ⟨e, q⟩

open SeqAt in
theorem dec_non (x : Addr) (q : Q .notImplemented s) : wpAny (model prog w) A (call (.builtin "NoneType.__eq__") [.none, .ref x]) Q E s :=
  call_gives F.slot_NoneType_eq rfl F.entry_NoneType_eq (F.args_NoneType_eq_2 _ _) (NoneType___eq___none_ref_0 x) q
theorem dec_list {l : Addr} (hT : s.TypeIs (.ref l) "list") (sub : PySem.W.Looks (model prog w) s.heap (isInstance (.ref x) (.type "list")) false) (q : Q .notImplemented s) : wpAny (model prog w) A (call (.builtin "list.__eq__") [.ref l, .ref x]) Q E s := by
  refine call_meetsIn (S := fun _ R t => t = s ∧ R (.ok (.ret .notImplemented)) t) F.slot_list_eq hT F.entry_list_eq (F.args_list_eq_2 _ _) (fun A R t z => ?_) ⟨rfl, q⟩
  obtain ⟨rfl, z⟩ := z
  refine wpAny_bind (wpAny_of_eq rfl ?_)
  refine wpAny_bind (sub.here ?_)
  exact wpAny_pure z
theorem dec_tuple {l : Addr} (hT : s.TypeIs (.ref l) "tuple") (sub : PySem.W.Looks (model prog w) s.heap (isInstance (.ref x) (.type "tuple")) false) (q : Q .notImplemented s) : wpAny (model prog w) A (call (.builtin "tuple.__eq__") [.ref l, .ref x]) Q E s := by
  refine call_meetsIn (S := fun _ R t => t = s ∧ R (.ok (.ret .notImplemented)) t) F.slot_tuple_eq hT F.entry_tuple_eq (F.args_tuple_eq_2 _ _) (fun A R t z => ?_) ⟨rfl, q⟩
  obtain ⟨rfl, z⟩ := z
  refine wpAny_bind (wpAny_of_eq rfl ?_)
  refine wpAny_bind (sub.here ?_)
  exact wpAny_pure z
theorem dec_dict {l : Addr} (hT : s.TypeIs (.ref l) "dict") (sub : PySem.W.Looks (model prog w) s.heap (isInstance (.ref x) (.type "dict")) false) (q : Q .notImplemented s) : wpAny (model prog w) A (call (.builtin "dict.__eq__") [.ref l, .ref x]) Q E s := by
  refine call_meetsIn (S := fun _ R t => t = s ∧ R (.ok (.ret .notImplemented)) t) F.slot_dict_eq hT F.entry_dict_eq (F.args_dict_eq_2 _ _) (fun A R t z => ?_) ⟨rfl, q⟩
  obtain ⟨rfl, z⟩ := z
  refine wpAny_bind (wpAny_of_eq rfl ?_)
  refine wpAny_bind (sub.here ?_)
  exact wpAny_bind (wpAny_rule (wpAny_pure z))
end

section
variable {X : Cx} {pins : List (Addr × Obj)} {σ : L2.St} {H : Hp} {s : Shared} {v : V} {d : PyData} {u : Value}
theorem Dt.typ (J : Inv X pins σ H s) (h : Dt X.K H v d) (r : RelV v u) : s.TypeIs u (tyN d) := by
  cases h with
  | non => cases r; rfl
  | bl b => cases r; rfl
  | int i => obtain ⟨t, rfl⟩ := r; rfl
  | str z => obtain ⟨t, rfl⟩ := r; rfl
  | lst a b =>
    cases r
    obtain ⟨its, rv, ⟨o, n, ho, hc, _⟩, _⟩ := J.list a
    exact ⟨o, ho, hc⟩
  | tup a b =>
    cases r
    obtain ⟨its, rv, ⟨o, ho, hc, _⟩, _⟩ := J.tuple a
    exact ⟨o, ho, hc⟩
  | @dct a ks xs ds h l ha =>
    cases r
    obtain ⟨hz, hS, vs, rk, o, es, ep, ho, hx, _⟩ := (show ObjOk X.prog X.w H s.heap a (.dK (ks.zip xs)) from J.hok a _ h)
    exact ⟨o, ho, hx.1⟩
theorem Dt.looks (J : Inv X pins σ H s) (h : Dt X.K H v d) (r : RelV v u) : PySem.W.Looks (model X.prog X.w) s.heap (typeOf u) (.type (tyN d)) := by
  cases h with
  | non => cases r; exact .now
  | bl b => cases r; exact .now
  | int i => obtain ⟨t, rfl⟩ := r; exact .now
  | str z => obtain ⟨t, rfl⟩ := r; exact .now
  | lst a b =>
    cases r
    obtain ⟨its, rv, ⟨o, n, ho, hc, _⟩, _⟩ := J.list a
    exact fun A Q E s k q => wpAny_typeOf_ref (k _ _ ho) (by rw [hc]; exact q)
  | tup a b =>
    cases r
    obtain ⟨its, rv, ⟨o, ho, hc, _⟩, _⟩ := J.tuple a
    exact fun A Q E s k q => wpAny_typeOf_ref (k _ _ ho) (by rw [hc]; exact q)
  | @dct a ks xs ds h l ha =>
    cases r
    obtain ⟨hz, hS, vs, rk, o, es, ep, ho, hx, _⟩ := (show ObjOk X.prog X.w H s.heap a (.dK (ks.zip xs)) from J.hok a _ h)
    exact fun A Q E s k q => wpAny_typeOf_ref (k _ _ ho) (by rw [hx.1]; exact q)
theorem Dt.declines (J : Inv X pins σ H s) (h : Dt X.K H v d) (r : RelV v u) {x C dx : Addr} {fs : List (Str × V)} (e : H x = some (.ins C dx fs)) (ap : ApK X.K C) :
    ∃ id, Slot (tyN d) (cmpInfo .Eq).2.1 id ∧ ∀ (A : Around) (E : Value → Shared → Prop) (Q : Value → Shared → Prop), Q .notImplemented s → wpAny (model X.prog X.w) A (call (.builtin id) [u, .ref x]) Q E s := by
  have ty := Dt.typ J h r
  obtain ⟨mA, O, _⟩ := ins_get J.hok e
  obtain ⟨od, look, _⟩ := O.look
  have no : ∀ n ∈ kinds, PySem.W.Looks (model X.prog X.w) s.heap (isInstance (.ref x) (.type n)) false := fun n m => look.type.andThen (PySem.W.looks_subIn J.kIn (ap.r n m))
  have ob : s.heap.get? x = some (PySem.W.instObj C dx) := (show ObjOk X.prog X.w H s.heap x (.ins C dx fs) from J.hok x _ e).2.2.2.1
  cases h with
  | non => cases r; exact ⟨_, F.slot_NoneType_eq, fun A E Q q => dec_non x q⟩
  | bl b => cases r; exact ⟨_, F.slot_bool_eq, fun A E Q q => dec_bool b ob q⟩
  | int i => obtain ⟨t, rfl⟩ := r; exact ⟨_, F.slot_int_eq, fun A E Q q => dec_int i t ob q⟩
  | str z => obtain ⟨t, rfl⟩ := r; exact ⟨_, F.slot_str_eq, fun A E Q q => dec_str z t ob q⟩
  | lst a b => cases r; exact ⟨_, F.slot_list_eq, fun A E Q q => dec_list ty (no "list" (by decide)) q⟩
  | tup a b => cases r; exact ⟨_, F.slot_tuple_eq, fun A E Q q => dec_tuple ty (no "tuple" (by decide)) q⟩
  | dct a b c => cases r; exact ⟨_, F.slot_dict_eq, fun A E Q q => dec_dict ty (no "dict" (by decide)) q⟩
end
section
variable {prog : Program} {w : World} {A : Around} {E : Value → Shared → Prop} {s : Shared} {K : PySem.W.Frag} {x C L f : Addr} {h₀ : Heap} {m : Str → Option Value} {ox : Obj} {od : Option Obj} {a : Value}
/-- data == x: the built-in one declines, the own one is asked -/
theorem cmp_right {n id : String} {Q : Value → Shared → Prop} (hu : A.units < cLine) (Fm : Fr h₀ L s.heap m) (X₀ : K.In h₀) (I : PySem.W.InstAt s.heap x ox C od) (ha : s.TypeIs a n) (sl : Slot n (cmpInfo .Eq).2.1 id) (hr : PySem.W.subIn K (.ref C) (.type n) = some false)
    (dec : ∀ Q' : Value → Shared → Prop, Q' .notImplemented s → wpAny (model prog w) A (call (.builtin id) [a, .ref x]) Q' E s) (hs : PySem.W.findIn K (.ref C) "__eq__" = some (some (.ref f))) (hf : PySem.W.isFn K (.ref f) = true)
    (h : wpAny (model prog w) A (call (.ref f) [.ref x, a]) (PySem.W.CmpBack Q) E s) : wpAny (model prog w) A (richCompare .Eq a (.ref x)) Q E s := by
  have X := X₀.keeps Fm.keep
  have two : wpAny (model prog w) A (tryCompare (.ref x) (cmpInfo .Eq).2.2 a) (fun r s' => ∃ v, r = some v ∧ Q v s') E s := by
    unfold tryCompare
    refine wpAny_bind (PySem.W.ifBound_K X I hs hf (wpAny_mono h (fun v s' hv => ?_) fun _ _ e => e))
    cases v <;> first | exact hv.elim | exact wpAny_pure ⟨_, rfl, hv⟩
  rcases hi : cmpInfo CmpOp.Eq with ⟨sym, f1, r1⟩
  rw [hi] at sl two
  simp only [richCompare, hi, ha.oneThing_none]
  refine wpAny_holding (wpAny_bind (wpAny_cRoomFor hu ?_))
  refine wpAny_bind (wpAny_typeOf ha (wpAny_bind (I.type.here ?_)))
  have ne : (Value.type n != Value.ref C) = true := by simp
  simp only [ne, if_true]
  refine wpAny_bind ((PySem.W.looks_subIn X hr).here ?_)
  simp only [Bool.false_eq_true, if_false, Bool.not_false, if_true]
  refine wpAny_bind (m := tryCompare a _ _) (wpAny_tryCompare_declines ha sl (dec _ ⟨rfl, ?_⟩))
  refine wpAny_bind (m := tryCompare (.ref x) _ _) (wpAny_mono two (fun r s' z => ?_) fun _ _ e => e)
  obtain ⟨v, rfl, hq⟩ := z
  exact wpAny_pure hq
end
/-- y beside an instance of C: data, or an instance that C's own look is asked of first -/
def Beside (K : PySem.W.Frag) (C : Addr) (H : Hp) (y : V) : Prop := (∃ d, Dt K H y d) ∨ ∃ b C2 dy gs, y = .ref b ∧ H b = some (.ins C2 dy gs) ∧ (C2 = C ∨ PySem.W.subIn K (.ref C2) (.ref C) = some false)
/-- a place where the defs may be called -/
structure Plc (X : Cx) (k : Nat) (A : Around) : Prop where
  room : Room k A
  env : ∀ {pins : List (Addr × Obj)} {σ : L2.St} {H : Hp} {s : Shared}, Inv X pins σ H s → Env0 X.prog X.w X.K X.mg X.base A X.stack s H
theorem Plc.own {X : Cx} {k : Nat} (h : Room k X.A) : Plc X k X.A := ⟨h, fun J => J.env0⟩
theorem Plc.in1 {X : Cx} {k : Nat} {A : Around} (h : Plc X (k + 1) A) : Plc X k A.in1 := ⟨h.room.in1, fun J => (h.env J).in1⟩
/-- what a rule of == says at a place -/
def EqP (X : Cx) (A : Around) (r : R2) : Prop := ∀ (pins : List (Addr × Obj)) (s : Shared) (σ : L2.St) (H : Hp) (x y : V) (v u : Value) (Q : VK), Inv X pins σ H s → RelV x v → RelV y u → r x y H Q → wpAny (model X.prog X.w) A (richCompare .Eq v u) (EP X pins σ Q) X.xe s
theorem EqP.or {X : Cx} {A : Around} {r r' : R2} (a : EqP X A r) (b : EqP X A r') : EqP X A (fun x y H Q => r x y H Q ∨ r' x y H Q) := fun pins s σ H x y v u Q J rx ry h => h.elim (a pins s σ H x y v u Q J rx ry) (b pins s σ H x y v u Q J rx ry)
theorem EqP.op {X : Cx} {r : R2} (h : EqP X X.A r) : OpR X (compareOp .Eq) r := fun {pins s σ H x y v u Q} J rx ry rd => h pins s σ H x y v u Q J rx ry rd
def rEqL (K : PySem.W.Frag) (C : Addr) (sp : Sp) : R2 := fun x y H Q => ∃ a dx fs, x = .ref a ∧ H a = some (.ins C dx fs) ∧ Beside K C H y ∧ sp [.ref a, y] H (fun v G => ∃ c, v = .bl c ∧ Q (.bl c) G) E0
def rEqR (K : PySem.W.Frag) (C : Addr) (sp : Sp) : R2 := fun x y H Q => ∃ d a dx fs, Dt K H x d ∧ y = .ref a ∧ H a = some (.ins C dx fs) ∧ sp [.ref a, x] H (fun v G => ∃ c, v = .bl c ∧ Q (.bl c) G) E0
def rNeL (K : PySem.W.Frag) (C : Addr) (sp : Sp) : R2 := fun x y H Q => ∃ a dx fs, x = .ref a ∧ H a = some (.ins C dx fs) ∧ Beside K C H y ∧ sp [.ref a, y] H (fun v G => ∃ c, v = .bl c ∧ Q (.bl (!c)) G) E0
section
variable {X : Cx} {A : Around} {k : Nat} {C f : Addr} {ps : List Str} {sp : Sp}
theorem Beside.looks {pins : List (Addr × Obj)} {σ : L2.St} {H : Hp} {s : Shared} {y : V} {u : Value} (ap : ApK X.K C) (J : Inv X pins σ H s) (h : Beside X.K C H y) (r : RelV y u) : ∃ tb, PySem.W.Looks (model X.prog X.w) s.heap (typeOf u) tb ∧ PySem.W.notFirst X.K C tb = true := by
  rcases h with ⟨d, h⟩ | ⟨b, C2, dy, gs, rfl, e, h⟩
  · exact ⟨_, Dt.looks J h r, by unfold PySem.W.notFirst; rw [ap.l _ (tyN_mem d)]; simp⟩
  · cases r
    obtain ⟨mA, O, _⟩ := ins_get J.hok e
    obtain ⟨od, look, _⟩ := O.look
    refine ⟨_, look.type, ?_⟩
    unfold PySem.W.notFirst
    rcases h with rfl | h
    · simp
    · rw [h]; simp
theorem call_own2 {pins : List (Addr × Obj)} {σ : L2.St} {H : Hp} {s : Shared} {a : Addr} {y : V} {u : Value} {R : VK} (p : Plc X k A) (pr : PromA CX0 X.prog X.w X.K X.mg X.base k f ps sp) (J : Inv X pins σ H s) (ry : RelV y u) (q : sp [.ref a, y] H R E0) :
    wpAny (model X.prog X.w) A (call (.ref f) [.ref a, u]) (EP X pins σ R) X.xe s := by
  obtain ⟨fd, Fn, bn⟩ := pr
  have r2 : Vals [V.ref a, y] [Value.ref a, u] := .cons rfl (.cons ry .nil)
  have bd := bn s [.ref a, u] J.kIn (by rw [List.append_nil]; exact r2.length.symm.trans (Fn.len _ _ _ _ q))
  rw [List.append_nil] at bd
  refine wpAny_call (codeAny_mono (Fn.run A X.stack s H ⟨[.ref a, u], []⟩ [.ref a, u] [.ref a, y] _ E0 p.room (p.env J) bd r2 q) fun o t z => ?_)
  match o, z with
  | .error e, z => exact pass0 pins σ H s e t J z
  | .ok (.ret u), z => exact J.after z
theorem eq_left (M : Meth X.K C "__eq__" f) (ap : ApK X.K C) (pr : PromA CX0 X.prog X.w X.K X.mg X.base k f ps sp) (p : Plc X k A) : EqP X A (rEqL X.K C sp) := by
  intro pins s σ H x y v u Q J rx ry rd
  obtain ⟨a, dx, fs, rfl, ha, bs, q⟩ := rd
  cases rx
  obtain ⟨mA, O, _⟩ := ins_get J.hok ha
  obtain ⟨od, look, _⟩ := O.look
  obtain ⟨m, hF⟩ := J.fr
  obtain ⟨tb, lk, nf⟩ := bs.looks ap J ry
  refine PySem.W.cmp_K (op := .Eq) (tb := tb) p.room.units0 hF J.ok.mod.kin look lk nf M.at_ M.fn (wpAny_mono (call_own2 p pr J ry q) (fun v s' z => ?_) fun _ _ z => z)
  obtain ⟨y1, G, J2, rv, c, rfl, q2⟩ := z
  cases rv
  exact ⟨.bl c, G, J2, rfl, q2⟩
theorem eq_right (M : Meth X.K C "__eq__" f) (ap : ApK X.K C) (pr : PromA CX0 X.prog X.w X.K X.mg X.base k f ps sp) (p : Plc X k A) : EqP X A (rEqR X.K C sp) := by
  intro pins s σ H x y v u Q J rx ry rd
  obtain ⟨d, a, dx, fs, hd, rfl, ha, q⟩ := rd
  cases ry
  obtain ⟨mA, O, _⟩ := ins_get J.hok ha
  obtain ⟨od, look, _⟩ := O.look
  obtain ⟨m, hF⟩ := J.fr
  obtain ⟨id, sl, dec⟩ := Dt.declines J hd rx ha ap
  refine cmp_right p.room.units0 hF J.ok.mod.kin look (Dt.typ J hd rx) sl (ap.r _ (tyN_mem d)) (fun Q' q' => dec A _ Q' q') M.at_ M.fn (wpAny_mono (call_own2 p pr J rx q) (fun v s' z => ?_) fun _ _ z => z)
  obtain ⟨y1, G, J2, rv, c, rfl, q2⟩ := z
  cases rv
  exact ⟨.bl c, G, J2, rfl, q2⟩
theorem op_neL (M : Meth X.K C "__eq__" f) (N : NeC X.K C) (ap : ApK X.K C) (pr : PromA CX0 X.prog X.w X.K X.mg X.base k f ps sp) (hr : Room (k + 1) X.A) : OpR X (compareOp .NotEq) (rNeL X.K C sp) := by
  intro pins s σ H x y v u Q J rx ry rd
  obtain ⟨a, dx, fs, rfl, ha, bs, q⟩ := rd
  cases rx
  obtain ⟨mA, O, _⟩ := ins_get J.hok ha
  obtain ⟨od, look, _⟩ := O.look
  obtain ⟨m, hF⟩ := J.fr
  obtain ⟨tb, lk, nf⟩ := bs.looks ap J ry
  have hu := hr.units
  show wpAny (model X.prog X.w) X.A (richCompare .NotEq (.ref a) u) (EP X pins σ Q) X.xe s
  refine cmp_neK (tb := tb) (by omega) hF J.ok.mod.kin look lk nf N M.at_ M.fn (wpAny_mono (call_own2 (Plc.own hr).in1 pr J ry q) (fun v s' z => ?_) fun _ _ z => z)
  obtain ⟨y1, G, J2, rv, c, rfl, q2⟩ := z
  cases rv
  exact ⟨c, rfl, .bl (!c), G, J2, rfl, q2⟩
end
end TS

/-! ### 28. str(x), repr(x) by an own __str__, __repr__ -/
namespace TS
open PySem PySem.Spec PyProof.Rows L2
def rTxtOwn (C : Addr) (sp : Sp) : List V → Hp → VK → Prop := fun xs H Q => ∃ a dx fs, xs = [.ref a] ∧ H a = some (.ins C dx fs) ∧ sp [.ref a] H (fun v G => ∃ z, v = .str z ∧ Q (.str z) G) E0
section
variable {X : Cx} {A : Around} {k : Nat} {C f : Addr} {ps : List Str} {sp : Sp}
theorem call_own1 {pins : List (Addr × Obj)} {σ : L2.St} {H : Hp} {s : Shared} {a : Addr} {R : VK} (p : Plc X k A) (pr : PromA CX0 X.prog X.w X.K X.mg X.base k f ps sp) (J : Inv X pins σ H s) (q : sp [.ref a] H R E0) :
    wpAny (model X.prog X.w) A (call (.ref f) [.ref a]) (EP X pins σ R) X.xe s := by
  obtain ⟨fd, Fn, bn⟩ := pr
  have r2 : Vals [V.ref a] [Value.ref a] := .cons rfl .nil
  have bd := bn s [.ref a] J.kIn (by rw [List.append_nil]; exact r2.length.symm.trans (Fn.len _ _ _ _ q))
  rw [List.append_nil] at bd
  refine wpAny_call (codeAny_mono (Fn.run A X.stack s H ⟨[.ref a], []⟩ [.ref a] [.ref a] _ E0 p.room (p.env J) bd r2 q) fun o t z => ?_)
  match o, z with
  | .error e, z => exact pass0 pins σ H s e t J z
  | .ok (.ret u), z => exact J.after z
theorem str_own (M : Meth X.K C "__str__" f) (pr : PromA CX0 X.prog X.w X.K X.mg X.base k f ps sp) (hr : Room (k + 2) X.A) : CallR X (.type "str") (rTxtOwn C sp) := by
  intro pins s σ H xs us Q J r rd
  obtain ⟨a, dx, fs, rfl, ea, q⟩ := rd
  obtain ⟨u, rfl, ra⟩ := vals1 r
  cases ra
  obtain ⟨mA, O, _⟩ := ins_get J.hok ea
  obtain ⟨od, look, _⟩ := O.look
  have p2 : Plc X k X.A.in1.in1 := (Plc.own hr).in1.in1
  refine PySem.W.kso_call p2.room.units0 J.kIn look M.at_ M.fn (wpAny_mono (call_own1 p2 pr J q) (fun v s' z => ?_) fun _ _ z => z)
  obtain ⟨y1, G, J2, rv, z, rfl, q2⟩ := z
  obtain ⟨t, rfl⟩ := rv
  exact ⟨.str z, G, J2, ⟨t, rfl⟩, q2⟩
theorem repr_own (M : Meth X.K C "__repr__" f) (pr : PromA CX0 X.prog X.w X.K X.mg X.base k f ps sp) (hr : Room (k + 1) X.A) : CallR X (.builtin "repr") (rTxtOwn C sp) := by
  intro pins s σ H xs us Q J r rd
  obtain ⟨a, dx, fs, rfl, ea, q⟩ := rd
  obtain ⟨u, rfl, ra⟩ := vals1 r
  cases ra
  obtain ⟨mA, O, _⟩ := ins_get J.hok ea
  obtain ⟨od, look, _⟩ := O.look
  obtain ⟨m, hF⟩ := J.fr
  have p1 : Plc X k X.A.in1 := (Plc.own hr).in1
  refine PySem.W.repr_K p1.room.units0 hF J.ok.mod.kin look M.at_ M.fn (wpAny_mono (call_own1 p1 pr J q) (fun v s' z => ?_) fun _ _ z => z)
  obtain ⟨y1, G, J2, rv, z, rfl, q2⟩ := z
  obtain ⟨t, rfl⟩ := rv
  exact ⟨.str z, G, J2, ⟨t, rfl⟩, q2⟩
end
end TS

/-! ### 29. x in [..] by an own __eq__ -/
namespace TS
open PySem PySem.Spec PyProof.Rows L2
theorem eqBool_of {M : Model} {A : Around} {E : Value → Shared → Prop} {s : Shared} {a b : Value} {Q : Bool → Shared → Prop} (hne : a ≠ b) (nf : ∀ f t, a ≠ .float f t) (h : wpAny M A (richCompare .Eq a b) (fun v s' => ∃ c, v = .bool c ∧ Q c s') E s) :
    wpAny M A (eqBool a b) Q E s := by
  unfold eqBool
  refine wpAny_holding ?_
  refine wpAny_ite_split (fun hab => absurd (eq_of_beq hab) hne) (fun _ => ?_)
  have fin : wpAny M A (richCompare .Eq a b >>= truthOfDropped) Q E s := wpAny_bind (wpAny_mono h (fun v s' z => by obtain ⟨c, rfl, q⟩ := z; exact wpAny_truthy_bool q) fun _ _ z => z)
  cases a with
  | float f t => exact absurd rfl (nf f t)
  | _ => exact fin
section
variable {prog : Program} {w : World} {A : Around} {R : Result → Shared → Prop} {l : Addr} {x : Value} {N : Nat} {I : Nat → Shared → Prop}
open SeqAt AutoSeq1 MeetsSeq in
theorem contains_goes (turn : ∀ i t, I i t → ∃ (items : Array Value) (n : Nat) (dd : Option Addr) (sl : Array (Option Value)), t.heap.get? l = some { cls := .type "list", dict := dd, data := .seq items n, slots := sl } ∧ items.size = N ∧
      ∀ h : i < items.size, wpAny (model prog w) A.in1 (eqBool items[i] x) (fun b s' => if b = true then R (.ok (.ret (.bool true))) s' else I (i + 1) s') (fun e s' => R (.error e) s') t)
    (fin : ∀ t, I N t → R (.ok (.ret (.bool false))) t) (k : Nat) : ∀ i : Nat, N - i = k → i ≤ N → ∀ t, I i t →
      wpAny (model prog w) A.in1 (Builtin.«list.__contains__.loop» ⟨[.ref l, x, rawInt i], []⟩) (fun fin s' => match fin with | .done f => R (.ok f) s' | .again c' => c'.quiet = true ∧ codeAny (model prog w) A c' R s') (fun e s' => R (.error e) s') t := by
  induction k with
  | zero =>
    intro i hk hiN t hI
    obtain rfl : i = N := by omega
    have done := fin t hI
    obtain ⟨items, n, dd, sl, hl, hsz, _⟩ := turn i t hI
    obtain ⟨h0, g, d, tk, os⟩ := t
    wp_walk using wpAny_loadPart' hl
    have hi : items[((i : Nat) : Int).toNat]? = none := by simp; omega
    rw [hi]
    wp_walk
    exact done
  | succ k ih =>
    intro i hk hiN t hI
    obtain ⟨items, n, dd, sl, hl, hsz, step⟩ := turn i t hI
    obtain ⟨h0, g, d, tk, os⟩ := t
    wp_walk using wpAny_loadPart' hl
    have hlt : i < items.size := by omega
    have hi : items[((i : Nat) : Int).toNat]? = some items[i] := by simp [hlt]
    rw [hi]
    refine wpAny_bind (wpAny_mono (step hlt) (fun b s' z => ?_) fun _ _ z => z)
    cases b with
    | true =>
      obtain ⟨h1, g1, d1, t1, o1⟩ := s'
      wp_walk
      exact z
    | false =>
      have hc : ((i : Int) + 1) = ((i + 1 : Nat) : Int) := by push_cast; rfl
      obtain ⟨h1, g1, d1, t1, o1⟩ := s'
      wp_walk
      rw [hc]
      refine ⟨plainId_quiet plain_contains_loop _, codeAny_builtin entry_contains_loop ?_⟩
      rw [Around.under_plainId plain_contains_loop _]
      exact ih (i + 1) (by omega) (by omega) _ z
end
/-- x in the list all at p: t is what is left -/
def InR (r : R2) (p : Addr) (all : List V) (x : V) : List V → Hp → VK → Prop
  | [], H, Q => Q (.bl false) H
  | y :: t, H, Q => y ≠ x ∧ r y x H fun v G => ∃ c, v = .bl c ∧ if c = true then Q (.bl true) G else G p = some (.lst all) ∧ InR r p all x t G Q
def rInO (r : R2) : R2 := fun x y H Q => ∃ p xs, y = .ref p ∧ H p = some (.lst xs) ∧ (∃ a, x = .ref a) ∧ (∀ v ∈ xs, ∀ b, v ≠ .flt b) ∧ InR r p xs x xs H Q
open SeqAt AutoSeq1 MeetsSeq in
theorem op_inO {X : Cx} {r : R2} (e : EqP X X.A.in1 r) : OpR X (compareOp .In) (rInO r) := by
  intro pins s σ H x y v u Q J rx ry rd
  obtain ⟨p, xs, rfl, hp, ⟨a, rfl⟩, nf, q⟩ := rd
  cases ry
  cases rx
  have at_ : ∀ {G : Hp} {t : Shared}, Inv X pins σ G t → G p = some (.lst xs) → ∃ its n, Vals xs its ∧ t.heap.get? p = some { cls := .type "list", data := .seq its.toArray n } := fun {G t} J e => (show ObjOk X.prog X.w G t.heap p (.lst xs) from J.hok p _ e).2
  obtain ⟨its, n, rv, ho⟩ := at_ J hp
  have hT : s.TypeIs (.ref p) "list" := ⟨_, ho, rfl⟩
  show wpAny (model X.prog X.w) X.A (do return .bool (← contains (.ref p) (.ref a))) (EP X pins σ Q) X.xe s
  refine wpAny_bind (wpAny_contains_slot hT F.slot_list_contains (wpAny_mono (call_meetsIn (E := X.xe) (Q := fun v t => ∃ c, v = .bool c ∧ EP X pins σ Q (.bool c) t) (S := fun A R t => A = X.A ∧ t = s ∧ (∀ c t', EP X pins σ Q (.bool c) t' → R (.ok (.ret (.bool c))) t') ∧ ∀ e t', X.xe e t' → R (.error e) t')
    F.slot_list_contains hT F.entry_list_contains (F.args_list_contains_2 _ _) (fun A R t z => ?_) ⟨rfl, rfl, fun c t' z => ⟨c, rfl, z⟩, fun e t' z => z⟩) (fun v t hv => ?_) fun _ _ z => z))
  · obtain ⟨rfl, rfl, k1, k2⟩ := z
    have go := contains_goes (prog := X.prog) (w := X.w) (A := X.A) (R := R) (l := p) (x := .ref a) (N := xs.length) (I := fun i t => ∃ G, Inv X pins σ G t ∧ G p = some (.lst xs) ∧ InR r p xs (.ref a) (xs.drop i) G Q) (fun i t hI => by
      obtain ⟨G, JG, eG, hR⟩ := hI
      obtain ⟨iz, n2, rz, hz⟩ := at_ JG eG
      refine ⟨iz.toArray, n2, none, #[], hz, by simpa using rz.length.symm, fun hi => ?_⟩
      have hx : i < xs.length := by
        have := rz.length
        simp at hi
        omega
      obtain ⟨u, hu, ru⟩ := rz.get (List.getElem?_eq_getElem hx)
      have eu : iz.toArray[i] = u := by
        simp
        rw [List.getElem?_eq_getElem (by simpa using hi)] at hu
        exact Option.some.inj hu
      rw [eu]
      rw [List.drop_eq_getElem_cons hx] at hR
      obtain ⟨ne, rr⟩ := hR
      refine eqBool_of ?_ ?_ (wpAny_mono (wpAny_mono (e pins t σ G _ (.ref a) u (.ref a) _ JG ru rfl rr) (fun _ _ z => z) k2) (fun v t' z => ?_) fun _ _ z => z)
      · intro z
        subst z
        cases hv : xs[i] <;> rw [hv] at ru ne <;> first | (obtain ⟨_, z⟩ := ru; cases z) | (cases ru; exact ne rfl) | cases ru
      · intro f tk z
        subst z
        have nn := nf _ (List.getElem_mem hx)
        cases hv : xs[i] <;> rw [hv] at ru nn <;> first | exact nn _ rfl | (obtain ⟨_, z⟩ := ru; cases z) | cases ru
      · obtain ⟨v2, G2, J2, rv2, c, rfl, q2⟩ := z
        cases rv2
        refine ⟨c, rfl, ?_⟩
        cases c with
        | true => exact k1 true t' ⟨.bl true, G2, J2, rfl, q2⟩
        | false => exact ⟨G2, J2, q2.1, q2.2⟩) (fun t hI => by
      obtain ⟨G, JG, eG, hR⟩ := hI
      rw [List.drop_length] at hR
      exact k1 false t ⟨.bl false, G, JG, rfl, hR⟩) xs.length 0 (by omega) (Nat.zero_le _) t ⟨H, J, hp, q⟩
    obtain ⟨h0, g, d, tk, os⟩ := t
    wp_walk using wpAny_loadPart' ho
    refine ⟨plainId_quiet plain_contains_loop _, codeAny_builtin entry_contains_loop ?_⟩
    rw [Around.under_plainId plain_contains_loop _]
    exact go
  · obtain ⟨c, rfl, z⟩ := hv
    exact wpAny_truthy_bool (wpAny_pure z)
end TS

/-! ### 30. texts: plain signs, lengths of what is split, joined, cut -/
namespace TS
open PySem PySem.Spec PyProof.Rows L2 TL
def Plain (z : Str) : Prop := ∀ c ∈ tl z, c < 256
theorem Plain.app {x y : Str} (hx : Plain x) (hy : Plain y) : Plain (x ++ y) := fun c hc => by
  rw [tl_append] at hc
  exact (List.mem_append.mp hc).elim (hx c) (hy c)
theorem Plain.cut {z : Str} (h : Plain z) (lo hi : Option Int) : Plain (cutS z lo hi) := fun c hc => h c (List.mem_of_mem_drop (List.mem_of_mem_take (show c ∈ ((tl z).drop _).take _ from hc)))
theorem joined_mem {S : List Nat} {c : Nat} : ∀ {ps : List (List Nat)}, c ∈ joinL S ps → c ∈ S ∨ ∃ p ∈ ps, c ∈ p
  | [], h => absurd h (by simp [joinL])
  | [p], h => .inr ⟨p, by simp, h⟩
  | p :: q :: r, h => by
    rcases List.mem_append.mp (show c ∈ p ++ (S ++ joinL S (q :: r)) from h) with h | h
    · exact .inr ⟨p, by simp, h⟩
    · rcases List.mem_append.mp h with h | h
      · exact .inl h
      · rcases joined_mem h with h | ⟨x, hx, hc⟩
        · exact .inl h
        · exact .inr ⟨x, List.mem_cons_of_mem _ hx, hc⟩
theorem Plain.join {y : Str} {ws : List Str} (hy : Plain y) (h : ∀ z ∈ ws, Plain z) : Plain (Txt.join y ws) := fun c hc => by
  rw [join_eq, tl_join] at hc
  rcases joined_mem hc with hc | ⟨p, hp, hc⟩
  · exact hy c hc
  · obtain ⟨z, hz, rfl⟩ := List.mem_map.mp hp
    exact h z hz c hc
theorem plainB {z : Str} (h : (tl z).all (fun c => decide (c < 256)) = true) : Plain z := fun c hc => of_decide_eq_true (List.all_eq_true.mp h c hc)
theorem cut_le {z : Str} {lo hi : Option Int} {n : Nat} (h : z.length ≤ n) : (cutS z lo hi).length ≤ n := Nat.le_trans (cutS_length z lo hi) h
theorem add_len (x y : Str) : (x ++ y).length = x.length + y.length := by
  rw [len_tl, tl_append, List.length_append, ← len_tl, ← len_tl]
theorem join_sum (y : Str) : ∀ ws : List Str, (Txt.join y ws).length ≤ (ws.map (·.length)).sum + ws.length * y.length
  | [] => by
    rw [join_eq, len_tl, tl_join]
    exact Nat.zero_le _
  | [w] => by
    rw [join_eq, len_tl, tl_join]
    show (tl w).length ≤ _
    rw [← len_tl]
    simp
  | w :: v :: r => by
    have ih := join_sum y (v :: r)
    rw [join_eq, len_tl, tl_join] at ih ⊢
    show (tl w ++ (tl y ++ joinL (tl y) ((v :: r).map tl))).length ≤ _
    rw [List.length_append, List.length_append, ← len_tl, ← len_tl]
    have e : (w :: v :: r).length = (v :: r).length + 1 := rfl
    have e2 : ((w :: v :: r).map (fun x : Str => x.length)).sum = w.length + ((v :: r).map (fun x : Str => x.length)).sum := by simp only [List.map_cons, List.sum_cons]
    rw [e, Nat.succ_mul, e2]
    have ih' : (joinL (tl y) (tl v :: List.map tl r)).length ≤ ((v :: r).map (fun x : Str => x.length)).sum + (v :: r).length * y.length := ih
    omega
theorem pre_is (m c : Nat) (r : List Nat) : pre [m] (c :: r) = decide (c = m) := by
  by_cases h : c = m
  · subst h; simp [pre]
  · simp [pre, h]
/-- what a text is split into -/
theorem spl_facts (m : Nat) : ∀ (l acc : List Nat), 1 ≤ (spl [m] 0 acc l).length ∧ (spl [m] 0 acc l).length ≤ 1 + l.length ∧ ((spl [m] 0 acc l).map List.length).sum ≤ acc.length + l.length ∧ (∀ p ∈ spl [m] 0 acc l, ∀ c ∈ p, c ∈ acc ∨ (c ∈ l ∧ c ≠ m))
  | [], acc => by
    rw [spl_nil]
    exact ⟨by simp, by simp, by simp, fun p hp c hc => .inl (by rw [List.mem_singleton.mp hp] at hc; exact hc)⟩
  | c :: r, acc => by
    by_cases h : c = m
    · rw [spl_hit (by rw [pre_is, decide_eq_true h])]
      obtain ⟨a1, a2, a3, a4⟩ := spl_facts m r []
      show 1 ≤ (acc :: spl [m] 0 [] r).length ∧ (acc :: spl [m] 0 [] r).length ≤ _ ∧ ((acc :: spl [m] 0 [] r).map List.length).sum ≤ _ ∧ ∀ p ∈ acc :: spl [m] 0 [] r, _
      refine ⟨by simp, ?_, ?_, fun p hp d hd => ?_⟩
      · simp only [List.length_cons]; omega
      · simp only [List.map_cons, List.sum_cons, List.length_cons, List.length_nil] at a3 ⊢; omega
      · rcases List.mem_cons.mp hp with rfl | hp
        · exact .inl hd
        · rcases a4 p hp d hd with z | ⟨z, n⟩
          · cases z
          · exact .inr ⟨List.mem_cons_of_mem _ z, n⟩
    · rw [spl_miss (by rw [pre_is, decide_eq_false h])]
      obtain ⟨a1, a2, a3, a4⟩ := spl_facts m r (acc ++ [c])
      refine ⟨a1, ?_, ?_, fun p hp d hd => ?_⟩
      · simp only [List.length_cons]; omega
      · simp only [List.length_append, List.length_cons, List.length_nil] at a3 ⊢; omega
      · rcases a4 p hp d hd with z | ⟨z, n⟩
        · rcases List.mem_append.mp z with z | z
          · exact .inl z
          · rw [List.mem_singleton.mp z]; exact .inr ⟨List.mem_cons_self .., h⟩
        · exact .inr ⟨List.mem_cons_of_mem _ z, n⟩
theorem split_tl (z : Str) {m : Nat} (hm : m < 256) : (Txt.split z ⟨#[m]⟩).map tl = spl [m] 0 [] (tl z) := by
  rw [split_spl z ⟨#[m]⟩ (by show [m] ≠ []; simp) (kind_ok (by simp [hm]))]
theorem blank_is : (" " : Str) = ⟨#[32]⟩ := by decide +kernel
structure Splits (z : Str) (ws : List Str) : Prop where
  some_ : 1 ≤ ws.length
  few : ws.length ≤ 1 + z.length
  sum : (ws.map (·.length)).sum ≤ z.length
  mem : ∀ y ∈ ws, ∀ c ∈ tl y, c ∈ tl z ∧ c ≠ 32
theorem splits (z : Str) : Splits z (Txt.split z " ") := by
  have e := split_tl z (m := 32) (by decide)
  rw [← blank_is] at e
  obtain ⟨a1, a2, a3, a4⟩ := spl_facts 32 (tl z) []
  rw [← e] at a1 a2 a3 a4
  rw [List.length_map] at a1 a2
  refine ⟨a1, by rw [len_tl]; exact a2, ?_, fun y hy c hc => ?_⟩
  · have q : (Txt.split z " ").map (·.length) = ((Txt.split z " ").map tl).map List.length := by rw [List.map_map]; exact List.map_congr_left fun y _ => len_tl y
    rw [q, len_tl]
    simpa using a3
  · rcases a4 (tl y) (List.mem_map_of_mem hy) c hc with h | h
    · cases h
    · exact h
theorem mem_sum : ∀ {l : List Nat} {n : Nat}, n ∈ l → n ≤ l.sum
  | x :: r, n, h => by
    rw [List.sum_cons]
    rcases List.mem_cons.mp h with rfl | m
    · omega
    · have := mem_sum m; omega
theorem Splits.le {z : Str} {ws : List Str} (h : Splits z ws) {y : Str} (m : y ∈ ws) : y.length ≤ z.length := Nat.le_trans (mem_sum (List.mem_map_of_mem m)) h.sum
theorem Splits.plain {z : Str} {ws : List Str} (h : Splits z ws) (p : Plain z) {y : Str} (m : y ∈ ws) : Plain y := fun c hc => p c (h.mem y m c hc).1
/-- a joined line of words without blanks, split -/
theorem split_line {ws : List Str} (h1 : 1 ≤ ws.length) (h : ∀ y ∈ ws, 32 ∉ tl y) : Txt.split (Txt.join " " ws) " " = ws :=
  split_join (s := 32) (S := []) (by decide +kernel) (by decide +kernel) (fun e => by rw [e] at h1; simp at h1) h
end TS

/-! ### C(k = v, ..) of an own class whose __init__ may raise, no positional values -/
namespace TS
open PySem PySem.Spec PyProof.Rows L2
section
variable {X : Cx} {k : Nat} {f C : Addr} {ps ks : List Str} {sp : Sp} {W : WX} {x : Str} {p pos : Pos} {kws : List Keyword} {tk : TA} {gV : List V → List V → List V}
theorem pe_makeSK0 (M : Mk X.K C f) (pr : PromAK X.prog X.w X.K X.mg X.base k f ps sp 1 ks gV) (tkn : Takes X W) (hr : Room (k + 1) X.A) (hg : Gl X x) (hm : X.mg x = some (.ref C)) (hkw : PK X kws tk)
    (hall : (backToKw pos (keywordEach kws X.env)).all (·.1.isSome) = true := by rfl) (hks : (backToKw pos (keywordEach kws X.env)).filterMap (·.1) = ks := by rfl) (hdb : (x == ("__debug__" : Str)) = false := by decide)
    (hpl : ((backTo pos (starEach [] X.env)).any (·.1) || (backToKw pos (keywordEach kws X.env)).any (·.1.isNone)) = false := by rfl) :
    PE X (.Call (.Name x p) [] kws pos) (tMakeSK C 0 ks.length sp gV W tNil tk) := by
  obtain ⟨fd, g, F, b⟩ := pr
  refine ⟨fun pins s σ H Q J h => wpAny_Call_Name_kw (ld_glob J hg hm ?_ hdb)⟩
  refine PySem.W.callWith_KW0 (h₀ := X.base) J.ok.mod.kin M.kp hall ?_ hpl
  refine thn (hkw.run pos pins s σ H _ J h) fun ws s2 ⟨zs, H2, J2, rz, l1, l2, q2⟩ => ⟨J2.kIn, ?_⟩
  rw [hks]
  exact make_runSK (us := []) (vs := []) M F hr b tkn J2 .nil rz rfl l2 q2
end
end TS

/-! ### 31. a def that may raise, called by the names of its parameters -/
namespace TS
open PySem PySem.Spec PyProof.Rows L2
/-- a def and its promise, however it is called -/
def FnX (P : Program) (w : World) (K : PySem.W.Frag) (mg : Str → Option Value) (base : Heap) (k : Nat) (x : Str) (st : Stmt) (ps : List Str) (sp : Sp) : Prop :=
  ∃ f fd, FunD K x x (defArgs st) (defBody st) (defScope st) [] [] f fd ∧ mg x = some (.ref f) ∧ FnOk P w K mg base (L2.CX P w) k f fd ps sp
def PromXN (P : Program) (w : World) (K : PySem.W.Frag) (mg : Str → Option Value) (base : Heap) (k : Nat) (x : Str) (ps : List Str) (sp : Sp) (n : Nat) (ks : List Str) (gV : List V → List V → List V) : Prop :=
  ∃ f fd g, FnOk P w K mg base (L2.CX P w) k f fd ps sp ∧ mg x = some (.ref f) ∧ PySem.W.keepIn K (.ref f) = true ∧ KBn K fd ps n ks g gV
section
variable {P : Program} {w : World} {K : PySem.W.Frag} {mg : Str → Option Value} {base : Heap} {N ps ks : List Str} {k n : Nat} {sp : Sp} {x : Str} {st : Stmt}
theorem fnX_mk (D : Def K mg x st) (S : FnScope N ps (defScope st)) (len : ∀ vs H Q E, sp vs H Q E → vs.length = ps.length)
    (body : ∀ (f : Addr) (cdv : Value) (A : Around) (outer : List Env) (s : Shared) (H : Hp) (vs : List V) (Q : VK) (E : XK), Room k (A.deeper (envOfC x (defScope st) s.heap.objs.size f cdv)) → sp vs H Q E →
      ∃ t, PSs (cxOf (L2.CX P w) P w K mg base N x (defScope st) f cdv A outer s H E) (defBody st) t ∧ t { nx := fun _ G => Q .non G, rt := Q } (start N vs) H) : FnX P w K mg base (k + 1) x st ps sp := by
  obtain ⟨f, fd, F, m⟩ := D
  exact ⟨f, fd, F, m, F.ok S len (body f)⟩
theorem FnX.pos (h : FnX P w K mg base k x st ps sp)
    (hb : ∀ (kV doc pm : Value) (an : Option Addr) (cdv ct : Value) (us : List Value), us.length = ps.length → bindArgs (PySem.W.fnOf x x (defArgs st) (defBody st) (defScope st) .none kV doc pm an cdv ct) ⟨us, []⟩ = pure (ps.zip us)) : PromX P w K mg base k x ps sp := by
  obtain ⟨f, fd, F, m, o⟩ := h
  exact ⟨f, ⟨fd, o, F.bindsN hb⟩, m, F.kp⟩
theorem FnX.names (h : FnX P w K mg base k x st ps sp) (n : Nat) (ks : List Str) (g : {α : Type} → List α → List α → List α) (hrel : ∀ {vs zs : List V} {us ws : List Value}, Vals vs us → Vals zs ws → Vals (g vs zs) (g us ws))
    (hb : ∀ (kV doc pm : Value) (an : Option Addr) (cdv ct : Value) (us ws : List Value), us.length = n → ws.length = ks.length → bindArgs (PySem.W.fnOf x x (defArgs st) (defBody st) (defScope st) .none kV doc pm an cdv ct) ⟨us, ks.zip ws⟩ = pure (ps.zip (g us ws))) :
    PromXN P w K mg base k x ps sp n ks (fun vs zs => g vs zs) := by
  obtain ⟨f, fd, F, m, o⟩ := h
  refine ⟨f, fd, fun us ws => g us ws, o, m, F.kp, ?_, fun r1 r2 => hrel r1 r2⟩
  obtain ⟨oc, od, dV, kV, doc, pm, an, cdv, ct, osl, rfl, lk, hcd, hD, hK⟩ := F.ex
  rcases hD with ⟨_, rfl⟩ | ⟨e, _⟩
  · exact fun s us ws X l1 l2 => BindsTo.of_looks fun M => by rw [hb kV doc pm an cdv ct us ws l1 l2]; exact .now
  · exact absurd rfl e
end
section
variable {X : Cx} {k : Nat} {ps ks : List Str} {sp : Sp} {W : WX} {x : Str} {p pos : Pos} {kws : List Keyword} {tk : TA} {gV : List V → List V → List V}
theorem pe_pcXN (pr : PromXN X.prog X.w X.K X.mg X.base k x ps sp 0 ks gV) (tkn : Takes X W) (hr : Room k X.A) (hg : Gl X x) (hkw : PK X kws tk)
    (hall : (backToKw pos (keywordEach kws X.env)).all (·.1.isSome) = true := by rfl) (hks : (backToKw pos (keywordEach kws X.env)).filterMap (·.1) = ks := by rfl) (hdb : (x == ("__debug__" : Str)) = false := by decide)
    (hpl : ((backTo pos (starEach [] X.env)).any (·.1) || (backToKw pos (keywordEach kws X.env)).any (·.1.isNone)) = false := by rfl) :
    PE X (.Call (.Name x p) [] kws pos) (fun σ H Q => tk σ H fun zs H1 => zs.length = ks.length ∧ sp (gV [] zs) H1 Q (WE W σ)) := by
  obtain ⟨f, fd, g, F, hm, kp, b⟩ := pr
  refine ⟨fun pins s σ H Q J h => wpAny_Call_Name_kw (ld_glob J hg hm ?_ hdb)⟩
  refine PySem.W.callWith_KW0 (h₀ := X.base) J.ok.mod.kin kp hall ?_ hpl
  refine thn (hkw.run pos pins s σ H _ J h) fun ws s2 ⟨zs, H2, J2, rz, l2, q2⟩ => ⟨J2.kIn, ?_⟩
  rw [hks]
  refine wpAny_call (codeAny_mono (F.run X.A X.stack s2 H2 ⟨[], ks.zip ws⟩ (g [] ws) (gV [] zs) Q (WE W σ) hr J2.env0 (b.to s2 [] ws J2.kIn rfl (rz.length.symm.trans l2)) (b.rel .nil rz) q2) fun o t z => ?_)
  match o, z with
  | .error e, z => exact passAt tkn σ pins _ _ e t J2 z
  | .ok (.ret u), z => exact J2.after z
end
end TS

set_option maxHeartbeats 2000000
/-! ### 41. order of pairs of a text and a number; zip with K named; defs with keyword-only parameters called in several ways -/
namespace TS
open PySem PySem.Spec PyProof.Rows L2
def ltSI (x : Str) (i : Int) (y : Str) (j : Int) : Bool := if x = y then decide (i < j) else decide (x.cps.toList < y.cps.toList)
def rOrd (K : PySem.W.Frag) (f : Str → Int → Str → Int → Bool) : R2 := fun x y H Q => ∃ (a b : Addr) (s : Str) (i : Int) (t : Str) (j : Int), x = .ref a ∧ y = .ref b ∧ SqT K H a [.str s, .int i] ∧ SqT K H b [.str t, .int j] ∧ Q (.bl (f s i t j)) H
section
variable {X : Cx} {K : PySem.W.Frag}
theorem vals2 {x y : V} {us : List Value} (r : Vals [x, y] us) : ∃ u v, us = [u, v] ∧ RelV x u ∧ RelV y v := by
  cases r with
  | cons r1 rr =>
    cases rr with
    | cons r2 rr =>
      cases rr
      exact ⟨_, _, rfl, r1, r2⟩
theorem beq_dec {α : Type} [DecidableEq α] [BEq α] [LawfulBEq α] (a b : α) : (a == b) = decide (a = b) := by
  by_cases h : a = b
  · rw [decide_eq_true h]; exact beq_iff_eq.mpr h
  · rw [decide_eq_false h]; exact beq_eq_false_iff_ne.mpr h
theorem op_ltSI (hK : X.K = K) (hu : X.A.units < cLine) : OpR X (compareOp .Lt) (rOrd K ltSI) := by
  subst hK
  intro pins s σ H x y v u Q I rx ry h
  obtain ⟨a, b, x1, i, x2, j, rfl, rfl, ha, hb, q⟩ := h
  cases rx
  cases ry
  obtain ⟨its, r1, p1, _⟩ := I.tuple ha
  obtain ⟨its2, r2, p2, _⟩ := I.tuple hb
  obtain ⟨u1, u2, rfl, ⟨t1, rfl⟩, ⟨t2, rfl⟩⟩ := vals2 r1
  obtain ⟨w1, w2, rfl, ⟨t3, rfl⟩, ⟨t4, rfl⟩⟩ := vals2 r2
  have R := Ob.RcOp.tuples_lt (A := X.A) (s := s) (e := fun n => match n with | 0 => decide (x1 = x2) | _ => decide (i = j)) (r := fun n => match n with | 0 => decide (x1.cps.toList < x2.cps.toList) | _ => decide (i < j)) p1 p2 hu (fun n h1 h2 => by
    match n, h1 with
    | 0, _ => show SeqAt.EqAt _ _ (.str x1 t1) (.str x2 t3) (decide (x1 = x2)); rw [← beq_dec]; exact SeqAt.EqAt.str_str _ _ _ _
    | 1, _ => show SeqAt.EqAt _ _ (.int i t2) (.int j t4) (decide (i = j)); rw [← beq_dec]; exact SeqAt.EqAt.int_int _ _ _ _
    | n + 2, h1 => exact absurd h1 (by simp)) (fun n h1 h2 _ => by
    match n, h1 with
    | 0, _ => exact fun _ _ _ _ h => PyProof.Rows.lt_str h
    | 1, _ => exact Ob.RcOp.lt_int _ _ _ _
    | n + 2, h1 => exact absurd h1 (by simp))
  have e : Ob.lexAt (fun n => match n with | 0 => decide (x1 = x2) | _ => decide (i = j)) (fun n => match n with | 0 => decide (x1.cps.toList < x2.cps.toList) | _ => decide (i < j)) (decide ((2 : Nat) < 2)) 0 2 = ltSI x1 i x2 j := by
    show (if decide (x1 = x2) = true then (if decide (i = j) = true then decide ((2 : Nat) < 2) else decide (i < j)) else decide (x1.cps.toList < x2.cps.toList)) = _
    unfold ltSI
    by_cases h1 : x1 = x2
    · rw [if_pos (decide_eq_true h1), if_pos h1]
      by_cases h2 : i = j
      · rw [if_pos (decide_eq_true h2)]
        rw [decide_eq_false (show ¬ i < j by omega)]
        rfl
      · rw [if_neg (by simpa using h2)]
    · rw [if_neg (by simpa using h1), if_neg h1]
  have R2 : Ob.RcOp .Lt X.A s (.ref a) (.ref b) (ltSI x1 i x2 j) := by
    rw [← e]
    exact R
  exact R2 X.prog X.w X.xe (EP X pins σ Q) ⟨.bl _, H, I, rfl, q⟩
def gtSI (x : Str) (i : Int) (y : Str) (j : Int) : Bool := if x = y then decide (j < i) else decide (y.cps.toList < x.cps.toList)
theorem op_gtSI (hK : X.K = K) (hu : X.A.units < cLine) : OpR X (compareOp .Gt) (rOrd K gtSI) := by
  subst hK
  intro pins s σ H x y v u Q I rx ry h
  obtain ⟨a, b, x1, i, x2, j, rfl, rfl, ha, hb, q⟩ := h
  cases rx
  cases ry
  obtain ⟨its, r1, p1, _⟩ := I.tuple ha
  obtain ⟨its2, r2, p2, _⟩ := I.tuple hb
  obtain ⟨u1, u2, rfl, ⟨t1, rfl⟩, ⟨t2, rfl⟩⟩ := vals2 r1
  obtain ⟨w1, w2, rfl, ⟨t3, rfl⟩, ⟨t4, rfl⟩⟩ := vals2 r2
  have R := Ob.RcOp.tuples_gt (A := X.A) (s := s) (e := fun n => match n with | 0 => decide (x1 = x2) | _ => decide (i = j)) (r := fun n => match n with | 0 => decide (x2.cps.toList < x1.cps.toList) | _ => decide (j < i)) p1 p2 hu (fun n h1 h2 => by
    match n, h1 with
    | 0, _ => show SeqAt.EqAt _ _ (.str x1 t1) (.str x2 t3) (decide (x1 = x2)); rw [← beq_dec]; exact SeqAt.EqAt.str_str _ _ _ _
    | 1, _ => show SeqAt.EqAt _ _ (.int i t2) (.int j t4) (decide (i = j)); rw [← beq_dec]; exact SeqAt.EqAt.int_int _ _ _ _
    | n + 2, h1 => exact absurd h1 (by simp)) (fun n h1 h2 _ => by
    match n, h1 with
    | 0, _ => exact fun _ _ _ _ h => PySem.P.gt_str h
    | 1, _ => exact Ob.RcOp.gt_int _ _ _ _
    | n + 2, h1 => exact absurd h1 (by simp))
  have e : Ob.lexAt (fun n => match n with | 0 => decide (x1 = x2) | _ => decide (i = j)) (fun n => match n with | 0 => decide (x2.cps.toList < x1.cps.toList) | _ => decide (j < i)) (decide ((2 : Nat) > 2)) 0 2 = gtSI x1 i x2 j := by
    show (if decide (x1 = x2) = true then (if decide (i = j) = true then decide ((2 : Nat) > 2) else decide (j < i)) else decide (x2.cps.toList < x1.cps.toList)) = _
    unfold gtSI
    by_cases h1 : x1 = x2
    · rw [if_pos (decide_eq_true h1), if_pos h1]
      by_cases h2 : i = j
      · rw [if_pos (decide_eq_true h2)]
        rw [decide_eq_false (show ¬ j < i by omega)]
        rfl
      · rw [if_neg (by simpa using h2)]
    · rw [if_neg (by simpa using h1), if_neg h1]
  have R2 : Ob.RcOp .Gt X.A s (.ref a) (.ref b) (gtSI x1 i x2 j) := by
    rw [← e]
    exact R
  exact R2 X.prog X.w X.xe (EP X pins σ Q) ⟨.bl _, H, I, rfl, q⟩
theorem pi_zipK {e e2 : Expr} {ta : TA} {p pos tpos : Pos} {elts : List Expr} {kk : Nat} (hK : X.K = K) (hg : Gl X "zip") (hm : X.mg "zip" = none) (ha : PA X [e, e2] ta)
    (hs : starEach [e, e2] X.env = (false, eval e X.env) :: starEach [e2] X.env := by rfl) (hpl : (backTo pos (starEach [e2] X.env)).any (·.1) = false := by rfl) :
    PI X (.Tuple elts kk tpos) (.Call (.Name "zip" p) [e, e2] [] pos) (iZip K ta) := by subst hK; exact pi_zip hg hm ha hs hpl
/-- s.index(y), y being in s -/
theorem mt_index0 : MtR X "str.index" (fun x xs H Q => ∃ (a b : Str) (k : Nat), x = .str a ∧ xs = [.str b] ∧ Txt.index0 a b = some k ∧ Q (.int (k : Nat)) H) := by
  intro pins s σ H x xs v us Q I rx rs h
  obtain ⟨a, b, k, rfl, rfl, hy, hq⟩ := h
  obtain ⟨t, rfl⟩ := rx
  cases rs with
  | cons r1 rs =>
    cases rs
    obtain ⟨u, rfl⟩ := r1
    unfold Txt.index0 at hy
    cases q : Builtin.Str.occurrences a b 0 a.length 1 with
    | nil => rw [q] at hy; cases hy
    | cons k' rest =>
      rw [q] at hy
      have ek : k' = k := Option.some.inj hy
      rw [← ek] at hq
      exact PySem.SC.index q ⟨.int (k' : Nat), H, I.tok _, ⟨_, rfl⟩, hq⟩
end
/-- a def with keyword-only parameters and its promise, however it is called -/
def FnK (P : Program) (w : World) (K : PySem.W.Frag) (mg : Str → Option Value) (base : Heap) (k : Nat) (x : Str) (st : Stmt) (ps : List Str) (sp : Sp) (kws : List (Str × V)) : Prop :=
  ∃ f fd, FunD K x x (defArgs st) (defBody st) (defScope st) [] kws f fd ∧ mg x = some (.ref f) ∧ FnOk P w K mg base CX0 k f fd ps sp
section
variable {P : Program} {w : World} {K : PySem.W.Frag} {mg : Str → Option Value} {base : Heap} {N ps ks : List Str} {k n : Nat} {sp : Sp} {x : Str} {st : Stmt} {kws : List (Str × V)}
theorem fnK_mk (D : DefK K mg x st kws) (S : FnScope N ps (defScope st)) (len : ∀ vs H Q E, sp vs H Q E → vs.length = ps.length)
    (body : ∀ (f : Addr) (cdv : Value) (A : Around) (outer : List Env) (s : Shared) (H : Hp) (vs : List V) (Q : VK) (E : XK), Room k (A.deeper (envOfC x (defScope st) s.heap.objs.size f cdv)) → sp vs H Q E →
      ∃ t, PSs (cxOf CX0 P w K mg base N x (defScope st) f cdv A outer s H E).nox (defBody st) t ∧ t { nx := fun _ H' => Q .non H', rt := Q } (start N vs) H) : FnK P w K mg base (k + 1) x st ps sp kws := by
  obtain ⟨f, fd, F, m⟩ := D
  refine ⟨f, fd, F, m, F.ok S len fun cdv A outer s H vs Q E hr h => ?_⟩
  obtain ⟨t, h1, h2⟩ := body f cdv A outer s H vs Q E hr h
  exact ⟨t, h1.nox, h2⟩
theorem FnK.call (h : FnK P w K mg base k x st ps sp kws) (n : Nat) (ks : List Str) (ms : List (Str × V)) (g : {α : Type} → List α → List α → List α → List α) (hk : kws ≠ []) (hms : ∀ q ∈ ms, q ∈ kws)
    (hrel : ∀ {vs mz zs : List V} {us mv ws : List Value}, Vals vs us → Vals mz mv → Vals zs ws → Vals (g vs mz zs) (g us mv ws))
    (hb : ∀ (D : Addr) (doc pm : Value) (an : Option Addr) (cdv ct : Value) (us mv ws : List Value), us.length = n → mv.length = ms.length → ws.length = ks.length →
      KwChain D ((ms.map (·.1)).zip mv) (bindArgs (PySem.W.fnOf x x (defArgs st) (defBody st) (defScope st) .none (.ref D) doc pm an cdv ct) ⟨us, ks.zip ws⟩) (ps.zip (g us mv ws))) :
    PromK P w K mg base k x ps sp n ks (fun vs zs => g vs (ms.map (·.2)) zs) := by
  obtain ⟨f, fd, F, m, o⟩ := h
  obtain ⟨mv, b⟩ := kbinds0 F n ks ms g hk hms hrel hb
  exact ⟨f, fd, _, o, m, F.kp, b⟩
end
section
variable {X : Cx} {k : Nat} {ps ks : List Str} {sp : Sp} {x : Str} {p pos : Pos} {kws : List Keyword} {tk : TA} {gV : List V → List V → List V}
/-- f(k = v, ..), no positional value -/
theorem pe_pcK0 (pr : PromK X.prog X.w X.K X.mg X.base k x ps sp 0 ks gV) (hr : Room k X.A) (hg : Gl X x) (hkw : PK X kws tk)
    (hall : (backToKw pos (keywordEach kws X.env)).all (·.1.isSome) = true := by rfl) (hks : (backToKw pos (keywordEach kws X.env)).filterMap (·.1) = ks := by rfl) (hdb : (x == ("__debug__" : Str)) = false := by decide)
    (hpl : ((backTo pos (starEach [] X.env)).any (·.1) || (backToKw pos (keywordEach kws X.env)).any (·.1.isNone)) = false := by rfl) :
    PE X (.Call (.Name x p) [] kws pos) (fun σ H Q => tk σ H fun zs H1 => zs.length = ks.length ∧ sp (gV [] zs) H1 Q E0) := by
  obtain ⟨f, fd, g, F, hm, kp, b⟩ := pr
  refine ⟨fun pins s σ H Q J h => wpAny_Call_Name_kw (ld_glob J hg hm ?_ hdb)⟩
  refine PySem.W.callWith_KW0 (h₀ := X.base) J.ok.mod.kin kp hall ?_ hpl
  refine thn (hkw.run pos pins s σ H _ J h) fun ws s2 ⟨zs, H2, J2, rz, l2, q2⟩ => ⟨J2.kIn, ?_⟩
  rw [hks]
  refine wpAny_call (codeAny_mono (F.run X.A X.stack s2 H2 ⟨[], ks.zip ws⟩ (g [] ws) (gV [] zs) Q E0 hr J2.env0 (b.to s2 [] ws J2.kIn rfl (rz.length.symm.trans l2)) (b.rel .nil rz) q2) fun o t z => ?_)
  match o, z with
  | .error e, z => exact pass0 pins σ H2 s2 e t J2 z
  | .ok (.ret u), z => exact J2.after z
end
end TS

namespace TS
open PySem PySem.Spec PyProof.Rows L2 TL

/-! ### marks: whole numbers, names -/
def wholeD (lo hi : Int) : PyData → Bool
  | .int i => decide (lo ≤ i) && decide (i ≤ hi)
  | _ => false
def smallS (z : Str) : Bool := z.cps.toList.all fun c => decide (97 ≤ c) && decide (c ≤ 122)
def nameS (z : Str) : Bool := decide (1 ≤ z.length) && decide (z.length ≤ 8) && smallS z
def nameD : PyData → Bool
  | .str z => nameS z
  | _ => false
def SMALLs : Str := "abcdefghijklmnopqrstuvwxyz"
theorem in_small (c : Nat) : decide (c ∈ SMALLs.cps.toList) = (decide (97 ≤ c) && decide (c ≤ 122)) := by
  have e : SMALLs.cps.toList = (List.range 26).map (· + 97) := by decide +kernel
  rw [e]
  by_cases h : 97 ≤ c ∧ c ≤ 122
  · rw [decide_eq_true h.1, decide_eq_true h.2]
    exact decide_eq_true (List.mem_map.mpr ⟨c - 97, List.mem_range.mpr (by omega), by omega⟩)
  · have n : c ∉ (List.range 26).map (· + 97) := fun m => by
      obtain ⟨k, hk, rfl⟩ := List.mem_map.mp m
      have := List.mem_range.mp hk
      omega
    rw [decide_eq_false n]
    by_cases h1 : 97 ≤ c
    · rw [decide_eq_true h1, decide_eq_false (fun h2 => h ⟨h1, h2⟩)]; rfl
    · rw [decide_eq_false h1]; rfl
theorem sz5' {n : Nat} (h : n ≤ 100000) : n < sizeLine := Nat.lt_of_le_of_lt h (by decide)
theorem sz5 {n : Nat} (h : n ≤ 100000) : n ≤ sizeLine := Nat.le_trans h (by decide)
theorem take_map {α β : Type} (f : α → β) {l : List α} {i : Nat} {c : α} (h : l[i]? = some c) : (l.take (i + 1)).map f = (l.take i).map f ++ [f c] := by
  rw [List.take_add_one, h, List.map_append]
  rfl
/-- a comprehension over a text's signs, one value a sign -/
theorem lc_signs {z : Str} {g : TG} {te : TE} {vs : List Nat} {σ : L2.St} {H1 : Hp} {D : Addr} {Qd : Hp → Prop} (f : Nat → V) (hz : z.length ≤ 100000) (hs : ∀ c H' (C : VK), C (f c) H' → g (.str ⟨#[c]⟩) (wipe σ vs) H' fun σ2 H2 => wipe σ2 vs = wipe σ vs ∧ te σ2 H2 C)
    (hd : Qd (L2.upd H1 D (.lst ((tl z).map f)))) (hg : ∀ x σ H C C', (∀ s h, C s h → C' s h) → g x σ H C → g x σ H C') :
    ∃ W : Nat → Nat → Hp → Prop, (∃ m, W 0 m (L2.upd H1 D (.lst []))) ∧ ∀ i m H, W i m H →
      ((Its z).stop i H ∧ Qd H) ∨ ((Its z).go i H ∧ ∃ Nx : Hp → Prop, (∀ H', Nx H' → ∃ m', m' < m ∧ W (i + 1) m' H') ∧ ∀ x H', (Its z).yld i H x H' → g x (wipe σ vs) H' fun σ2 H2 => wipe σ2 vs = wipe σ vs ∧ tYes σ2 H2 fun b H3 =>
        if b = true then te σ2 H3 fun y H4 => ∃ acc, H4 D = some (.lst acc) ∧ acc.length < sizeLine ∧ Nx (L2.upd H4 D (.lst (acc ++ [y]))) else Nx H3) := by
  refine lc_it walk_str (fun i H' => H' = L2.upd H1 D (.lst (((tl z).take i).map f))) rfl (fun _ _ _ _ => trivial) ?_ ?_
  · rintro i x H2 H3 hi rfl ⟨rfl, c, hc, rfl⟩
    have hc' : (tl z)[i]? = some c := by rw [← hc]; simp [tl]
    refine hg _ _ _ _ _ (fun s h q => ⟨q.1, by
      unfold tYes
      dsimp only
      rw [if_pos rfl]
      exact q.2⟩) (hs c _ (fun y H4 => ∃ acc, H4 D = some (.lst acc) ∧ acc.length < sizeLine ∧ L2.upd H4 D (.lst (acc ++ [y])) = L2.upd H1 D (.lst (((tl z).take (i + 1)).map f))) ⟨_, upd_same, ?_, ?_⟩)
    · refine sz5' ?_
      rw [len_tl] at hz
      rw [List.length_map, List.length_take]
      omega
    · rw [upd_upd, take_map f hc']
  · rintro H2 rfl
    have e : (tl z).take z.cps.size = tl z := List.take_of_length_le (by simp [tl])
    rw [e]
    exact hd
theorem gName_mono {i : Nat} (x : V) (σ : L2.St) (H : Hp) (C C' : L2.St → Hp → Prop) (h : ∀ s h, C s h → C' s h) (q : gName i x σ H C) : gName i x σ H C' := h _ _ q
def spWhole (K : PySem.W.Frag) : Sp := fun vs H Q _ => ∃ (x : V) (d : PyData) (lo hi : Int), vs = [x, .int lo, .int hi] ∧ Dt K H x d ∧ Q (.bl (wholeD lo hi d)) H
def spName (K : PySem.W.Frag) : Sp := fun vs H Q _ => ∃ (x : V) (d : PyData), vs = [x] ∧ Dt K H x d ∧ (∀ z, d = .str z → z.length ≤ 100000) ∧ ∀ H', Same H H' → Q (.bl (nameD d)) H'
section
variable {P : Program} {w : World} {K : PySem.W.Frag} {mg : Str → Option Value} {base : Heap}
theorem sc_is_whole : FnScope ["thing", "low", "high"] ["thing", "low", "high"] (defScope s_is_whole) := ⟨rfl, rfl, rfl, by decide +kernel, rfl, by decide +kernel, by decide +kernel⟩

theorem ok_is_whole (bt : Bt mg) (D : Def K mg "is_whole" s_is_whole) : Prom P w K mg base 1 "is_whole" ["thing", "low", "high"] (spWhole K) := by
  refine prom_mk D sc_is_whole (fun vs H Q E h => ?_) (fun _ _ _ _ _ _ us hl => match us, hl with | [_, _, _], _ => rfl) (fun f cdv A outer s H vs Q E hr h => ?_)
  · obtain ⟨x, d, lo, hi, rfl, _⟩ := h
    rfl
  · obtain ⟨x, d, lo, hi, rfl, hd, q⟩ := h
    refine ⟨_, (pss_one (ps_ret (pe_and (pe_callB (id := "isinstance") (isiK (K := K)) (by rfl) bt.isinstance_ (by decide +kernel) (pa_cons (pv 0) (pa_cons (pe_bltn (v := .ty "int") rfl bt.int_ (by decide +kernel) rfl) pa_nil))) (pe_and (pe_not (pe_callB (id := "isinstance") (isiK (K := K)) (by rfl) bt.isinstance_ (by decide +kernel) (pa_cons (pv 0) (pa_cons (pe_bltn (v := .ty "bool") rfl bt.bool_ (by decide +kernel) rfl) pa_nil)))) (pe_one (pe_chain op_le op_le (pv 1) (pv 0) (pv 2))))))), ?_⟩
    refine ⟨_, rfl, _, _, _, _, isD "int" d, rfl, .ty "int", hd.ty, isi_int, _, rfl, ite2 (fun c => ?_) (fun c => ?_)⟩
    · refine ⟨_, rfl, _, _, _, _, isD "bool" d, rfl, .ty "bool", hd.ty, isi_bool, _, rfl, _, rfl, ?_⟩
      rcases isD_int c with ⟨i, rfl⟩ | ⟨b, rfl⟩
      · cases hd
        rw [isD_intb]
        refine iteT ⟨_, rfl, _, rfl, _, _, rfl, rfl, _, rfl, ?_⟩
        replace q : Q (.bl (decide (lo ≤ i) && decide (i ≤ hi))) H := q
        by_cases h1 : lo ≤ i
        · rw [decide_eq_true h1] at q ⊢
          exact iteT ⟨_, rfl, _, _, rfl, rfl, q⟩
        · rw [decide_eq_false h1] at q ⊢
          exact iteF q
      · rw [isD_bools]
        exact iteF q
    · have e : wholeD lo hi d = false := by
        cases d <;> first | rfl | exact absurd (isD_ints _) c
      rw [e] at q
      exact q
theorem sc_is_name : FnScope ["thing", "sign"] ["thing"] (defScope s_is_name) := ⟨rfl, rfl, rfl, by decide +kernel, rfl, by decide +kernel, by decide +kernel⟩

theorem ok_is_name (bt : Bt mg) (k_MOST_SIGNS_marks : ∃ t, mg "MOST_SIGNS_marks" = some (.int 8 t)) (k_SMALL : ∃ t, mg "SMALL" = some (.str "abcdefghijklmnopqrstuvwxyz" t)) (D : Def K mg "is_name" s_is_name) : Prom P w K mg base 1 "is_name" ["thing"] (spName K) := by
  obtain ⟨t_MOST_SIGNS_marks, c_MOST_SIGNS_marks⟩ := k_MOST_SIGNS_marks
  obtain ⟨t_SMALL, c_SMALL⟩ := k_SMALL
  refine prom_mk D sc_is_name (fun vs H Q E h => ?_) (fun _ _ _ _ _ _ us hl => match us, hl with | [_], _ => rfl) (fun f cdv A outer s H vs Q E hr h => ?_)
  · obtain ⟨x, d, rfl, _⟩ := h
    rfl
  · obtain ⟨x, d, rfl, hd, hz, q⟩ := h
    refine ⟨_, (pss_cons (ps_if (PW.pt (pw_or (pt_not (pt_val (pe_callB (id := "isinstance") (isiK (K := K)) (by rfl) bt.isinstance_ (by decide +kernel) (pa_cons (pv 0) (pa_cons (pe_bltn (v := .ty "str") rfl bt.str_ (by decide +kernel) rfl) pa_nil))))) (pw_or1 (pt_not (pt_chain op_le op_le pe_int (pe_callB (id := "len") (lenK (K := K)) (by rfl) bt.len_ (by decide +kernel) (pa_cons (pv 0) pa_nil)) (pe_glob (v := .int 8) rfl c_MOST_SIGNS_marks ⟨_, rfl⟩)))))) (pss_one (ps_ret pe_bl)) pss_nil)
      (pss_one (ps_ret (pe_callB (id := "all") (allK (K := K) rfl) (by rfl) bt.all_ (by decide +kernel) (pa_cons (pe_lc (own := [("sign", 1)]) (g := gName 1) rfl sc_is_name.nd (pi_str (pv 0)) (blkOk_by (N := ["thing", "sign"]) (sc := defScope s_is_name) (by decide +kernel)) (fun _ _ _ _ _ => (pg_name (i := 1) sc_is_name.nd rfl (Or.inl rfl))) (fun _ _ _ _ _ => pts_nil) (fun _ _ _ _ _ => (pe_cmpR op_in_sign (pv 1) (pe_glob (v := .str "abcdefghijklmnopqrstuvwxyz") rfl c_SMALL ⟨_, rfl⟩) rfl))) pa_nil))))), ?_⟩
    refine ⟨_, rfl, _, _, _, _, isD "str" d, rfl, .ty "str", hd.ty, isi_str, _, rfl, ?_⟩
    cases c : isD "str" d with
    | false =>
      have e : nameD d = false := by
        cases d <;> first | rfl | (rw [isD_strs] at c; cases c)
      rw [e] at q
      exact iteT (iteT (q _ (Same.refl _)))
    | true =>
      obtain ⟨z, rfl⟩ := isD_str c
      cases hd
      have hz' := hz z rfl
      refine iteF ⟨_, rfl, _, _, rfl, ⟨sz5 hz', rfl⟩, _, _, rfl, rfl, _, rfl, ?_⟩
      replace q : ∀ G, Same H G → Q (.bl (nameS z)) G := q
      unfold nameS at q
      by_cases h1 : 1 ≤ z.length
      · rw [decide_eq_true (show (1 : Int) ≤ (z.length : Nat) by omega)]
        rw [decide_eq_true h1] at q
        refine iteT ⟨_, _, rfl, rfl, _, rfl, ?_⟩
        by_cases h2 : z.length ≤ 8
        · rw [decide_eq_true (show ((z.length : Nat) : Int) ≤ 8 by omega)]
          rw [decide_eq_true h2] at q
          refine iteF ⟨_, rfl, z, rfl, fun L hL => ?_⟩
          refine lc_signs (fun c => V.bl (decide (c ∈ SMALLs.cps.toList))) hz' (fun c G C qq => ⟨rfl, _, rfl, c, SMALLs, rfl, rfl, qq⟩) ?_ gName_mono
          refine ⟨L, (tl z).map fun c => decide (c ∈ SMALLs.cps.toList), rfl, .inl (.inl (by rw [upd_same, List.map_map]; rfl)), ?_⟩
          have e : ((tl z).map fun c => decide (c ∈ SMALLs.cps.toList)).all id = smallS z := by
            rw [List.all_map]
            unfold smallS
            show (tl z).all _ = (tl z).all _
            congr 1
            funext c
            exact in_small c
          rw [e]
          exact q _ (Same.new (Same.refl _) hL)
        · rw [decide_eq_false (show ¬ ((z.length : Nat) : Int) ≤ 8 by omega)]
          rw [decide_eq_false h2] at q
          exact iteT (q _ (Same.refl _))
      · rw [decide_eq_false (show ¬ (1 : Int) ≤ (z.length : Nat) by omega)]
        rw [decide_eq_false h1] at q
        exact iteF ⟨_, rfl, iteT (q _ (Same.refl _))⟩
end

end TS

namespace TS
open PySem PySem.Spec PyProof.Rows L2 TL

/-! ### rows of words -/
def rowD : PyData → Bool
  | .tuple [a, b] => nameD a && wholeD 0 4 b
  | _ => false
theorem weight_mem : ∀ {ds : List PyData} {d : PyData}, d ∈ ds → d.weight ≤ PyData.weightAll ds
  | x :: r, d, h => by
    unfold PyData.weightAll
    rcases List.mem_cons.mp h with e | m
    · rw [e]; omega
    · have := weight_mem m; omega
theorem weight_tup {ds : List PyData} {d : PyData} {n : Nat} (h : (PyData.tuple ds).weight ≤ n) (m : d ∈ ds) : d.weight ≤ n := by
  unfold PyData.weight at h
  exact Nat.le_trans (weight_mem m) h
theorem weight_list {ds : List PyData} {d : PyData} {n : Nat} (h : (PyData.list ds).weight ≤ n) (m : d ∈ ds) : d.weight ≤ n := by
  unfold PyData.weight at h
  exact Nat.le_trans (weight_mem m) h
theorem weight_strD {d : PyData} {n : Nat} (h : d.weight ≤ n) : ∀ z, d = .str z → z.length ≤ n := fun z e => by
  rw [e] at h
  unfold PyData.weight at h
  exact h
theorem iteT' {b : Bool} {A B : Prop} (h : b = true) (a : A) : if b = true then A else B := by rw [h]; exact iteT a
theorem iteF' {b : Bool} {A B : Prop} (h : b = false) (a : B) : if b = true then A else B := by rw [h]; exact iteF a
theorem neV_int {i j : Int} : (!decide (V.int i = V.int j)) = !decide (i = j) := by
  by_cases h : i = j
  · rw [h]; simp
  · rw [decide_eq_false h, decide_eq_false (fun z => h (V.int.inj z))]
theorem eqV_int {i j : Int} : decide (V.int i = V.int j) = decide (i = j) := by
  by_cases h : i = j
  · rw [h]; simp
  · rw [decide_eq_false h, decide_eq_false (fun z => h (V.int.inj z))]
theorem two_of {α : Type} {l : List α} (h : l.length = 2) : ∃ a b, l = [a, b] := match l, h with | [a, b], _ => ⟨a, b, rfl⟩
def spRow (K : PySem.W.Frag) : Sp := fun vs H Q _ => ∃ (x : V) (d : PyData), vs = [x] ∧ Dt K H x d ∧ d.weight ≤ 100000 ∧ ∀ H', Same H H' → Q (.bl (rowD d)) H'
section
variable {P : Program} {w : World} {K : PySem.W.Frag} {mg : Str → Option Value} {base : Heap}
theorem sc_is_row : FnScope ["thing"] ["thing"] (defScope s_is_row) := ⟨rfl, rfl, rfl, by decide +kernel, rfl, by decide +kernel, by decide +kernel⟩

theorem ok_is_row (bt : Bt mg) (k_MOST_PLACES_signs : ∃ t, mg "MOST_PLACES_signs" = some (.int 4 t)) (p_is_name : Prom P w K mg base 1 "is_name" ["thing"] (spName K)) (p_is_whole : Prom P w K mg base 1 "is_whole" ["thing", "low", "high"] (spWhole K)) (D : Def K mg "is_row" s_is_row) :
    Prom P w K mg base 2 "is_row" ["thing"] (spRow K) := by
  obtain ⟨t_MOST_PLACES_signs, c_MOST_PLACES_signs⟩ := k_MOST_PLACES_signs
  refine prom_mk D sc_is_row (fun vs H Q E h => ?_) (fun _ _ _ _ _ _ us hl => match us, hl with | [_], _ => rfl) (fun f cdv A outer s H vs Q E hr h => ?_)
  · obtain ⟨x, d, rfl, _⟩ := h
    rfl
  · obtain ⟨x, d, rfl, hd, hw, q⟩ := h
    refine ⟨_, (pss_cons (ps_if (PW.pt (pw_or (pt_not (pt_val (pe_callB (id := "isinstance") (isiK (K := K)) (by rfl) bt.isinstance_ (by decide +kernel) (pa_cons (pv 0) (pa_cons (pe_bltn (v := .ty "tuple") rfl bt.tuple_ (by decide +kernel) rfl) pa_nil))))) (pw_or1 (pt_cmpR op_ne (pe_callB (id := "len") (lenK (K := K)) (by rfl) bt.len_ (by decide +kernel) (pa_cons (pv 0) pa_nil)) pe_int (nomark _))))) (pss_one (ps_ret pe_bl)) pss_nil)
      (pss_one (ps_ret (pe_and (pe_pc p_is_name (hr.mono (by decide)) rfl (pa_cons (pe_ix (ix_tupK (K := K)) (pv 0) pe_int (fun _ _ => rfl)) pa_nil)) (pe_one (pe_pc p_is_whole (hr.mono (by decide)) rfl (pa_cons (pe_ix (ix_tupK (K := K)) (pv 0) pe_int (fun _ _ => rfl)) (pa_cons pe_int (pa_cons (pe_glob (v := .int 4) rfl c_MOST_PLACES_signs ⟨_, rfl⟩) pa_nil))))))))), ?_⟩
    refine ⟨_, rfl, _, _, _, _, isD "tuple" d, rfl, .ty "tuple", hd.ty, isi_tuple, _, rfl, ?_⟩
    cases c : isD "tuple" d with
    | false =>
      have e : rowD d = false := by
        cases d <;> first | rfl | (rw [isD_tuples] at c; cases c)
      rw [e] at q
      exact iteT (iteT (q _ (Same.refl _)))
    | true =>
      obtain ⟨l, rfl⟩ := isD_tuple c
      obtain ⟨a, xs, rfl, hT, hA⟩ := hd.tup_inv
      have hl := hA.length
      refine iteF ⟨_, rfl, _, _, rfl, .inr ⟨xs, hT, rfl⟩, rfl, _, rfl, ?_⟩
      rw [neV_int]
      by_cases h2 : l.length = 2
      · obtain ⟨d0, d1, rfl⟩ := two_of h2
        obtain ⟨x0, x1, rfl⟩ := two_of (hl.trans h2)
        cases hA with
        | cons h0 t => cases t with
        | cons h1 t =>
        refine iteF' rfl ?_
        refine ⟨_, rfl, a, _, _, x0, rfl, rfl, hT, rfl, x0, d0, rfl, h0, weight_strD (weight_tup hw (by simp)), fun G sG => ⟨_, rfl, ?_⟩⟩
        replace q : ∀ G, Same H G → Q (.bl (nameD d0 && wholeD 0 4 d1)) G := q
        cases hn : nameD d0 with
        | false =>
          rw [hn] at q
          exact iteF (q G sG)
        | true =>
          rw [hn] at q
          exact iteT ⟨_, rfl, a, _, _, x1, rfl, rfl, SqT.same sG hT, rfl, x1, d1, _, _, rfl, Dt.same sG h1, q G sG⟩
      · have e : rowD (.tuple l) = false := by
          match l, h2 with
          | [], _ => rfl
          | [_], _ => rfl
          | [_, _], h => exact absurd rfl h
          | _ :: _ :: _ :: _, _ => rfl
        rw [e] at q
        refine iteT' ?_ (q _ (Same.refl _))
        rw [decide_eq_false (show ¬ ((xs.length : Nat) : Int) = 2 by omega)]
        rfl
end

end TS

namespace TS
open PySem PySem.Spec PyProof.Rows L2 TL

/-! ### lists of rows -/
def nmOf : PyData → Str
  | .tuple (.str z :: _) => z
  | _ => ""
/-- how many unlike ones -/
def dc : List Str → Nat
  | [] => 0
  | x :: r => if x ∈ r then dc r else dc r + 1
theorem dc_le : ∀ l : List Str, dc l ≤ l.length
  | [] => Nat.le_refl _
  | x :: r => by
    unfold dc
    have := dc_le r
    split <;> simp only [List.length_cons] <;> omega
theorem dc_nodup : ∀ l : List Str, dc l = l.length ↔ l.Nodup
  | [] => by simp [dc]
  | x :: r => by
    have := dc_le r
    rw [List.nodup_cons, ← dc_nodup r, show dc (x :: r) = if x ∈ r then dc r else dc r + 1 from rfl]
    split
    · rename_i h
      simp only [List.length_cons]
      constructor
      · intro z; omega
      · intro z; exact absurd h z.1
    · rename_i h
      simp only [List.length_cons]
      constructor
      · intro z; exact ⟨h, by omega⟩
      · intro z; omega
theorem nodup_rev {l : List Str} : l.reverse.Nodup ↔ l.Nodup := by
  unfold List.Nodup
  rw [List.pairwise_reverse]
  constructor <;> exact fun h => h.imp fun z e => z e.symm
def rowsL (ds : List PyData) : Bool := decide (1 ≤ ds.length) && decide (ds.length ≤ 12) && (ds.all rowD && decide ((ds.map nmOf).Nodup))
def seqD : PyData → Option (List PyData)
  | .list ds => some ds
  | .tuple ds => some ds
  | _ => none
def rowsD (d : PyData) : Bool := match seqD d with
  | some ds => rowsL ds
  | none => false
theorem seq_kind {d : PyData} : (isD "list" d || isD "tuple" d) = true → ∃ ds, seqD d = some ds := fun h => by
  rcases Bool.or_eq_true_iff.mp h with h | h
  · obtain ⟨l, rfl⟩ := isD_list h; exact ⟨l, rfl⟩
  · obtain ⟨l, rfl⟩ := isD_tuple h; exact ⟨l, rfl⟩
theorem seq_nokind {d : PyData} (h : (isD "list" d || isD "tuple" d) = false) : seqD d = none := by
  cases d <;> first | rfl | (rw [isD_lists] at h; cases h) | (rw [isD_tuples, Bool.or_true] at h; cases h)
theorem Dt.seq {K : PySem.W.Frag} {H : Hp} {v : V} {d : PyData} {ds : List PyData} (h : Dt K H v d) (e : seqD d = some ds) : ∃ a xs, v = .ref a ∧ Sq K H a xs ∧ DtAll K H xs ds := by
  cases h with
  | lst a b => cases e; exact ⟨_, _, rfl, .inl a, b⟩
  | tup a b => cases e; exact ⟨_, _, rfl, .inr a, b⟩
  | _ => cases e
theorem weight_seq {d x : PyData} {ds : List PyData} {n : Nat} (h : d.weight ≤ n) (e : seqD d = some ds) (m : x ∈ ds) : x.weight ≤ n := by
  cases d with
  | list l => cases e; exact weight_list h m
  | tuple l => cases e; exact weight_tup h m
  | _ => cases e
theorem row_is {d : PyData} (h : rowD d = true) : ∃ z b, d = .tuple [.str z, b] ∧ nameS z = true ∧ wholeD 0 4 b = true := by
  unfold rowD at h
  split at h
  · rename_i a b
    obtain ⟨h1, h2⟩ := Bool.and_eq_true_iff.mp h
    unfold nameD at h1
    split at h1
    · exact ⟨_, _, rfl, h1, h2⟩
    · cases h1
  · cases h
def spRows (K : PySem.W.Frag) : Sp := fun vs H Q _ => ∃ (x : V) (d : PyData), vs = [x] ∧ Dt K H x d ∧ d.weight ≤ 100000 ∧ (∀ ds, seqD d = some ds → ds.length ≤ 1000) ∧ ∀ H', Same H H' → Q (.bl (rowsD d)) H'
section
variable {P : Program} {w : World} {K : PySem.W.Frag} {mg : Str → Option Value} {base : Heap}
theorem sc_are_rows : FnScope ["thing", "row"] ["thing"] (defScope s_are_rows) := ⟨rfl, rfl, rfl, by decide +kernel, rfl, by decide +kernel, by decide +kernel⟩

theorem ok_are_rows (bt : Bt mg) (k_MOST_WORDS : ∃ t, mg "MOST_WORDS" = some (.int 12 t)) (p_is_row : Prom P w K mg base 2 "is_row" ["thing"] (spRow K)) (D : Def K mg "are_rows" s_are_rows) :
    Prom P w K mg base 3 "are_rows" ["thing"] (spRows K) := by
  obtain ⟨t_MOST_WORDS, c_MOST_WORDS⟩ := k_MOST_WORDS
  refine prom_mk D sc_are_rows (fun vs H Q E h => ?_) (fun _ _ _ _ _ _ us hl => match us, hl with | [_], _ => rfl) (fun f cdv A outer s H vs Q E hr h => ?_)
  · obtain ⟨x, d, rfl, _⟩ := h
    rfl
  · obtain ⟨x, d, rfl, hd, hw, hn, q⟩ := h
    refine ⟨_, (pss_cons (ps_if (PW.pt (pw_or (pt_not (pt_val (pe_callB (id := "isinstance") (isiTK (K := K)) (by rfl) bt.isinstance_ (by decide +kernel) (pa_cons (pv 0) (pa_cons (pe_tup (pa_cons (pe_bltn (v := .ty "list") rfl bt.list_ (by decide +kernel) rfl) (pa_cons (pe_bltn (v := .ty "tuple") rfl bt.tuple_ (by decide +kernel) rfl) pa_nil))) pa_nil))))) (pw_or1 (pt_not (pt_chain op_le op_le pe_int (pe_callB (id := "len") (lenK (K := K)) (by rfl) bt.len_ (by decide +kernel) (pa_cons (pv 0) pa_nil)) (pe_glob (v := .int 12) rfl c_MOST_WORDS ⟨_, rfl⟩)))))) (pss_one (ps_ret pe_bl)) pss_nil)
      (pss_one (ps_ret (pe_and (pe_callB (id := "all") (allK (K := K) rfl) (by rfl) bt.all_ (by decide +kernel) (pa_cons (pe_lc (own := [("row", 1)]) (g := gName 1) rfl sc_are_rows.nd (pi_either (pi_listK (K := K) rfl (pv 0)) (pi_tupK (K := K) rfl (pv 0))) (blkOk_by (N := ["thing", "row"]) (sc := defScope s_are_rows) (by decide +kernel)) (fun _ _ _ _ _ => (pg_name (i := 1) sc_are_rows.nd rfl (Or.inl rfl))) (fun _ _ _ _ _ => pts_nil) (fun _ _ _ _ _ => (pe_pc p_is_row (hr.mono (by decide)) rfl (pa_cons (pv 1) pa_nil)))) pa_nil)) (pe_one (pe_cmpR op_eq (pe_callB (id := "len") len_setK (by rfl) bt.len_ (by decide +kernel) (pa_cons (pe_scK (own := [("row", 1)]) (g := gName 1) rfl sc_are_rows.nd (pi_either (pi_listK (K := K) rfl (pv 0)) (pi_tupK (K := K) rfl (pv 0))) (blkOk_by (N := ["thing", "row"]) (sc := defScope s_are_rows) (by decide +kernel)) (fun _ _ _ _ _ => (pg_name (i := 1) sc_are_rows.nd rfl (Or.inl rfl))) (fun _ _ _ _ _ => pts_nil) (fun _ _ _ _ _ => (pe_ix (ix_tupK (K := K)) (pv 1) pe_int (fun _ _ => rfl)))) pa_nil)) (pe_callB (id := "len") (lenK (K := K)) (by rfl) bt.len_ (by decide +kernel) (pa_cons (pv 0) pa_nil)) (nomark _))))))), ?_⟩
    refine ⟨_, rfl, (by show 2 ≤ sizeLine; decide), fun T hT => ⟨_, T, [.ty "list", .ty "tuple"], _, _, isD "list" d || isD "tuple" d, rfl, upd_same .., .cons (.ty "list") (.cons (.ty "tuple") .nil), (Dt.same (Same.new (Same.refl _) hT) hd).ty, isi_lt, _, rfl, ?_⟩⟩
    have sT : Same H (L2.upd H T (.tup [.ty "list", .ty "tuple"])) := Same.new (Same.refl _) hT
    generalize L2.upd H T (.tup [.ty "list", .ty "tuple"]) = H0 at sT ⊢
    unfold rowsD at q
    cases c : (isD "list" d || isD "tuple" d) with
    | false =>
      rw [seq_nokind c] at q
      exact iteT (iteT (q _ sT))
    | true =>
      obtain ⟨ds, es⟩ := seq_kind c
      rw [es] at q
      obtain ⟨a, xs, rfl, hS, hA⟩ := (Dt.same sT hd).seq es
      have hl := hA.length
      replace q : ∀ G, Same H G → Q (.bl (rowsL ds)) G := q
      unfold rowsL at q
      have h12 := hn ds es
      refine iteF ⟨_, rfl, _, _, rfl, hS.len, _, _, rfl, rfl, _, rfl, ?_⟩
      by_cases h1 : 1 ≤ ds.length
      · rw [decide_eq_true (show (1 : Int) ≤ (xs.length : Nat) by omega)]
        rw [decide_eq_true h1] at q
        refine iteT ⟨_, _, rfl, rfl, _, rfl, ?_⟩
        by_cases h2 : ds.length ≤ 12
        · rw [decide_eq_true (show ((xs.length : Nat) : Int) ≤ 12 by omega)]
          rw [decide_eq_true h2, Bool.and_true, Bool.true_and] at q
          refine iteF (seq_it rfl hS fun J G wk hG L hL => lc_same wk hG (by omega) (Same.refl _) hL (fun i => .bl (rowD (ds.getD i .none))) (fun _ => rfl) ?_ ?_)
          · intro i x H2 C hx s2 k
            obtain ⟨di, hdi, hx2⟩ := hA.get hx
            have e : ds.getD i .none = di := by rw [List.getD_eq_getElem?_getD, hdi]; rfl
            rw [e] at k
            exact ⟨_, rfl, x, di, rfl, Dt.same s2 hx2, weight_seq hw es (List.mem_of_getElem? hdi), k⟩
          · intro H2 s2 hL2
            refine ⟨L, (List.range xs.length).map fun i => rowD (ds.getD i .none), rfl, .inl (.inl (by rw [hL2, List.map_map]; rfl)), _, rfl, ?_⟩
            have ea : ((List.range xs.length).map fun i => rowD (ds.getD i .none)).all id = ds.all rowD := by
              rw [hl]
              have : (List.range ds.length).map (fun i => rowD (ds.getD i .none)) = ds.map rowD := by
                apply List.ext_getElem?
                intro i
                rw [List.getElem?_map, List.getElem?_map]
                rcases Nat.lt_or_ge i ds.length with z | z
                · rw [List.getElem?_range z, List.getElem?_eq_getElem z]
                  simp [List.getD_eq_getElem?_getD, List.getElem?_eq_getElem z]
                · rw [List.getElem?_eq_none (by simpa using z), List.getElem?_eq_none z]
                  rfl
              rw [this, List.all_map]
              rfl
            rw [ea]
            cases al : ds.all rowD with
            | false =>
              rw [al] at q
              exact iteF (q _ (sT.trans s2))
            | true =>
              rw [al, Bool.true_and] at q
              have rows : ∀ (i : Nat) (x : V), xs[i]? = some x → ∃ (p : Addr) (z : Str) (b : PyData) (v : V), x = .ref p ∧ ds[i]? = some (.tuple [.str z, b]) ∧ SqT K H2 p [.str z, v] := by
                intro i x hx
                obtain ⟨di, hdi, hx2⟩ := hA.get hx
                obtain ⟨z, b, rfl, _, _⟩ := row_is (List.all_eq_true.mp al di (List.mem_of_getElem? hdi))
                obtain ⟨p, ys, rfl, hp, hy⟩ := (Dt.same s2 hx2).tup_inv
                cases hy with
                | cons y0 t => cases t with
                | cons y1 t => cases t with
                | nil =>
                  cases y0
                  exact ⟨p, z, b, _, rfl, hdi, hp⟩
              refine iteT (seq_it rfl (Sq.same s2 hS) fun J2 G2 wk2 hG2 D hD => ?_)
              have sD : ∀ o : HO, Same H2 (L2.upd H2 D o) := fun o => Same.new (Same.refl _) hD
              refine scK_it wk2 (fun i G' => ∃ S, (∀ k, S k = decide (∃ z ∈ (ds.take i).map nmOf, k = Sum.inr z)) ∧ G' = L2.upd H2 D (SetK P w D S (dc ((ds.take i).map nmOf).reverse))) ⟨_, fun k => by simp, rfl⟩ (fun i G' _ p => ?_) ?_ ?_
              · obtain ⟨S, _, rfl⟩ := p
                exact hG2 _ (sD _)
              · rintro i x G' G'' hi ⟨S, hSS, rfl⟩ ⟨rfl, hx⟩
                obtain ⟨p, z, b, v, rfl, hdi, hp⟩ := rows i x hx
                have et : (ds.take (i + 1)).map nmOf = (ds.take i).map nmOf ++ [z] := take_map nmOf hdi
                have dl := dc_le ((ds.take i).map nmOf).reverse
                rw [List.length_reverse, List.length_map, List.length_take] at dl
                refine ⟨rfl, yes (iteT ⟨_, rfl, p, _, _, .str z, rfl, rfl, SqT.same (sD _) hp, rfl, Sum.inr z, S, _, rfl, upd_same .., ?_, fun j => S j || decide (j = Sum.inr z), fun k => ?_, ?_⟩)⟩
                · have : (50 : Nat) < scanBound := by decide
                  omega
                · show (S k || decide (k = Sum.inr z)) = _
                  rw [hSS, et, Bool.eq_iff_iff]
                  simp only [Bool.or_eq_true, decide_eq_true_eq]
                  constructor
                  · rintro (⟨y, m, e⟩ | e)
                    · exact ⟨y, List.mem_append_left _ m, e⟩
                    · exact ⟨z, List.mem_append_right _ (by simp), e⟩
                  · rintro ⟨y, m, e⟩
                    rcases List.mem_append.mp m with m | m
                    · exact .inl ⟨y, m, e⟩
                    · rw [List.mem_singleton.mp m] at e
                      exact .inr e
                · rw [upd_upd, et, List.reverse_append]
                  show L2.upd H2 D (SetK P w D _ (if S (Sum.inr z) = true then _ else _)) = L2.upd H2 D (SetK P w D _ (if z ∈ ((ds.take i).map nmOf).reverse then _ else _))
                  have ez : S (Sum.inr z) = decide (z ∈ ((ds.take i).map nmOf).reverse) := by
                    rw [hSS]
                    congr 1
                    apply propext
                    constructor
                    · rintro ⟨y, m, e⟩
                      rw [Sum.inr.inj e]
                      exact List.mem_reverse.mpr m
                    · intro m
                      exact ⟨z, List.mem_reverse.mp m, rfl⟩
                  rw [ez]
                  by_cases m : z ∈ ((ds.take i).map nmOf).reverse
                  · rw [if_pos m, if_pos (decide_eq_true m)]; rfl
                  · rw [if_neg m, if_neg (by rw [decide_eq_false m]; decide)]; rfl
              · rintro G' ⟨S, _, rfl⟩
                have dl := dc_le ((ds.take xs.length).map nmOf).reverse
                rw [List.length_reverse, List.length_map, List.length_take] at dl
                refine ⟨D, S, _, rfl, upd_same .., ?_, _, rfl, _, _, rfl, (Sq.same (sD _) (Sq.same s2 hS)).len, rfl, ?_⟩
                · have : (2 : Nat) ^ 40 = 1099511627776 := by decide
                  omega
                · have ef : ds.take xs.length = ds := List.take_of_length_le (by omega)
                  rw [ef, eqV_int]
                  have e2 : decide (((dc (ds.map nmOf).reverse : Nat) : Int) = (xs.length : Nat)) = decide ((ds.map nmOf).Nodup) := by
                    congr 1
                    apply propext
                    have z := dc_nodup (ds.map nmOf).reverse
                    rw [List.length_reverse, List.length_map, nodup_rev] at z
                    rw [← z]
                    constructor
                    · intro e; omega
                    · intro e; omega
                  rw [e2]
                  exact q _ ((sT.trans s2).trans (sD _))
        · rw [decide_eq_false (show ¬ ((xs.length : Nat) : Int) ≤ 12 by omega)]
          rw [decide_eq_false h2] at q
          exact iteT (q _ sT)
      · rw [decide_eq_false (show ¬ (1 : Int) ≤ (xs.length : Nat) by omega)]
        rw [decide_eq_false h1] at q
        exact iteF ⟨_, rfl, iteT (q _ sT)⟩
end

end TS

namespace TS
open PySem PySem.Spec PyProof.Rows L2 TL

/-! ### Words -/
def wcls (K : PySem.W.Frag) : Addr := He.ga K "Words"
def rowOf : PyData → Str × Int
  | .tuple [.str z, .int p] => (z, p)
  | _ => ("", 0)
/-- the entries of by_name -/
structure WEnt (K : PySem.W.Frag) (G : Hp) (kvs : List (Key × V)) (rows : List (Str × Int)) : Prop where
  len : kvs.length = rows.length
  at_ : ∀ (i : Nat) (r : Str × Int), rows[i]? = some r → ∃ t, kvs[i]? = some (Sum.inr r.1, .ref t) ∧ SqT K G t [.int r.2, .int i]
theorem WEnt.same {K : PySem.W.Frag} {G G' : Hp} {kvs : List (Key × V)} {rows : List (Str × Int)} (h : WEnt K G kvs rows) (e : Same G G') : WEnt K G' kvs rows :=
  ⟨h.len, fun i r q => let ⟨t, a, b⟩ := h.at_ i r q; ⟨t, a, SqT.same e b⟩⟩
/-- the words at a -/
def WordsAt (K : PySem.W.Frag) (G : Hp) (a : Addr) (rows : List (Str × Int)) : Prop := ∃ dx D kvs, G a = some (.ins (wcls K) dx [("by_name", .ref D)]) ∧ G D = some (.dK kvs) ∧ WEnt K G kvs rows
theorem WordsAt.same {K : PySem.W.Frag} {G G' : Hp} {a : Addr} {rows : List (Str × Int)} (h : WordsAt K G a rows) (e : Same G G') : WordsAt K G' a rows :=
  let ⟨dx, D, kvs, x, y, z⟩ := h; ⟨dx, D, kvs, e _ _ x, e _ _ y, z.same e⟩
theorem valV_none {kvs : List (Key × V)} {k : Key} (h : ∀ kv ∈ kvs, kv.1 ≠ k) : valV kvs k = none := by
  unfold valV
  rw [List.find?_eq_none.mpr (fun kv m => by simpa using h kv m)]
  rfl
/-- a tuple stays where another thing is changed -/
theorem SqT.upd {K : PySem.W.Frag} {H : Hp} {a t : Addr} {xs : List V} {o o' : HO} (ha : H a = some o) (ho : ∀ l, o ≠ .tup l) (hf : ∀ b u, o ≠ .frz b u) (h : SqT K H t xs) : SqT K (L2.upd H a o') t xs := by
  rcases h with (h | ⟨q, h⟩) | h
  · refine .inl (.inl ?_)
    rw [upd_ne]
    · exact h
    · intro e
      rw [e, ha] at h
      exact ho _ (Option.some.inj h)
  · refine .inl (.inr ⟨q, ?_⟩)
    rw [upd_ne]
    · exact h
    · intro e
      rw [e, ha] at h
      exact hf _ _ (Option.some.inj h)
  · exact .inr h
def spWIni (K : PySem.W.Frag) : Sp := fun vs H Q E => ∃ (a dx : Addr) (x : V) (d : PyData), vs = [.ref a, x] ∧ H a = some (.ins (wcls K) dx []) ∧ Dt K H x d ∧ d.weight ≤ 100000 ∧ (∀ ds, seqD d = some ds → ds.length ≤ 1000) ∧
  (∀ ds, seqD d = some ds → rowsL ds = true → ∀ G, Fx a H G → WordsAt K G a (ds.map rowOf) → Q .non G) ∧
  (rowsD d = false → ∀ G e, Same H G → H e = none → G e = some (.xd [("found", x)]) → E (.ref (He.ga K "NoWords")) (some e) G)
def spWLen (K : PySem.W.Frag) : Sp := fun vs H Q _ => ∃ (a : Addr) (rows : List (Str × Int)), vs = [.ref a] ∧ WordsAt K H a rows ∧ Q (.int rows.length) H
section
variable {P : Program} {w : World} {K : PySem.W.Frag} {mg : Str → Option Value} {base : Heap}
theorem sc_NoWords___init__ : FnScope ["self", "found"] ["self", "found"] (defScope s_NoWords___init__) := ⟨rfl, rfl, rfl, by decide +kernel, rfl, by decide +kernel, by decide +kernel⟩
theorem ok_NoWords_ini (fam_TermError : FamV K (He.ga K "TermError")) (g_TermError : mg "TermError" = some (.ref (He.ga K "TermError"))) (x_NoWords : OwnV K (He.ga K "NoWords") "found") (D : DefM K (He.ma K (He.ga K "NoWords") "__init__") "__init__" "NoWords.__init__" s_NoWords___init__) :
    PromA CX0 P w K mg base 1 (He.ma K (He.ga K "NoWords") "__init__") ["self", "found"] (spIni (He.ga K "NoWords") "found") := by
  refine meth_mk D sc_NoWords___init__ (fun vs H Q E h => ?_) (fun _ _ _ _ _ _ us hl => match us, hl with | [_, _], _ => rfl) (fun cdv A outer s H vs Q E hr h => ?_)
  · obtain ⟨a, v, rfl, _⟩ := h
    rfl
  · obtain ⟨a, v, rfl, ha, q⟩ := h
    refine ⟨_, (pss_cons (ps_expr (pe_famInit fam_TermError rfl g_TermError (pa_cons (pv 0) (pa_cons pe_str pa_nil))))
      (pss_one (ps_ost (pv 0) (pv 1)))), ?_⟩
    exact ⟨_, rfl, a, _, _, rfl, by decide, x_NoWords.ox, ha, _, rfl, _, rfl, a, _, rfl, x_NoWords.ox, x_NoWords.no, .inl ⟨ha, fun dx h1 h2 => q dx h1 h2⟩⟩

theorem sc_Words___len__ : FnScope ["self"] ["self"] (defScope s_Words___len__) := ⟨rfl, rfl, rfl, by decide +kernel, rfl, by decide +kernel, by decide +kernel⟩

theorem ok_Words_len (bt : Bt mg) (cl : Cls K (wcls K)) (nb : NoAttr K (wcls K) "by_name") (D : DefM K (He.ma K (wcls K) "__len__") "__len__" "Words.__len__" s_Words___len__) : PromA CX0 P w K mg base 1 (He.ma K (wcls K) "__len__") ["self"] (spWLen K) := by
  refine meth_mk D sc_Words___len__ (fun vs H Q E h => ?_) (fun _ _ _ _ _ _ us hl => match us, hl with | [_], _ => rfl) (fun cdv A outer s H vs Q E hr h => ?_)
  · obtain ⟨a, rows, rfl, _⟩ := h
    rfl
  · obtain ⟨a, rows, rfl, ⟨dx, D, kvs, e1, e2, e3⟩, q⟩ := h
    refine ⟨_, (pss_one (ps_ret (pe_callB (id := "len") call_lenD (by rfl) bt.len_ (by decide +kernel) (pa_cons (pe_fld (pv 0) rfl) pa_nil)))), ?_⟩
    refine ⟨_, rfl, a, _, dx, _, _, rfl, e1, cl, nb, rfl, D, kvs, rfl, e2, ?_⟩
    rw [e3.len]
    exact q
theorem sc_Words___init__ : FnScope ["self", "rows", "at", "name", "places"] ["self", "rows"] (defScope s_Words___init__) := ⟨rfl, rfl, rfl, by decide +kernel, rfl, by decide +kernel, by decide +kernel⟩

theorem ok_Words_ini (bt : Bt mg) (cl : Cls K (wcls K)) (nb : NoAttr K (wcls K) "by_name") (p_are_rows : Prom P w K mg base 3 "are_rows" ["thing"] (spRows K)) (g_NoWords : mg "NoWords" = some (.ref (He.ga K "NoWords"))) (x_NoWords : OwnV K (He.ga K "NoWords") "found")
    (pi_NoWords : PromA CX0 P w K mg base 1 (He.ma K (He.ga K "NoWords") "__init__") ["self", "found"] (spIni (He.ga K "NoWords") "found"))
    (D : DefM K (He.ma K (wcls K) "__init__") "__init__" "Words.__init__" s_Words___init__) : PromA (L2.CX P w) P w K mg base 4 (He.ma K (wcls K) "__init__") ["self", "rows"] (spWIni K) := by
  refine methX_mk D sc_Words___init__ (fun vs H Q E h => ?_) (fun _ _ _ _ _ _ us hl => match us, hl with | [_, _], _ => rfl) (fun cdv A outer s H vs Q E hr h => ?_)
  · obtain ⟨a, dx, x, d, rfl, _⟩ := h
    rfl
  · obtain ⟨a, dx, x, d, rfl, ha, hd, hw, hn, q1, q2⟩ := h
    refine ⟨_, (pss_cons (ps_if (pt_not (pt_val (pe_pc p_are_rows (hr.mono (by decide)) rfl (pa_cons (pv 1) pa_nil)))) (pss_one (ps_raise1 x_NoWords pi_NoWords rfl takesF (hr.mono (by decide)) rfl g_NoWords (pv 1))) pss_nil)
      (pss_one (ps_fld (pv 0) (pe_dc (own := [("at", 2), ("name", 3), ("places", 4)]) rfl sc_Words___init__.nd (pi_either (pi_enumK (K := K) rfl rfl bt.enumerate_ (pa_cons (pv 1) pa_nil)) (pi_enumT (K := K) rfl rfl bt.enumerate_ (pa_cons (pv 1) pa_nil))) (blkOk_by (N := ["self", "rows", "at", "name", "places"]) (sc := defScope s_Words___init__) (by decide +kernel)) (fun _ _ _ _ _ => (pg_tupK (K := K) (n := 2) rfl rfl (pgs_cons (pg_name (i := 2) sc_Words___init__.nd rfl (Or.inl rfl)) (pgs_cons (pg_tupK (K := K) (n := 2) rfl rfl (pgs_cons (pg_name (i := 3) sc_Words___init__.nd rfl (Or.inl rfl)) (pgs_cons (pg_name (i := 4) sc_Words___init__.nd rfl (Or.inl rfl)) pgs_nil))) pgs_nil)))) (fun _ _ _ _ _ => pts_nil) (fun _ _ _ _ _ => (pv 3)) (fun _ _ _ _ _ => (pe_tup (pa_cons (pv 4) (pa_cons (pv 2) pa_nil))))) rfl))), ?_⟩
    refine ⟨_, rfl, x, d, rfl, hd, hw, hn, fun H1 s1 => ⟨_, rfl, ?_⟩⟩
    cases c : rowsD d with
    | false => exact iteT ⟨_, rfl, fun e he => q2 c _ e (s1.trans (Same.new (Same.refl _) he)) (s1.free he) (upd_same ..)⟩
    | true =>
      obtain ⟨ds, es, rl⟩ : ∃ ds, seqD d = some ds ∧ rowsL ds = true := by
        unfold rowsD at c
        split at c
        · rename_i ds e; exact ⟨ds, e, c⟩
        · cases c
      obtain ⟨b, xs, rfl, hS, hA⟩ := (Dt.same s1 hd).seq es
      have hl := hA.length
      obtain ⟨rl1, rl2⟩ := Bool.and_eq_true_iff.mp rl
      obtain ⟨al, nd⟩ := Bool.and_eq_true_iff.mp rl2
      have l12 : ds.length ≤ 12 := of_decide_eq_true (Bool.and_eq_true_iff.mp rl1).2
      have nd' := of_decide_eq_true nd
      refine iteF (enum_it rfl hS fun J G wk hG D hD => ?_)
      have sD : ∀ o : HO, Same H1 (L2.upd H1 D o) := fun o => Same.new (Same.refl _) hD
      refine dc_it wk (fun i G' => ∃ kvs, Same H1 G' ∧ G' D = some (.dK kvs) ∧ WEnt K G' kvs ((ds.take i).map rowOf)) ⟨[], sD _, upd_same .., ⟨by simp, fun i r e => by simp at e⟩⟩ (fun i G' _ p => hG G' p.choose_spec.1) ?_ ?_
      · rintro i v G1 G2 hi ⟨kvs, sG, eD, we⟩ ⟨T, y, x, rfl, hT, rfl, ey, hx⟩
        cases ey
        obtain ⟨di, hdi, hx2⟩ := hA.get hx
        obtain ⟨z, pb, rfl, _, hp⟩ := row_is (List.all_eq_true.mp al di (List.mem_of_getElem? hdi))
        obtain ⟨p, rfl⟩ : ∃ p, pb = .int p := by
          cases pb <;> first | exact ⟨_, rfl⟩ | cases hp
        have sT : Same G1 (L2.upd G1 T (.tup [.int (i : Nat), x])) := Same.new (Same.refl _) hT
        obtain ⟨r, ys, rfl, hr2, hy⟩ := (Dt.same (sG.trans sT) hx2).tup_inv
        cases hy with
        | cons y0 t => cases t with
        | cons y1 t => cases t with
        | nil =>
        cases y0
        cases y1
        refine ⟨T, _, rfl, .inl (.inl (upd_same ..)), rfl, _, _, rfl, _, _, rfl, r, _, rfl, hr2, rfl, _, _, rfl, _, _, rfl, rfl, rfl, rfl, yes (iteT ⟨_, rfl, _, rfl, _, rfl, (by show 2 ≤ sizeLine; decide), fun u hu => ?_⟩)⟩
        have sU : Same (L2.upd G1 T (.tup [.int (i : Nat), .ref r])) (L2.upd (L2.upd G1 T (.tup [.int (i : Nat), .ref r])) u (.tup [.int p, .int (i : Nat)])) := Same.new (Same.refl _) hu
        have sA := sT.trans sU
        refine ⟨kvs, Sum.inr z, rfl, sA _ _ eD, ?_, kvs ++ [(Sum.inr z, .ref u)], ?_, ?_, ?_⟩
        · rw [we.len, List.length_map, List.length_take]
          exact sz5' (by omega)
        · intro b o e
          rw [upd_ne (ne_of_none e hD)]
          exact sA _ _ (sG _ _ e)
        · rw [upd_same]
          congr 2
          refine putK_new _ (valV_none fun kv hkv e => ?_)
          obtain ⟨j, hj⟩ := List.mem_iff_getElem?.mp hkv
          have jl : j < i := by
            have := (List.getElem?_eq_some_iff.mp hj).1
            rw [we.len, List.length_map, List.length_take] at this
            omega
          have jd : j < ds.length := by omega
          obtain ⟨t, h1, _⟩ := we.at_ j (rowOf ds[j]) (by rw [List.getElem?_map, List.getElem?_take_of_lt jl, List.getElem?_eq_getElem jd]; rfl)
          rw [hj] at h1
          cases h1
          obtain ⟨z2, pb2, e2, _, hp2⟩ := row_is (List.all_eq_true.mp al ds[j] (List.getElem_mem jd))
          have en : (ds.map nmOf)[j]? = (ds.map nmOf)[i]? := by
            rw [List.getElem?_map, List.getElem?_map, hdi, List.getElem?_eq_getElem jd, e2]
            rw [e2] at e
            obtain ⟨p2, rfl⟩ : ∃ p, pb2 = .int p := by
              cases pb2 <;> first | exact ⟨_, rfl⟩ | cases hp2
            exact congrArg some (Sum.inr.inj e)
          have := (List.getElem?_inj (by rw [List.length_map]; exact jd) nd').mp en
          omega
        · have et : (ds.take (i + 1)).map rowOf = (ds.take i).map rowOf ++ [(z, p)] := take_map rowOf hdi
          have li : ((ds.take i).map rowOf).length = i := by
            rw [List.length_map, List.length_take]
            omega
          have ki : kvs.length = i := we.len.trans li
          refine ⟨by rw [et, List.length_append, List.length_append, we.len]; rfl, fun j rr e => ?_⟩
          rw [et] at e
          rcases Nat.lt_or_ge j i with jl | jl
          · rw [List.getElem?_append_left (by omega)] at e
            obtain ⟨t, h1, h2⟩ := we.at_ j rr e
            exact ⟨t, by rw [List.getElem?_append_left (by omega)]; exact h1, SqT.upd (sA _ _ eD) (fun _ => nofun) (fun _ _ => nofun) (SqT.same sA h2)⟩
          · rw [List.getElem?_append_right (by omega), li] at e
            obtain rfl : j = i := by
              rcases Nat.lt_or_ge i j with z1 | z1
              · rw [List.getElem?_eq_none (by simp; omega)] at e
                cases e
              · omega
            rw [Nat.sub_self] at e
            cases e
            refine ⟨u, by rw [List.getElem?_append_right (by omega), ki, Nat.sub_self]; rfl, SqT.upd (sA _ _ eD) (fun _ => nofun) (fun _ _ => nofun) (.inl (.inl (upd_same ..)))⟩
      · rintro G' ⟨kvs, sG, eD, we⟩
        rw [show ds.take xs.length = ds from List.take_of_length_le (by omega)] at we
        refine ⟨_, rfl, a, _, dx, _, rfl, sG _ _ (s1 _ _ ha), cl, nb, by decide, ?_⟩
        have na : a ≠ D := fun e => by rw [← e] at hD; rw [s1 _ _ ha] at hD; cases hD
        refine q1 ds es rl _ (Fx.of (s1.trans sG)).upd ⟨dx, D, kvs, upd_same .., (upd_ne (Ne.symm na)).trans eD, we.len, fun i r e => ?_⟩
        obtain ⟨t, h1, h2⟩ := we.at_ i r e
        exact ⟨t, h1, SqT.upd (sG _ _ (s1 _ _ ha)) (fun _ => nofun) (fun _ _ => nofun) h2⟩
end

end TS

namespace TS
open PySem PySem.Spec PyProof.Rows L2 TL

/-! ### names of words, drawn -/
def w12 : List Str := ["put", "take", "ask", "meets", "above", "rule", "shelf", "tree", "f", "g", "c", "n"]
def NamesOk (m : Nat) (ns : List Str) : Prop := ns.length = m ∧ (∀ z ∈ ns, nameS z = true) ∧ ns.Nodup
theorem range_take {α : Type} (f : Nat → α) {m n : Nat} (h : m ≤ n) : (List.range m).map f = ((List.range n).map f).take m := by
  rw [← List.map_take, List.take_range, Nat.min_eq_left h]
theorem nodup_take {α : Type} {l : List α} {m : Nat} (h : l.Nodup) : (l.take m).Nodup := h.sublist (List.take_sublist m l)
theorem nodup_of_map {α β : Type} (g : α → β) {l : List α} (h : (l.map g).Nodup) : l.Nodup := (List.pairwise_map.mp h).imp fun z e => z (congrArg g e)
theorem names0 {f m : Nat} (hf : f < 26) (hm : m ≤ 12) : NamesOk m ((List.range m).map fun k => w12.getD ((f + 5 * k) % 12) "") := by
  have a : ∀ f ∈ List.range 26, ((List.range 12).map fun k => (f + 5 * k) % 12).Nodup := by decide +kernel
  have w : ∀ z ∈ w12, nameS z = true := by decide +kernel
  have wn : w12.Nodup := by decide +kernel
  refine ⟨by simp, fun z hz => ?_, ?_⟩
  · obtain ⟨k, _, rfl⟩ := List.mem_map.mp hz
    have hk : (f + 5 * k) % 12 < w12.length := Nat.mod_lt _ (by decide)
    rw [List.getD_eq_getElem?_getD, List.getElem?_eq_getElem hk]
    exact w _ (List.getElem_mem hk)
  · have e : ((List.range m).map fun k => w12.getD ((f + 5 * k) % 12) "") = ((List.range m).map fun k => (f + 5 * k) % 12).map (fun j => w12.getD j "") := by rw [List.map_map]; rfl
    rw [e]
    have n1 : ((List.range m).map fun k => (f + 5 * k) % 12).Nodup := by
      rw [range_take _ hm]
      exact nodup_take (a f (List.mem_range.mpr hf))
    refine List.pairwise_map.mpr (n1.imp_of_mem fun {i j} hi hj ne e => ne ?_)
    obtain ⟨k1, _, rfl⟩ := List.mem_map.mp hi
    obtain ⟨k2, _, rfl⟩ := List.mem_map.mp hj
    have h1 : (f + 5 * k1) % 12 < w12.length := Nat.mod_lt _ (by decide)
    have h2 : (f + 5 * k2) % 12 < w12.length := Nat.mod_lt _ (by decide)
    rw [List.getD_eq_getElem?_getD, List.getD_eq_getElem?_getD, List.getElem?_eq_getElem h1, List.getElem?_eq_getElem h2] at e
    exact (List.getElem_inj wn).mp e
def Small (l : List Nat) : Prop := ∀ c ∈ l, 97 ≤ c ∧ c ≤ 122
theorem nameS_of {l : List Nat} (h : Small l) (h1 : 1 ≤ l.length) (h2 : l.length ≤ 8) : nameS ⟨l.toArray⟩ = true := by
  unfold nameS
  rw [len_tl, tl_mk, decide_eq_true h1, decide_eq_true h2]
  show smallS _ = true
  unfold smallS
  rw [List.all_eq_true]
  intro c hc
  have := h c hc
  rw [decide_eq_true this.1, decide_eq_true this.2]
  rfl
theorem names1 {st : List Nat} {f m : Nat} (hs : Small st) (h8 : st.length = 8) (hf : f < 26) (hm : m ≤ 8) : NamesOk m ((List.range m).map fun k => ⟨(st.take (1 + (f + 3 * k) % 8)).toArray⟩) := by
  have a : ∀ f ∈ List.range 26, ((List.range 8).map fun k => 1 + (f + 3 * k) % 8).Nodup := by decide +kernel
  refine ⟨by simp, fun z hz => ?_, nodup_of_map (fun z : Str => z.length) ?_⟩
  · obtain ⟨k, _, rfl⟩ := List.mem_map.mp hz
    exact nameS_of (fun c hc => hs c (List.mem_of_mem_take hc)) (by rw [List.length_take]; omega) (by rw [List.length_take]; omega)
  · rw [List.map_map]
    have e : ((List.range m).map ((fun z : Str => z.length) ∘ fun k => ⟨(st.take (1 + (f + 3 * k) % 8)).toArray⟩)) = (List.range m).map fun k => 1 + (f + 3 * k) % 8 := by
      refine List.map_congr_left fun k _ => ?_
      show Str.length _ = _
      rw [len_tl, tl_mk, List.length_take, h8]
      omega
    rw [e, range_take _ hm]
    exact nodup_take (a f (List.mem_range.mpr hf))
theorem names2 {st : List Nat} {f m at_ : Nat} (hs : Small st) (h8 : st.length = 8) (ha : at_ < 8) (hf : f < 26) (hm : m ≤ 12) :
    NamesOk m ((List.range m).map fun k => ⟨(st.take at_ ++ [97 + (f + 7 * k) % 26] ++ (st.drop at_).take (7 - (f + k) % 2 - at_)).toArray⟩) := by
  have a : ∀ f ∈ List.range 26, ((List.range 12).map fun k => 97 + (f + 7 * k) % 26).Nodup := by decide +kernel
  refine ⟨by simp, fun z hz => ?_, nodup_of_map (fun z : Str => (tl z).getD at_ 0) ?_⟩
  · obtain ⟨k, _, rfl⟩ := List.mem_map.mp hz
    refine nameS_of (fun c hc => ?_) (by simp; omega) (by simp only [List.length_append, List.length_take, List.length_drop, List.length_singleton]; omega)
    rcases List.mem_append.mp hc with hc | hc
    · rcases List.mem_append.mp hc with hc | hc
      · exact hs c (List.mem_of_mem_take hc)
      · rw [List.mem_singleton.mp hc]
        omega
    · exact hs c (List.mem_of_mem_drop (List.mem_of_mem_take hc))
  · rw [List.map_map]
    have e : ((List.range m).map ((fun z : Str => (tl z).getD at_ 0) ∘ fun k => ⟨(st.take at_ ++ [97 + (f + 7 * k) % 26] ++ (st.drop at_).take (7 - (f + k) % 2 - at_)).toArray⟩)) = (List.range m).map fun k => 97 + (f + 7 * k) % 26 := by
      refine List.map_congr_left fun k _ => ?_
      show (tl _).getD at_ 0 = _
      have la : (st.take at_).length = at_ := by rw [List.length_take]; omega
      rw [tl_mk, List.append_assoc, List.getD_eq_getElem?_getD, List.getElem?_append_right (by omega), la, Nat.sub_self]
      rfl
    rw [e, range_take _ hm]
    exact nodup_take (a f (List.mem_range.mpr hf))
/-- a list of names that were drawn -/
def spNames : Sp := fun vs H Q _ => ∃ (b : Addr) (n m : Nat), vs = [.ref b, .int m] ∧ m ≤ 12 ∧ (∃ o, H b = some o ∧ Bag (n + 11) o) ∧
  ∀ H' p ns, Dr b n H H' → NamesOk m ns → p ≠ b → H' p = some (.lst (ns.map V.str)) → Q (.ref p) H'

end TS

namespace TS
open PySem PySem.Spec PyProof.Rows L2 TL

theorem strs_of : ∀ {xs : List V}, (∀ v ∈ xs, ∃ c : Nat, v = .str ⟨#[c]⟩ ∧ 97 ≤ c ∧ c ≤ 122) → ∃ st : List Nat, xs = (st.map fun c => V.str ⟨#[c]⟩) ∧ Small st
  | [], _ => ⟨[], rfl, fun c h => by simp at h⟩
  | x :: r, h => by
    obtain ⟨c, rfl, hc⟩ := h x (by simp)
    obtain ⟨st, rfl, hs⟩ := strs_of fun v hv => h v (List.mem_cons_of_mem _ hv)
    refine ⟨c :: st, rfl, fun d hd => ?_⟩
    rcases List.mem_cons.mp hd with e | m
    · rw [e]; exact hc
    · exact hs d m
theorem joinL_signs : ∀ st : List Nat, joinL [] (st.map fun c => [c]) = st
  | [] => rfl
  | [c] => rfl
  | c :: d :: r => by
    show [c] ++ ([] ++ joinL [] ((d :: r).map fun c => [c])) = _
    rw [joinL_signs (d :: r)]
    rfl
theorem join_signs (st : List Nat) : Txt.join "" (st.map fun c => (⟨#[c]⟩ : Str)) = ⟨st.toArray⟩ := by
  rw [join_eq]
  refine ext_tl ?_
  rw [tl_join, List.map_map]
  have e : tl ("" : Str) = [] := by decide +kernel
  rw [e]
  show joinL [] (st.map fun c => [c]) = _
  rw [joinL_signs]
theorem sum_len : ∀ {ws : List Str} {k : Nat}, (∀ z ∈ ws, z.length ≤ k) → (ws.map (·.length)).sum ≤ ws.length * k
  | [], _, _ => by simp
  | w :: r, k, h => by
    have ih := sum_len (ws := r) (k := k) fun z hz => h z (List.mem_cons_of_mem _ hz)
    have := h w (by simp)
    simp only [List.map_cons, List.sum_cons, List.length_cons, Nat.succ_mul]
    omega
theorem andR {b : Bool} {R T : Prop} (h : R) (k : b = true → R → T) : if b = true then T else R := by
  cases b
  · exact iteF h
  · exact iteT (k rfl h)
theorem cut_to {l : List Nat} {k : Nat} (h : k ≤ l.length) : cutS ⟨l.toArray⟩ none (some (k : Int)) = ⟨(l.take k).toArray⟩ := by
  unfold cutS
  have e : (⟨l.toArray⟩ : Str).length = l.length := by rw [len_tl, tl_mk]
  rw [e, HT.sIx_none, HT.sIx_nat, Nat.min_eq_left h, Nat.sub_zero, List.drop_zero]
theorem cut_in {l : List Nat} {j k : Nat} (hj : j ≤ l.length) (hk : k ≤ l.length) : cutS ⟨l.toArray⟩ (some (j : Int)) (some (k : Int)) = ⟨((l.drop j).take (k - j)).toArray⟩ := by
  unfold cutS
  have e : (⟨l.toArray⟩ : Str).length = l.length := by rw [len_tl, tl_mk]
  rw [e, HT.sIx_nat, HT.sIx_nat, Nat.min_eq_left hj, Nat.min_eq_left hk]
theorem str_add (l k : List Nat) : (⟨l.toArray⟩ : Str) ++ (⟨k.toArray⟩ : Str) = ⟨(l ++ k).toArray⟩ := by
  refine ext_tl ?_
  rw [tl_append, tl_mk, tl_mk, tl_mk]
section
variable {P : Program} {w : World} {K : PySem.W.Frag} {mg : Str → Option Value} {base : Heap}
theorem sc__law_names : FnScope ["_law_box_here", "_law_many", "_law_letters_here", "_law_known", "_law_way", "_law_first", "_law_stem", "_law_at_here", "_law_found", "_law_k", "_law_sign"] ["_law_box_here", "_law_many"] (defScope s__law_names) := ⟨rfl, rfl, rfl, by decide +kernel, rfl, by decide +kernel, by decide +kernel⟩

set_option maxHeartbeats 1000000 in
theorem ok_names (bt : Bt mg) (p__law_take : Prom P w K mg base 1 "_law_take" ["_law_box_here", "_law_many"] spTake) (D : Def K mg "_law_names" s__law_names) : Prom P w K mg base 2 "_law_names" ["_law_box_here", "_law_many"] spNames := by
  refine prom_mk D sc__law_names (fun vs H Q E h => ?_) (fun _ _ _ _ _ _ us hl => match us, hl with | [_, _], _ => rfl) (fun f cdv A outer s H vs Q E hr h => ?_)
  · obtain ⟨b, n, m, rfl, _⟩ := h
    rfl
  · obtain ⟨b, n, m, rfl, hm, hb, q⟩ := h
    refine ⟨_, (pss_cons (ps_set (i := 2) sc__law_names.nd rfl (Or.inr rfl) pe_str)
      (pss_cons (ps_set (i := 3) sc__law_names.nd rfl (Or.inr rfl) (pe_split pe_str pe_str))
      (pss_cons (ps_set (i := 4) sc__law_names.nd rfl (Or.inl rfl) (pe_pc p__law_take (hr.mono (by decide)) rfl (pa_cons (pv 0) (pa_cons pe_int pa_nil))))
      (pss_cons (ps_set (i := 5) sc__law_names.nd rfl (Or.inr rfl) (pe_pc p__law_take (hr.mono (by decide)) rfl (pa_cons (pv 0) (pa_cons pe_int pa_nil))))
      (pss_cons (ps_if (pt_cmpR op_eq (pv 4) pe_int (nomark _)) (pss_one (ps_ret (pe_lc (own := [("_law_k", 9)]) (g := gName 9) rfl sc__law_names.nd (pi_range1 rfl bt.range_ (pa_cons (pv 1) pa_nil)) (blkOk_by (N := ["_law_box_here", "_law_many", "_law_letters_here", "_law_known", "_law_way", "_law_first", "_law_stem", "_law_at_here", "_law_found", "_law_k", "_law_sign"]) (sc := defScope s__law_names) (by decide +kernel)) (fun _ _ _ _ _ => (pg_name (i := 9) sc__law_names.nd rfl (Or.inl rfl))) (fun _ _ _ _ _ => pts_nil) (fun _ _ _ _ _ => (pe_ix (ix_listK (K := K)) (pv 3) (pe_op op_mod (pe_op op_add (pv 5) (pe_op op_mul pe_int (pv 9))) pe_int) (fun _ _ => rfl)))))) pss_nil)
      (pss_cons (ps_set (i := 6) sc__law_names.nd rfl (Or.inr rfl) (pe_joinK (K := K) rfl pe_str (pe_lc (own := [("_law_k", 9)]) (g := gName 9) rfl sc__law_names.nd (pi_range1 rfl bt.range_ (pa_cons pe_int pa_nil)) (blkOk_by (N := ["_law_box_here", "_law_many", "_law_letters_here", "_law_known", "_law_way", "_law_first", "_law_stem", "_law_at_here", "_law_found", "_law_k", "_law_sign"]) (sc := defScope s__law_names) (by decide +kernel)) (fun _ _ _ _ _ => (pg_name (i := 9) sc__law_names.nd rfl (Or.inl rfl))) (fun _ _ _ _ _ => pts_nil) (fun _ _ _ _ _ => (pe_ix ix_str (pv 2) (pe_pc p__law_take (hr.mono (by decide)) rfl (pa_cons (pv 0) (pa_cons pe_int pa_nil))) (fun _ _ => rfl))))))
      (pss_cons (ps_if (PW.pt (pw_and (pt_cmpR op_eq (pv 4) pe_int (nomark _)) (pw_and1 (pt_cmpR op_lt (pv 1) pe_int (nomark _))))) (pss_one (ps_ret (pe_lc (own := [("_law_k", 9)]) (g := gName 9) rfl sc__law_names.nd (pi_range1 rfl bt.range_ (pa_cons (pv 1) pa_nil)) (blkOk_by (N := ["_law_box_here", "_law_many", "_law_letters_here", "_law_known", "_law_way", "_law_first", "_law_stem", "_law_at_here", "_law_found", "_law_k", "_law_sign"]) (sc := defScope s__law_names) (by decide +kernel)) (fun _ _ _ _ _ => (pg_name (i := 9) sc__law_names.nd rfl (Or.inl rfl))) (fun _ _ _ _ _ => pts_nil) (fun _ _ _ _ _ => (pe_slice sl_str (pv 6) po_none (po_some (pe_op op_add pe_int (pe_op op_mod (pe_op op_add (pv 5) (pe_op op_mul pe_int (pv 9))) pe_int)))))))) pss_nil)
      (pss_cons (ps_set (i := 7) sc__law_names.nd rfl (Or.inl rfl) (pe_pc p__law_take (hr.mono (by decide)) rfl (pa_cons (pv 0) (pa_cons pe_int pa_nil))))
      (pss_cons (ps_set (i := 8) sc__law_names.nd rfl (Or.inl rfl) (pe_lst pa_nil))
      (pss_cons (ps_for PassesOwn.never rfl (pi_range1 rfl bt.range_ (pa_cons (pv 1) pa_nil)) (pg_name (i := 9) sc__law_names.nd rfl (Or.inl rfl)) (pss_cons (ps_set (i := 10) sc__law_names.nd rfl (Or.inl rfl) (pe_ix ix_str (pv 2) (pe_op op_mod (pe_op op_add (pv 5) (pe_op op_mul pe_int (pv 9))) pe_int) (fun _ _ => rfl)))
      (pss_one (ps_expr (pe_appendK (K := K) rfl (pv 8) (pe_op op_add_str (pe_op op_add_str (pe_slice sl_str (pv 6) po_none (po_some (pv 7))) (pv 10)) (pe_slice sl_str (pv 6) (po_some (pv 7)) (po_some (pe_op op_sub pe_int (pe_op op_mod (pe_op op_add (pv 5) (pv 9)) pe_int))))))))))
      (pss_one (ps_ret (pv 8))))))))))))), ?_⟩
    refine ⟨⟨_, rfl⟩, _, _, rfl, rfl, by decide +kernel, by decide +kernel, fun W hW => ?_⟩
    have ew : Txt.split "put take ask meets above rule shelf tree f g c n" " " = w12 := by decide +kernel
    rw [ew]
    have d0 : Dr b (n + 11) H (L2.upd H W (.lst (w12.map V.str))) := (Dr.refl hb).new hW
    have nW := (Dr.refl hb).ne hW
    have eW : (L2.upd H W (.lst (w12.map V.str))) W = some (.lst (w12.map V.str)) := upd_same ..
    generalize L2.upd H W (.lst (w12.map V.str)) = H0 at d0 eW ⊢
    refine ⟨_, rfl, b, _, n + 10, 4, rfl, d0.bag.choose_spec.1, d0.bag.choose_spec.2, by decide, by decide +kernel, fun wy o1 w0 w1 g1 => ?_⟩
    have d1 := Dr.draw (H := H0) (b := b) g1
    generalize L2.upd H0 b o1 = H1 at d1 ⊢
    refine ⟨_, rfl, b, _, n + 9, 26, rfl, d1.bag.choose_spec.1, d1.bag.choose_spec.2, by decide, by decide +kernel, fun fi o2 f0 f1 g2 => ?_⟩
    have d2 := Dr.draw (H := H1) (b := b) g2
    generalize L2.upd H1 b o2 = H2 at d2 ⊢
    obtain ⟨fn, rfl⟩ : ∃ k : Nat, fi = k := ⟨fi.toNat, by omega⟩
    have hfn : fn < 26 := by omega
    have D2 := d0.trans (d1.trans d2)
    have eW2 := (d1.trans d2).at nW eW
    refine ⟨_, rfl, rfl, _, rfl, ite2 (fun c => ?_) (fun c => ?_)⟩
    · refine ⟨_, rfl, _, rfl, by omega, by omega, fun L hL => ?_⟩
      refine lc_sameF walk_range (fun _ _ => trivial) (by omega) hL (fun k => .str (w12.getD ((fn + 5 * k) % 12) "")) (fun _ => rfl) (fun i H3 C hi s3 k => ?_) (fun H3 s3 e3 => ?_)
      · have hk : (fn + 5 * i) % 12 < w12.length := Nat.mod_lt _ (by decide)
        refine ⟨_, rfl, _, rfl, _, rfl, _, _, rfl, rfl, .inl ⟨by decide, by decide⟩, _, _, rfl, rfl, _, _, rfl, rfl, (by show (0 : Int) < 12; decide), W, _, _, _, rfl, rfl, .inl (.inl (s3 _ _ eW2)), ?_, k _ (Same.refl _)⟩
        rw [show ((fn : Int) + 5 * (0 + (i : Int))) % 12 = (((fn + 5 * i) % 12 : Nat) : Int) by omega]
        refine atI_nat ?_
        rw [List.getElem?_map, List.getD_eq_getElem?_getD, List.getElem?_eq_getElem hk]
        rfl
      · rw [Int.toNat_natCast] at e3
        refine q H3 L ((List.range m).map fun k => w12.getD ((fn + 5 * k) % 12) "") ((D2.trans (Dr.same s3 D2.bag)).mono (by omega)) (names0 hfn hm) (D2.ne hL) ?_
        rw [e3, List.map_map]
        rfl
    · refine ⟨⟨_, rfl⟩, _, rfl, by decide, by decide, fun L hL => ?_⟩
      refine lc_draw (k := 1) (N := n + 1) walk_range (fun _ _ v => ∃ c : Nat, v = .str ⟨#[c]⟩ ∧ 97 ≤ c ∧ c ≤ 122) (fun _ _ _ _ _ h => h) (fun _ _ => trivial) (by decide) hL D2.bag (fun _ => rfl) (fun i k H3 C hi fx hb3 hD3 kk => ?_) (fun H3 xs d3 hl hx e3 neL => ?_)
      · refine ⟨_, rfl, _, rfl, b, _, k, 26, rfl, hb3.choose_spec.1, hb3.choose_spec.2, by decide, by decide +kernel, fun c o3 c0 c1 g3 => ?_⟩
        have d3 := Dr.draw (H := H3) (b := b) g3
        generalize L2.upd H3 b o3 = H4 at d3 ⊢
        have cc : (SMALLs.cps.toList)[c.toNat]? = some (97 + c.toNat) := (by decide +kernel : ∀ j ∈ List.range 26, (SMALLs.cps.toList)[j]? = some (97 + j)) _ (List.mem_range.mpr (by omega))
        have at_ := atI_nat cc
        rw [show ((c.toNat : Nat) : Int) = c by omega] at at_
        exact ⟨_, _, _, rfl, rfl, by decide +kernel, at_, kk _ H4 ⟨_, rfl, by omega, by omega⟩ d3⟩
      · have stx : ∃ st : List Nat, xs = (st.map fun c => V.str ⟨#[c]⟩) ∧ Small st := by
          refine strs_of fun v hv => ?_
          obtain ⟨i, hi⟩ := List.mem_iff_getElem?.mp hv
          obtain ⟨c, e, h⟩ := hx i v hi
          exact ⟨c, e, h⟩
        obtain ⟨st, rfl, hst⟩ := stx
        have h8 : st.length = 8 := by rw [List.length_map] at hl; exact hl
        have ej : Txt.join "" (st.map fun c => (⟨#[c]⟩ : Str)) = ⟨st.toArray⟩ := join_signs st
        refine ⟨_, L, st.map fun c => ⟨#[c]⟩, rfl, rfl, .inl (.inl (.inl (by rw [e3, List.map_map]; rfl))), ?_, ?_⟩
        · have : ((st.map fun c => (⟨#[c]⟩ : Str)).map (·.length)).sum ≤ (st.map fun c => (⟨#[c]⟩ : Str)).length * 1 := sum_len fun z hz => by
            obtain ⟨c, _, rfl⟩ := List.mem_map.mp hz
            exact Nat.le_refl 1
          have e0 : ("" : Str).length = 0 := by decide +kernel
          rw [e0]
          rw [List.length_map] at this
          omega
        · rw [ej]
          have D3 := D2.trans d3
          by_cases hh : wy = 1 ∧ m < 9
          · refine ⟨_, rfl, rfl, _, rfl, iteT' (by rw [eqV_int]; exact decide_eq_true hh.1) ⟨_, rfl, _, _, rfl, rfl, _, rfl, iteT' (decide_eq_true (by omega)) ?_⟩⟩
            refine ⟨_, rfl, _, rfl, by omega, by omega, fun L2 hL2 => ?_⟩
            refine lc_sameF walk_range (fun _ _ => trivial) (by omega) hL2 (fun k => .str ⟨(st.take (1 + (fn + 3 * k) % 8)).toArray⟩) (fun _ => rfl) (fun i H4 C hi s4 k => ?_) (fun H4 s4 e4 => ?_)
            · refine ⟨_, rfl, _, rfl, _, rfl, _, _, rfl, rfl, .inl ⟨by decide, by decide⟩, _, _, rfl, rfl, _, _, rfl, rfl, (by show (0 : Int) < 8; decide), _, _, rfl, rfl, _, rfl, _, rfl, ?_, ?_⟩
              · rw [len_tl, tl_mk, h8]; decide
              · rw [show (1 : Int) + ((fn : Int) + 3 * (0 + (i : Int))) % 8 = ((1 + (fn + 3 * i) % 8 : Nat) : Int) by omega, cut_to (by rw [h8]; omega)]
                exact k _ (Same.refl _)
            · rw [Int.toNat_natCast] at e4
              refine q H4 L2 ((List.range m).map fun k => ⟨(st.take (1 + (fn + 3 * k) % 8)).toArray⟩) ((D3.trans (Dr.same s4 D3.bag)).mono (by omega)) (names1 hst h8 hfn (by omega)) (D3.ne hL2) ?_
              rw [e4, List.map_map]
              rfl
          · refine ⟨_, rfl, rfl, _, rfl, andR ?_ fun c1 r => ⟨_, rfl, _, _, rfl, rfl, _, rfl, iteF' (decide_eq_false fun z => hh ⟨?_, by omega⟩) r⟩⟩
            · refine ⟨_, rfl, b, _, n, 8, rfl, D3.bag.choose_spec.1, D3.bag.choose_spec.2, by decide, by decide +kernel, fun at_ o4 a0 a1 g4 => ?_⟩
              have d4 := Dr.draw (H := H3) (b := b) g4
              generalize L2.upd H3 b o4 = H4 at d4 ⊢
              obtain ⟨an, rfl⟩ : ∃ k : Nat, at_ = k := ⟨at_.toNat, by omega⟩
              have D4 := D3.trans d4
              refine ⟨(by show 0 ≤ sizeLine; decide), fun F hF => ?_⟩
              have nF := D4.ne hF
              refine ⟨_, rfl, _, rfl, by omega, by omega, for_it walk_range (fun i τ G => (∃ y1 y2, τ = [some (.ref b), some (.int m), some (.str SMALLs), some (.ref W), some (.int wy), some (.int fn), some (.str ⟨st.toArray⟩), some (.int an), some (.ref F), y1, y2]) ∧
                Dr b n H4 G ∧ G F = some (.lst ((List.range i).map fun k => V.str ⟨(st.take an ++ [97 + (fn + 7 * k) % 26] ++ (st.drop an).take (7 - (fn + k) % 2 - an)).toArray⟩))) ⟨⟨_, _, rfl⟩, .same (Same.new (Same.refl _) hF) d4.bag, upd_same ..⟩ (fun _ _ _ _ _ => trivial) ?_ ?_⟩
              · rintro i x τ G1 G2 hi ⟨⟨y1, y2, rfl⟩, dG, eF⟩ ⟨rfl, rfl⟩
                have cc : (SMALLs.cps.toList)[(fn + 7 * i) % 26]? = some (97 + (fn + 7 * i) % 26) := (by decide +kernel : ∀ j ∈ List.range 26, (SMALLs.cps.toList)[j]? = some (97 + j)) _ (List.mem_range.mpr (by omega))
                have at_ := atI_nat cc
                rw [show (((fn + 7 * i) % 26 : Nat) : Int) = ((fn : Int) + 7 * (0 + (i : Int))) % 26 by omega] at at_
                refine ⟨_, rfl, _, rfl, _, rfl, _, _, rfl, rfl, .inl ⟨by decide, by decide⟩, _, _, rfl, rfl, _, _, rfl, rfl, (by show (0 : Int) < 26; decide), _, _, _, rfl, rfl, by decide +kernel, at_, ?_⟩
                have l8 : (⟨st.toArray⟩ : Str).length = 8 := by rw [len_tl, tl_mk, h8]
                refine ⟨_, rfl, .inl ⟨rfl, _, .inl (.inl eF)⟩, _, rfl, _, rfl, _, rfl, _, rfl, (by rw [l8]; decide), _, rfl, _, _, rfl, rfl, ?_, _, rfl, _, rfl, _, rfl, _, rfl, _, rfl, _, _, rfl, rfl, _, _, rfl, rfl, (by show (0 : Int) < 2; decide), _, _, rfl, rfl, _, rfl, _, rfl, (by rw [l8]; decide), _, _, rfl, rfl, ?_, ?_⟩
                · rw [cut_to (by rw [h8]; omega), len_tl, tl_mk]
                  refine sz5 ?_
                  have : (⟨#[97 + (fn + 7 * i) % 26]⟩ : Str).length = 1 := rfl
                  rw [this, List.length_take]
                  omega
                · rw [cut_to (by rw [h8]; omega), show (7 : Int) - ((fn : Int) + (0 + (i : Int))) % 2 = ((7 - (fn + i) % 2 : Nat) : Int) by omega, cut_in (by rw [h8]; omega) (by rw [h8]; omega), show (⟨#[97 + (fn + 7 * i) % 26]⟩ : Str) = ⟨[97 + (fn + 7 * i) % 26].toArray⟩ from rfl, str_add, len_tl, len_tl, tl_mk, tl_mk]
                  refine sz5 ?_
                  simp only [List.length_append, List.length_take, List.length_drop, List.length_singleton]
                  omega
                · rw [cut_to (by rw [h8]; omega), show (7 : Int) - ((fn : Int) + (0 + (i : Int))) % 2 = ((7 - (fn + i) % 2 : Nat) : Int) by omega, cut_in (by rw [h8]; omega) (by rw [h8]; omega), show (⟨#[97 + (fn + 7 * i) % 26]⟩ : Str) = ⟨[97 + (fn + 7 * i) % 26].toArray⟩ from rfl, str_add, str_add]
                  refine ⟨F, _, _, rfl, rfl, eF, ?_, ⟨_, _, rfl⟩, ?_, ?_⟩
                  · rw [List.length_map, List.length_range]
                    exact sz5' (by omega)
                  · refine ⟨fun a o ha e => ?_, ?_⟩
                    · rw [upd_ne (ne_of_none e hF)]
                      exact dG.fx a o ha e
                    · obtain ⟨o, e, g⟩ := dG.bag
                      exact ⟨o, by rw [upd_ne nF.symm]; exact e, g⟩
                  · rw [upd_same, List.range_succ, List.map_append]
                    rfl
              · rintro τ G ⟨⟨y1, y2, rfl⟩, dG, eF⟩
                rw [Int.toNat_natCast] at eF
                refine ⟨_, rfl, q G F ((List.range m).map fun k => ⟨(st.take an ++ [97 + (fn + 7 * k) % 26] ++ (st.drop an).take (7 - (fn + k) % 2 - an)).toArray⟩) (D4.trans dG) (names2 hst h8 (by omega) hfn hm) nF ?_⟩
                rw [eF, List.map_map]
                rfl
            · rw [eqV_int] at c1
              exact of_decide_eq_true c1
end

end TS

namespace TS
open PySem PySem.Spec PyProof.Rows L2 TL

/-! ### rows, drawn -/
def rowPy (r : Str × Int) : PyData := .tuple [.str r.1, .int r.2]
structure RowsOk (rows : List (Str × Int)) : Prop where
  some_ : 1 ≤ rows.length
  few : rows.length ≤ 12
  names : ∀ r ∈ rows, nameS r.1 = true
  nd : (rows.map (·.1)).Nodup
  lo : ∀ r ∈ rows, 0 ≤ r.2
  hi : ∀ r ∈ rows, r.2 ≤ 4
/-- rows that were drawn -/
def spDRows (K : PySem.W.Frag) : Sp := fun vs H Q _ => ∃ (b : Addr) (n : Nat), vs = [.ref b] ∧ (∃ o, H b = some o ∧ Bag (n + 26) o) ∧
  ∀ H' p rows, Dr b n H H' → RowsOk rows → H p = none → Dt K (hide H' b) (.ref p) (.list (rows.map rowPy)) → Q (.ref p) H'
theorem rows_of {K : PySem.W.Frag} {G : Hp} : ∀ (ns : List Str) (xs : List V), xs.length = ns.length → (∀ (i : Nat) (v : V), xs[i]? = some v → ∃ p : Int, 0 ≤ p ∧ p ≤ 4 ∧ Dt K G v (rowPy (ns.getD i "", p))) →
    ∃ rows : List (Str × Int), rows.map (·.1) = ns ∧ (∀ r ∈ rows, 0 ≤ r.2 ∧ r.2 ≤ 4) ∧ DtAll K G xs (rows.map rowPy)
  | [], [], _, _ => ⟨[], rfl, fun r h => by simp at h, .nil⟩
  | z :: ns, x :: xs, hl, h => by
    obtain ⟨p, h0, h1, h2⟩ := h 0 x rfl
    obtain ⟨rows, e, a, d⟩ := rows_of (K := K) (G := G) ns xs (by simpa using hl) fun i v hv => h (i + 1) v (by simpa using hv)
    refine ⟨(z, p) :: rows, by rw [List.map_cons, e], fun r hr => ?_, .cons h2 d⟩
    rcases List.mem_cons.mp hr with e | m
    · rw [e]; exact ⟨h0, h1⟩
    · exact a r m
section
variable {P : Program} {w : World} {K : PySem.W.Frag} {mg : Str → Option Value} {base : Heap}
theorem sc__law_rows : FnScope ["_law_box_here", "_law_many", "_law_name"] ["_law_box_here"] (defScope s__law_rows) := ⟨rfl, rfl, rfl, by decide +kernel, rfl, by decide +kernel, by decide +kernel⟩

set_option maxHeartbeats 1000000 in
theorem ok_drows (bt : Bt mg) (p__law_take : Prom P w K mg base 1 "_law_take" ["_law_box_here", "_law_many"] spTake) (p__law_names : Prom P w K mg base 2 "_law_names" ["_law_box_here", "_law_many"] spNames) (D : Def K mg "_law_rows" s__law_rows) :
    Prom P w K mg base 3 "_law_rows" ["_law_box_here"] (spDRows K) := by
  refine prom_mk D sc__law_rows (fun vs H Q E h => ?_) (fun _ _ _ _ _ _ us hl => match us, hl with | [_], _ => rfl) (fun f cdv A outer s H vs Q E hr h => ?_)
  · obtain ⟨b, n, rfl, _⟩ := h
    rfl
  · obtain ⟨b, n, rfl, hb, q⟩ := h
    refine ⟨_, (pss_cons (ps_set (i := 1) sc__law_rows.nd rfl (Or.inl rfl) (pe_ix (ix_listK (K := K)) (pe_lst (pa_cons (pe_op op_add pe_int (pe_pc p__law_take (hr.mono (by decide)) rfl (pa_cons (pv 0) (pa_cons pe_int pa_nil)))) (pa_cons (pe_op op_add pe_int (pe_pc p__law_take (hr.mono (by decide)) rfl (pa_cons (pv 0) (pa_cons pe_int pa_nil)))) pa_nil))) (pe_pc p__law_take (hr.mono (by decide)) rfl (pa_cons (pv 0) (pa_cons pe_int pa_nil))) (fun _ _ => rfl)))
      (pss_one (ps_ret (pe_lc (own := [("_law_name", 2)]) (g := gName 2) rfl sc__law_rows.nd (pi_listK (K := K) rfl (pe_pc p__law_names (hr.mono (by decide)) rfl (pa_cons (pv 0) (pa_cons (pv 1) pa_nil)))) (blkOk_by (N := ["_law_box_here", "_law_many", "_law_name"]) (sc := defScope s__law_rows) (by decide +kernel)) (fun _ _ _ _ _ => (pg_name (i := 2) sc__law_rows.nd rfl (Or.inl rfl))) (fun _ _ _ _ _ => pts_nil) (fun _ _ _ _ _ => (pe_tup (pa_cons (pv 2) (pa_cons (pe_ix (ix_listK (K := K)) (pe_lst (pa_cons pe_int (pa_cons pe_int (pa_cons pe_int (pa_cons pe_int (pa_cons pe_int (pa_cons pe_int pa_nil))))))) (pe_pc p__law_take (hr.mono (by decide)) rfl (pa_cons (pv 0) (pa_cons pe_int pa_nil))) (fun _ _ => rfl)) pa_nil)))))))), ?_⟩
    refine ⟨_, rfl, b, _, n + 25, 4, rfl, hb.choose_spec.1, hb.choose_spec.2, by decide, by decide +kernel, fun x1 o1 l1 u1 g1 => ?_⟩
    have d1 := Dr.draw (H := H) (b := b) g1
    generalize L2.upd H b o1 = H1 at d1 ⊢
    refine ⟨_, _, rfl, rfl, _, rfl, b, _, n + 24, 12, rfl, d1.bag.choose_spec.1, d1.bag.choose_spec.2, by decide, by decide +kernel, fun x2 o2 l2 u2 g2 => ?_⟩
    have d2 := Dr.draw (H := H1) (b := b) g2
    generalize L2.upd H1 b o2 = H2 at d2 ⊢
    refine ⟨_, _, rfl, rfl, (by show 2 ≤ sizeLine; decide), fun L hL => ?_⟩
    have d3 : Dr b (n + 24) H2 (L2.upd H2 L (.lst [.int (1 + x1), .int (1 + x2)])) := (Dr.refl d2.bag).new hL
    have nL := d2.ne hL
    have eL : (L2.upd H2 L (.lst [.int (1 + x1), .int (1 + x2)])) L = some (.lst [.int (1 + x1), .int (1 + x2)]) := upd_same ..
    generalize L2.upd H2 L (.lst [.int (1 + x1), .int (1 + x2)]) = H3 at d3 eL ⊢
    refine ⟨_, rfl, b, _, n + 23, 2, rfl, d3.bag.choose_spec.1, d3.bag.choose_spec.2, by decide, by decide +kernel, fun x3 o3 l3 u3 g3 => ?_⟩
    have d4 := Dr.draw (H := H3) (b := b) g3
    generalize L2.upd H3 b o3 = H4 at d4 ⊢
    obtain ⟨mv, hmv, hmem⟩ := atI_in (xs := [V.int (1 + x1), .int (1 + x2)]) l3 u3
    obtain ⟨m, rfl, hm1, hm2⟩ : ∃ m : Nat, mv = .int m ∧ 1 ≤ m ∧ m ≤ 12 := by
      rcases List.mem_cons.mp hmem with rfl | hmem
      · exact ⟨(1 + x1).toNat, by rw [show (((1 + x1).toNat : Nat) : Int) = 1 + x1 by omega], by omega, by omega⟩
      · rw [List.mem_singleton.mp hmem]
        exact ⟨(1 + x2).toNat, by rw [show (((1 + x2).toNat : Nat) : Int) = 1 + x2 by omega], by omega, by omega⟩
    refine ⟨L, _, _, _, rfl, rfl, .inl (.inl (d4.at nL eL)), hmv, ?_⟩
    have D4 := d1.trans (d2.trans (d3.trans d4))
    refine ⟨_, rfl, _, rfl, b, n + 12, m, rfl, hm2, D4.bag, fun H5 p ns d5 hns np ep => ?_⟩
    have D5 := D4.trans d5
    refine ⟨p, rfl, ⟨_, .inl (.inl ep)⟩, fun R hR => ?_⟩
    have hl : (ns.map V.str).length = m := by rw [List.length_map]; exact hns.1
    refine lc_draw (k := 1) (N := n + 12 - m) (walk_at walk_list) (fun i G v => ∃ p : Int, 0 ≤ p ∧ p ≤ 4 ∧ Dt K G v (rowPy (ns.getD i "", p))) (fun i G G' v s h => let ⟨p, h0, h1, h2⟩ := h; ⟨p, h0, h1, Dt.same s h2⟩)
      (fun G fx => fx.sq np (.inl (.inl ep))) (by rw [hl]; omega) hR (by rw [hl, show n + 12 - m + 1 * m = n + 12 by omega]; exact D5.bag) (fun _ => rfl) (fun i k G C hi fx hb3 hD3 kk => ?_) (fun G xs dG hlx hx eR neR => ?_)
    · have hni : i < ns.length := by rw [List.length_map] at hl hi; omega
      have ei : (ns.map V.str).getD i .non = .str (ns.getD i "") := by
        rw [List.getD_eq_getElem?_getD, List.getD_eq_getElem?_getD, List.getElem?_map, List.getElem?_eq_getElem hni]
        rfl
      rw [ei]
      refine ⟨_, rfl, (by show 6 ≤ sizeLine; decide), fun pl hpl => ?_⟩
      have e1 : Dr b (k + 1) G (L2.upd G pl (.lst [.int 0, .int 1, .int 2, .int 2, .int 3, .int 4])) := (Dr.refl hb3).new hpl
      have npl := (Dr.refl hb3).ne hpl
      have epl : (L2.upd G pl (.lst [.int 0, .int 1, .int 2, .int 2, .int 3, .int 4])) pl = some (.lst [.int 0, .int 1, .int 2, .int 2, .int 3, .int 4]) := upd_same ..
      generalize L2.upd G pl (.lst [.int 0, .int 1, .int 2, .int 2, .int 3, .int 4]) = G1 at e1 epl ⊢
      refine ⟨_, rfl, b, _, k, 6, rfl, e1.bag.choose_spec.1, e1.bag.choose_spec.2, by decide, by decide +kernel, fun x o4 x0 x1 g4 => ?_⟩
      have e2 := Dr.draw (H := G1) (b := b) g4
      generalize L2.upd G1 b o4 = G2 at e2 ⊢
      obtain ⟨v, hv, hvm⟩ := atI_in (xs := [V.int 0, .int 1, .int 2, .int 2, .int 3, .int 4]) x0 x1
      obtain ⟨pp, rfl, p0, p4⟩ : ∃ pp : Int, v = .int pp ∧ 0 ≤ pp ∧ pp ≤ 4 := by
        simp only [List.mem_cons, List.not_mem_nil, or_false] at hvm
        rcases hvm with rfl | rfl | rfl | rfl | rfl | rfl <;> exact ⟨_, rfl, by decide, by decide⟩
      refine ⟨pl, _, _, _, rfl, rfl, .inl (.inl (e2.at npl epl)), hv, (by show 2 ≤ sizeLine; decide), fun t ht => ?_⟩
      have E2 := e1.trans e2
      refine kk _ _ ⟨pp, p0, p4, .tup (.inl (.inl (hide2_at (E2.ne ht) ?_ (upd_same ..)))) (.cons (.str _) (.cons (.int pp) .nil))⟩ (E2.new ht)
      obtain ⟨oR, eoR⟩ := hD3
      have neR : R ≠ b := D5.ne hR
      have := E2.at neR eoR
      exact fun z => by rw [z, this] at ht; cases ht
    · obtain ⟨rows, er, e1, e2⟩ := rows_of (K := K) (G := hide G b) ns xs (by rw [hlx, List.length_map]) fun i v hv => by
        obtain ⟨p, h0, h1, h2⟩ := hx i v hv
        exact ⟨p, h0, h1, Dt.same hide_same h2⟩
      have len : rows.length = m := by rw [← hns.1, ← er, List.length_map]
      refine q G R rows ((D5.trans dG).mono (by omega)) ⟨by omega, by omega, fun r hr => hns.2.1 _ (by rw [← er]; exact List.mem_map_of_mem hr), by rw [er]; exact hns.2.2, fun r hr => (e1 r hr).1, fun r hr => (e1 r hr).2⟩ (D5.free hR) (.lst (.inl (.inl ?_)) e2)
      rw [hide_ne neR]
      exact eR
end

end TS

namespace TS
open PySem PySem.Spec PyProof.Rows L2 TL

/-! ### numbers and letters -/
def digit (c : Nat) : Bool := decide (48 ≤ c) && decide (c ≤ 57)
theorem in_figures (c : Nat) : decide (c ∈ ("0123456789" : Str).cps.toList) = digit c := by
  have e : ("0123456789" : Str).cps.toList = (List.range 10).map (· + 48) := by decide +kernel
  rw [e]
  unfold digit
  by_cases h : 48 ≤ c ∧ c ≤ 57
  · rw [decide_eq_true h.1, decide_eq_true h.2]
    exact decide_eq_true (List.mem_map.mpr ⟨c - 48, List.mem_range.mpr (by omega), by omega⟩)
  · have n : c ∉ (List.range 10).map (· + 48) := fun m => by
      obtain ⟨k, hk, rfl⟩ := List.mem_map.mp m
      have := List.mem_range.mp hk
      omega
    rw [decide_eq_false n]
    by_cases h1 : 48 ≤ c
    · rw [decide_eq_true h1, decide_eq_false (fun h2 => h ⟨h1, h2⟩)]; rfl
    · rw [decide_eq_false h1]; rfl
/-- plainly written -/
def plainL (l : List Nat) : Bool := (decide (1 ≤ l.length) && decide (l.length ≤ 30)) && (l.all digit && !(decide (l.head? = some 48) && !decide (l = [48])))
def numR (lo hi : Int) : PyData → V
  | .str z => if plainL (tl z) && (decide (lo ≤ (NumText.digitsVal (tl z) : Nat)) && decide (((NumText.digitsVal (tl z) : Nat) : Int) ≤ hi)) then .int (NumText.digitsVal (tl z) : Nat) else .non
  | _ => .non
def spNumIn (K : PySem.W.Frag) : Sp := fun vs H Q _ => ∃ (x : V) (d : PyData) (lo hi : Int), vs = [x, .int lo, .int hi] ∧ Dt K H x d ∧ (∀ z, d = .str z → z.length ≤ 100000) ∧ ∀ H', Same H H' → Q (numR lo hi d) H'
section
variable {P : Program} {w : World} {K : PySem.W.Frag} {mg : Str → Option Value} {base : Heap}
theorem sc_number_in : FnScope ["thing", "low", "high", "number", "sign"] ["thing", "low", "high"] (defScope s_number_in) := ⟨rfl, rfl, rfl, by decide +kernel, rfl, by decide +kernel, by decide +kernel⟩

theorem ok_number_in (bt : Bt mg) (k_MOST_FIGURES : ∃ t, mg "MOST_FIGURES" = some (.int 30 t)) (k_FIGURES : ∃ t, mg "FIGURES" = some (.str "0123456789" t)) (D : DefK K mg "number_in" s_number_in [("low", .int 0), ("high", .int 9999)]) :
    PromK P w K mg base 1 "number_in" ["thing", "low", "high"] (spNumIn K) 1 ["high"] (fun vs zs => vs ++ ([V.int 0] ++ zs)) := by
  obtain ⟨t_MOST_FIGURES, c_MOST_FIGURES⟩ := k_MOST_FIGURES
  obtain ⟨t_FIGURES, c_FIGURES⟩ := k_FIGURES
  refine promK_mk (n := 1) (ks := ["high"]) D sc_number_in (fun vs H Q E h => ?_) [("low", .int 0)] (fun us mv ws => us ++ (mv ++ ws)) (by decide) (fun q hq => by rw [List.mem_singleton.mp hq]; simp) (fun r1 r2 r3 => r1.append (r2.append r3))
    (fun D doc pm an cdv ct us mv ws l1 l2 l3 => ?_) (fun f cdv A outer s H vs Q E hr h => ?_)
  · obtain ⟨x, d, lo, hi, rfl, _⟩ := h
    rfl
  · match us, l1, mv, l2, ws, l3 with
    | [u], _, [m], _, [v], _ => exact ⟨_, _, _, _, _, _, rfl, rfl, rfl⟩
  · obtain ⟨x, d, lo, hi, rfl, hd, hz, q⟩ := h
    refine ⟨_, (pss_cons (ps_if (PW.pt (pw_or (pt_not (pt_val (pe_callB (id := "isinstance") (isiK (K := K)) (by rfl) bt.isinstance_ (by decide +kernel) (pa_cons (pv 0) (pa_cons (pe_bltn (v := .ty "str") rfl bt.str_ (by decide +kernel) rfl) pa_nil))))) (pw_or1 (pt_not (pt_chain op_le op_le pe_int (pe_callB (id := "len") (lenK (K := K)) (by rfl) bt.len_ (by decide +kernel) (pa_cons (pv 0) pa_nil)) (pe_glob (v := .int 30) rfl c_MOST_FIGURES ⟨_, rfl⟩)))))) (pss_one (ps_ret pe_non)) pss_nil)
      (pss_cons (ps_if (PW.pt (pw_or (pt_not (pt_val (pe_callB (id := "all") (allK (K := K) rfl) (by rfl) bt.all_ (by decide +kernel) (pa_cons (pe_lc (own := [("sign", 4)]) (g := gName 4) rfl sc_number_in.nd (pi_str (pv 0)) (blkOk_by (N := ["thing", "low", "high", "number", "sign"]) (sc := defScope s_number_in) (by decide +kernel)) (fun _ _ _ _ _ => (pg_name (i := 4) sc_number_in.nd rfl (Or.inl rfl))) (fun _ _ _ _ _ => pts_nil) (fun _ _ _ _ _ => (pe_cmpR op_in_sign (pv 4) (pe_glob (v := .str "0123456789") rfl c_FIGURES ⟨_, rfl⟩) rfl))) pa_nil)))) (pw_or1 (PW.pt (pw_and (pt_cmpR op_eq (pe_ix ix_str (pv 0) pe_int (fun _ _ => rfl)) pe_str (nomark _)) (pw_and1 (pt_cmpR op_ne (pv 0) pe_str (nomark _)))))))) (pss_one (ps_ret pe_non)) pss_nil)
      (pss_cons (ps_set (i := 3) sc_number_in.nd rfl (Or.inl rfl) (pe_callTy (T := "int") call_int_str (by rfl) bt.int_ (by decide +kernel) (pa_cons (pv 0) pa_nil)))
      (pss_one (ps_ret (pe_ifExp (pt_chain op_le op_le (pv 1) (pv 3) (pv 2)) (pv 3) pe_non)))))), ?_⟩
    refine ⟨_, rfl, _, _, _, _, isD "str" d, rfl, .ty "str", hd.ty, isi_str, _, rfl, ?_⟩
    cases c : isD "str" d with
    | false =>
      have e : numR lo hi d = .non := by
        cases d <;> first | rfl | (rw [isD_strs] at c; cases c)
      rw [e] at q
      exact iteT (iteT (q _ (Same.refl _)))
    | true =>
      obtain ⟨z, rfl⟩ := isD_str c
      cases hd
      have hz' := hz z rfl
      refine iteF ⟨_, rfl, _, _, rfl, ⟨sz5 hz', rfl⟩, _, _, rfl, rfl, _, rfl, ?_⟩
      have non : plainL (tl z) = false → ∀ G, Same H G → Q .non G := fun e G sG => by
        have e2 : numR lo hi (.str z) = .non := by
          show (if (plainL (tl z) && _) = true then _ else _) = _
          rw [e]
          rfl
        have := q G sG
        rw [e2] at this
        exact this
      have len0 : (tl z).length = z.length := (len_tl z).symm
      by_cases h1 : 1 ≤ z.length
      · rw [decide_eq_true (show (1 : Int) ≤ (z.length : Nat) by omega)]
        refine iteT ⟨_, _, rfl, rfl, _, rfl, ?_⟩
        by_cases h2 : z.length ≤ 30
        · rw [decide_eq_true (show ((z.length : Nat) : Int) ≤ 30 by omega)]
          refine iteF ⟨_, rfl, z, rfl, fun L hL => ?_⟩
          have sL : ∀ o : HO, Same H (L2.upd H L o) := fun o => Same.new (Same.refl _) hL
          refine lc_signs (fun c => V.bl (decide (c ∈ ("0123456789" : Str).cps.toList))) hz' (fun c G C qq => ⟨rfl, _, rfl, c, _, rfl, rfl, qq⟩) ?_ gName_mono
          refine ⟨L, (tl z).map fun c => decide (c ∈ ("0123456789" : Str).cps.toList), rfl, .inl (.inl (by rw [upd_same, List.map_map]; rfl)), _, rfl, ?_⟩
          have e : ((tl z).map fun c => decide (c ∈ ("0123456789" : Str).cps.toList)).all id = (tl z).all digit := by
            rw [List.all_map]
            congr 1
            funext c
            exact in_figures c
          rw [e]
          have sG := sL (.lst ((tl z).map fun c => V.bl (decide (c ∈ ("0123456789" : Str).cps.toList))))
          generalize L2.upd H L _ = G at sG ⊢
          obtain ⟨c0, r0, er⟩ : ∃ c r, tl z = c :: r := by
            cases ez : tl z with
            | nil => rw [ez] at len0; simp at len0; omega
            | cons c r => exact ⟨c, r, rfl⟩
          cases al : (tl z).all digit with
          | false =>
            refine iteT (iteT (non ?_ _ sG))
            unfold plainL
            rw [al, Bool.false_and, Bool.and_false]
          | true =>
            refine iteF ⟨_, rfl, z, _, c0, rfl, rfl, sz5 hz', atI_nat (j := 0) (by show (tl z)[0]? = _; rw [er]; rfl), rfl, _, rfl, ?_⟩
            have dc : decide (V.str ⟨#[c0]⟩ = V.str "0") = decide (c0 = 48) := by
              have h : ("0" : Str) = ⟨#[48]⟩ := by decide +kernel
              rw [h]
              simp
            have dz : decide (V.str z = V.str "0") = decide (tl z = [48]) := by
              have h : ("0" : Str) = ⟨#[48]⟩ := by decide +kernel
              rw [h]
              by_cases hh : tl z = [48]
              · rw [decide_eq_true hh]
                exact decide_eq_true (congrArg V.str (ext_tl hh))
              · rw [decide_eq_false hh]
                exact decide_eq_false fun x => hh (by rw [V.str.inj x])
            have go : plainL (tl z) = true → ∀ C : Prop, True := fun _ _ => trivial
            have pl : plainL (tl z) = !(decide (c0 = 48) && !decide (tl z = [48])) := by
              unfold plainL
              rw [al, len0, decide_eq_true h1, decide_eq_true h2, er]
              simp
            have ci : PySem.intText? z = some ((NumText.digitsVal (tl z) : Nat) : Int) := PySem.intText_digits (by
              intro c hc
              have := List.all_eq_true.mp al c hc
              unfold digit at this
              obtain ⟨x1, x2⟩ := Bool.and_eq_true_iff.mp this
              exact ⟨of_decide_eq_true x1, of_decide_eq_true x2⟩) (by show tl z ≠ []; rw [er]; simp) (by omega)
            rw [dc]
            by_cases h48 : c0 = 48
            · rw [decide_eq_true h48]
              refine iteT ⟨_, rfl, rfl, _, rfl, ?_⟩
              rw [dz]
              by_cases hz0 : tl z = [48]
              · rw [decide_eq_true hz0]
                refine iteF ?_
                have plt : plainL (tl z) = true := by
                  rw [pl]
                  rw [decide_eq_true h48, decide_eq_true hz0]; rfl
                refine ⟨_, rfl, z, _, rfl, ci, by omega, _, rfl, _, rfl, _, _, rfl, rfl, _, rfl, ?_⟩
                have qq : Q (if (decide (lo ≤ ((NumText.digitsVal (tl z) : Nat) : Int)) && decide (((NumText.digitsVal (tl z) : Nat) : Int) ≤ hi)) = true then .int (NumText.digitsVal (tl z) : Nat) else .non) G := by
                  have := q G sG
                  rw [show numR lo hi (.str z) = (if (plainL (tl z) && (decide (lo ≤ ((NumText.digitsVal (tl z) : Nat) : Int)) && decide (((NumText.digitsVal (tl z) : Nat) : Int) ≤ hi))) = true then .int (NumText.digitsVal (tl z) : Nat) else .non) from rfl, plt, Bool.true_and] at this
                  exact this
                by_cases hlo : lo ≤ ((NumText.digitsVal (tl z) : Nat) : Int)
                · rw [decide_eq_true hlo, Bool.true_and] at qq
                  refine iteT' (decide_eq_true hlo) ⟨_, rfl, _, _, rfl, rfl, _, rfl, ?_⟩
                  by_cases hhi : ((NumText.digitsVal (tl z) : Nat) : Int) ≤ hi
                  · rw [decide_eq_true hhi] at qq
                    exact iteT' (decide_eq_true hhi) ⟨_, rfl, qq⟩
                  · rw [decide_eq_false hhi] at qq
                    exact iteF' (decide_eq_false hhi) qq
                · rw [decide_eq_false hlo] at qq
                  exact iteF' (decide_eq_false hlo) ⟨_, rfl, iteF qq⟩
              · rw [decide_eq_false hz0]
                refine iteT (non ?_ _ sG)
                rw [pl, decide_eq_true h48, decide_eq_false hz0]
                rfl
            · rw [decide_eq_false h48]
              refine iteF (iteF ?_)
              have plt : plainL (tl z) = true := by
                rw [pl]
                rw [decide_eq_false h48]; rfl
              refine ⟨_, rfl, z, _, rfl, ci, by omega, _, rfl, _, rfl, _, _, rfl, rfl, _, rfl, ?_⟩
              have qq : Q (if (decide (lo ≤ ((NumText.digitsVal (tl z) : Nat) : Int)) && decide (((NumText.digitsVal (tl z) : Nat) : Int) ≤ hi)) = true then .int (NumText.digitsVal (tl z) : Nat) else .non) G := by
                have := q G sG
                rw [show numR lo hi (.str z) = (if (plainL (tl z) && (decide (lo ≤ ((NumText.digitsVal (tl z) : Nat) : Int)) && decide (((NumText.digitsVal (tl z) : Nat) : Int) ≤ hi))) = true then .int (NumText.digitsVal (tl z) : Nat) else .non) from rfl, plt, Bool.true_and] at this
                exact this
              by_cases hlo : lo ≤ ((NumText.digitsVal (tl z) : Nat) : Int)
              · rw [decide_eq_true hlo, Bool.true_and] at qq
                refine iteT' (decide_eq_true hlo) ⟨_, rfl, _, _, rfl, rfl, _, rfl, ?_⟩
                by_cases hhi : ((NumText.digitsVal (tl z) : Nat) : Int) ≤ hi
                · rw [decide_eq_true hhi] at qq
                  exact iteT' (decide_eq_true hhi) ⟨_, rfl, qq⟩
                · rw [decide_eq_false hhi] at qq
                  exact iteF' (decide_eq_false hhi) qq
              · rw [decide_eq_false hlo] at qq
                exact iteF' (decide_eq_false hlo) ⟨_, rfl, iteF qq⟩
        · rw [decide_eq_false (show ¬ ((z.length : Nat) : Int) ≤ 30 by omega)]
          refine iteT (non ?_ _ (Same.refl _))
          unfold plainL
          rw [len0, decide_eq_false h2, Bool.and_false, Bool.false_and]
      · rw [decide_eq_false (show ¬ (1 : Int) ≤ (z.length : Nat) by omega)]
        refine iteF ⟨_, rfl, iteT (non ?_ _ (Same.refl _))⟩
        unfold plainL
        rw [len0, decide_eq_false h1]
        rfl
def capL (c : Nat) : Bool := decide (65 ≤ c) && decide (c ≤ 90)
theorem in_caps (c : Nat) : decide (c ∈ ("ABCDEFGHIJKLMNOPQRSTUVWXYZ" : Str).cps.toList) = capL c := by
  have e : ("ABCDEFGHIJKLMNOPQRSTUVWXYZ" : Str).cps.toList = (List.range 26).map (· + 65) := by decide +kernel
  rw [e]
  unfold capL
  by_cases h : 65 ≤ c ∧ c ≤ 90
  · rw [decide_eq_true h.1, decide_eq_true h.2]
    exact decide_eq_true (List.mem_map.mpr ⟨c - 65, List.mem_range.mpr (by omega), by omega⟩)
  · have n : c ∉ (List.range 26).map (· + 65) := fun m => by
      obtain ⟨k, hk, rfl⟩ := List.mem_map.mp m
      have := List.mem_range.mp hk
      omega
    rw [decide_eq_false n]
    by_cases h1 : 65 ≤ c
    · rw [decide_eq_true h1, decide_eq_false (fun h2 => h ⟨h1, h2⟩)]; rfl
    · rw [decide_eq_false h1]; rfl
def letterL : List Nat → Bool
  | [] => false
  | c :: r => capL c && (decide (r = []) || (plainL r && decide (NumText.digitsVal r ≤ 99)))
def letterD : PyData → Bool
  | .str z => letterL (tl z)
  | _ => false
def spLetter (K : PySem.W.Frag) : Sp := fun vs H Q _ => ∃ (x : V) (d : PyData), vs = [x] ∧ Dt K H x d ∧ (∀ z, d = .str z → z.length ≤ 100000) ∧ ∀ H', Same H H' → Q (.bl (letterD d)) H'
theorem sc_is_letter : FnScope ["thing"] ["thing"] (defScope s_is_letter) := ⟨rfl, rfl, rfl, by decide +kernel, rfl, by decide +kernel, by decide +kernel⟩

theorem ok_is_letter (bt : Bt mg) (k_CAPITALS : ∃ t, mg "CAPITALS" = some (.str "ABCDEFGHIJKLMNOPQRSTUVWXYZ" t)) (k_LAST_LETTER : ∃ t, mg "LAST_LETTER" = some (.int 99 t)) (p_number_in : PromK P w K mg base 1 "number_in" ["thing", "low", "high"] (spNumIn K) 1 ["high"] (fun vs zs => vs ++ ([V.int 0] ++ zs))) (D : Def K mg "is_letter" s_is_letter) :
    Prom P w K mg base 2 "is_letter" ["thing"] (spLetter K) := by
  obtain ⟨t_CAPITALS, c_CAPITALS⟩ := k_CAPITALS
  obtain ⟨t_LAST_LETTER, c_LAST_LETTER⟩ := k_LAST_LETTER
  refine prom_mk D sc_is_letter (fun vs H Q E h => ?_) (fun _ _ _ _ _ _ us hl => match us, hl with | [_], _ => rfl) (fun f cdv A outer s H vs Q E hr h => ?_)
  · obtain ⟨x, d, rfl, _⟩ := h
    rfl
  · obtain ⟨x, d, rfl, hd, hz, q⟩ := h
    refine ⟨_, (pss_cons (ps_if (PW.pt (pw_or (pt_not (pt_val (pe_callB (id := "isinstance") (isiK (K := K)) (by rfl) bt.isinstance_ (by decide +kernel) (pa_cons (pv 0) (pa_cons (pe_bltn (v := .ty "str") rfl bt.str_ (by decide +kernel) rfl) pa_nil))))) (pw_or (pt_cmpR op_eq (pv 0) pe_str (nomark _)) (pw_or1 (pt_cmpR op_notIn_sign (pe_ix ix_str (pv 0) pe_int (fun _ _ => rfl)) (pe_glob (v := .str "ABCDEFGHIJKLMNOPQRSTUVWXYZ") rfl c_CAPITALS ⟨_, rfl⟩) rfl))))) (pss_one (ps_ret pe_bl)) pss_nil)
      (pss_one (ps_ret (pe_or (pe_cmpR op_eq (pe_callB (id := "len") (lenK (K := K)) (by rfl) bt.len_ (by decide +kernel) (pa_cons (pv 0) pa_nil)) pe_int (nomark _)) (pe_one (pe_cmpR op_notN (pe_pcK p_number_in (hr.mono (by decide)) rfl (pa_cons (pe_slice sl_str (pv 0) (po_some pe_int) po_none) pa_nil) (pk_cons (pe_glob (v := .int 99) rfl c_LAST_LETTER ⟨_, rfl⟩) pk_nil)) pe_non (nomark _))))))), ?_⟩
    refine ⟨_, rfl, _, _, _, _, isD "str" d, rfl, .ty "str", hd.ty, isi_str, _, rfl, ?_⟩
    cases c : isD "str" d with
    | false =>
      have e : letterD d = false := by
        cases d <;> first | rfl | (rw [isD_strs] at c; cases c)
      rw [e] at q
      exact iteT (iteT (q _ (Same.refl _)))
    | true =>
      obtain ⟨z, rfl⟩ := isD_str c
      cases hd
      have hz' := hz z rfl
      replace q : ∀ G, Same H G → Q (.bl (letterL (tl z))) G := q
      refine iteF ⟨_, rfl, rfl, _, rfl, ?_⟩
      have len0 : (tl z).length = z.length := (len_tl z).symm
      cases er : tl z with
      | nil =>
        have ez : z = "" := ext_tl (by rw [er]; decide +kernel)
        refine iteT' (by rw [ez]; simp) (iteT ?_)
        have := q H (Same.refl _)
        rw [er] at this
        exact this
      | cons c0 r0 =>
        have nz : ¬ V.str z = V.str "" := fun e => by
          rw [V.str.inj e] at er
          have : tl ("" : Str) = [] := by decide +kernel
          rw [this] at er
          cases er
        refine iteF' (decide_eq_false nz) ⟨_, rfl, z, _, c0, rfl, rfl, sz5 hz', atI_nat (j := 0) (by show (tl z)[0]? = _; rw [er]; rfl), c0, _, rfl, rfl, _, rfl, ?_⟩
        rw [in_caps]
        rw [er] at q
        replace q : ∀ G, Same H G → Q (.bl (capL c0 && (decide (r0 = []) || (plainL r0 && decide (NumText.digitsVal r0 ≤ 99))))) G := q
        cases hc : capL c0 with
        | false =>
          rw [hc] at q
          exact iteT (q _ (Same.refl _))
        | true =>
          rw [hc, Bool.true_and] at q
          refine iteF ⟨_, rfl, _, _, rfl, ⟨sz5 hz', rfl⟩, rfl, _, rfl, ?_⟩
          rw [eqV_int]
          have lz : z.length = r0.length + 1 := by rw [← len0, er]; rfl
          by_cases hr0 : r0 = []
          · rw [decide_eq_true hr0] at q
            refine iteT' (decide_eq_true (by rw [lz, hr0]; rfl)) ?_
            exact q _ (Same.refl _)
          · rw [decide_eq_false hr0, Bool.false_or] at q
            have hl : r0.length ≠ 0 := fun e => hr0 (List.length_eq_zero_iff.mp e)
            refine iteF' (decide_eq_false (by omega)) ?_
            have ec : cutS z (some 1) none = ⟨r0.toArray⟩ := by
              refine ext_tl ?_
              rw [tl_mk]
              show ((tl z).drop (HT.sIx z.length 0 (some ((1 : Nat) : Int)))).take (HT.sIx z.length z.length none - HT.sIx z.length 0 (some ((1 : Nat) : Int))) = r0
              rw [HT.sIx_nat, HT.sIx_none, Nat.min_eq_left (by omega), er]
              show r0.take (z.length - 1) = r0
              exact List.take_of_length_le (by omega)
            refine ⟨_, rfl, _, rfl, z, rfl, sz5 hz', rfl, rfl, _, .str (cutS z (some 1) none), 0, 99, rfl, .str _, fun y e => ?_, fun G sG => ⟨rfl, ?_⟩⟩
            · cases e
              rw [ec, len_tl, tl_mk]
              omega
            · rw [ec]
              have e2 : (!decide (numR 0 99 (.str ⟨r0.toArray⟩) = V.non)) = (plainL r0 && decide (NumText.digitsVal r0 ≤ 99)) := by
                show (!decide ((if (plainL (tl ⟨r0.toArray⟩) && (decide ((0 : Int) ≤ ((NumText.digitsVal (tl ⟨r0.toArray⟩) : Nat) : Int)) && decide (((NumText.digitsVal (tl ⟨r0.toArray⟩) : Nat) : Int) ≤ 99))) = true then V.int (NumText.digitsVal (tl ⟨r0.toArray⟩) : Nat) else V.non) = V.non)) = _
                rw [tl_mk, decide_eq_true (show (0 : Int) ≤ ((NumText.digitsVal r0 : Nat) : Int) by omega), Bool.true_and]
                have e3 : decide (((NumText.digitsVal r0 : Nat) : Int) ≤ 99) = decide (NumText.digitsVal r0 ≤ 99) := by
                  by_cases h : NumText.digitsVal r0 ≤ 99
                  · rw [decide_eq_true h, decide_eq_true (by omega)]
                  · rw [decide_eq_false h, decide_eq_false (by omega)]
                rw [e3]
                cases hp : (plainL r0 && decide (NumText.digitsVal r0 ≤ 99)) with
                | true => rw [if_pos rfl]; simp
                | false => rw [if_neg Bool.false_ne_true]; simp
              rw [e2]
              exact q G sG
end

end TS

namespace TS
open PySem PySem.Spec PyProof.Rows L2 TL

/-! ### Words: has, told_of, places -/
def hasR (rows : List (Str × Int)) : PyData → Bool
  | .str z => decide (z ∈ rows.map (·.1))
  | _ => false
def plR (rows : List (Str × Int)) (z : Str) : Int := ((rows.find? fun r => decide (r.1 = z)).map (·.2)).getD 0
def spHas (K : PySem.W.Frag) : Sp := fun vs H Q _ => ∃ (a : Addr) (rows : List (Str × Int)) (x : V) (d : PyData), vs = [.ref a, x] ∧ WordsAt K H a rows ∧ Dt K H x d ∧ Q (.bl (hasR rows d)) H
def spTold (K : PySem.W.Frag) : Sp := fun vs H Q _ => ∃ (a : Addr) (rows : List (Str × Int)) (z : Str), vs = [.ref a, .str z] ∧ WordsAt K H a rows ∧ z ∈ rows.map (·.1) ∧ ∀ (t : Addr) (i : Nat), SqT K H t [.int (plR rows z), .int i] → Q (.ref t) H
def spPlaces (K : PySem.W.Frag) : Sp := fun vs H Q _ => ∃ (a : Addr) (rows : List (Str × Int)) (z : Str), vs = [.ref a, .str z] ∧ WordsAt K H a rows ∧ z ∈ rows.map (·.1) ∧ Q (.int (plR rows z)) H
theorem went_none {K : PySem.W.Frag} {G : Hp} {kvs : List (Key × V)} {rows : List (Str × Int)} (h : WEnt K G kvs rows) {z : Str} (hz : z ∉ rows.map (·.1)) : valV kvs (Sum.inr z) = none :=
  valV_none fun kv m e => by
    obtain ⟨i, hi⟩ := List.mem_iff_getElem?.mp m
    have il : i < rows.length := by rw [← h.len]; exact (List.getElem?_eq_some_iff.mp hi).1
    obtain ⟨t, h1, _⟩ := h.at_ i rows[i] (List.getElem?_eq_getElem il)
    rw [hi] at h1
    cases h1
    exact hz (by rw [← Sum.inr.inj e]; exact List.mem_map_of_mem (List.getElem_mem il))
theorem went_some {K : PySem.W.Frag} {G : Hp} {kvs : List (Key × V)} {rows : List (Str × Int)} (h : WEnt K G kvs rows) {z : Str} (hz : z ∈ rows.map (·.1)) : ∃ (t : Addr) (i : Nat), valV kvs (Sum.inr z) = some (.ref t) ∧ SqT K G t [.int (plR rows z), .int i] := by
  obtain ⟨r0, hr0, e0⟩ := List.mem_map.mp hz
  cases hf : rows.find? fun r => decide (r.1 = z) with
  | none => exact absurd (List.find?_eq_none.mp hf r0 hr0) (by simp [e0])
  | some r =>
    obtain ⟨hp, i, il, ei, before⟩ := List.find?_eq_some_iff_getElem.mp hf
    obtain ⟨t, h1, h2⟩ := h.at_ i r (by rw [List.getElem?_eq_getElem il, ei])
    have ez : r.1 = z := of_decide_eq_true hp
    refine ⟨t, i, ?_, ?_⟩
    · unfold valV
      have kl : i < kvs.length := by rw [h.len]; exact il
      have hk : kvs.find? (fun kv => decide (kv.1 = (Sum.inr z : Key))) = some (Sum.inr r.1, .ref t) := by
        refine List.find?_eq_some_iff_getElem.mpr ⟨by rw [ez]; simp, i, kl, ?_, fun j hj => ?_⟩
        · rw [List.getElem?_eq_getElem kl] at h1
          exact Option.some.inj h1
        · have jl : j < rows.length := by omega
          obtain ⟨t2, h3, _⟩ := h.at_ j rows[j] (List.getElem?_eq_getElem jl)
          have jk : j < kvs.length := by rw [h.len]; exact jl
          rw [List.getElem?_eq_getElem jk] at h3
          rw [Option.some.inj h3]
          have := before j hj
          simp only [Bool.not_eq_true', decide_eq_false_iff_not] at this ⊢
          exact fun e => this (Sum.inr.inj e)
      rw [hk]
      rfl
    · have : plR rows z = r.2 := by unfold plR; rw [hf]; rfl
      rw [this]
      exact h2
section
variable {P : Program} {w : World} {K : PySem.W.Frag} {mg : Str → Option Value} {base : Heap}
theorem sc_Words_has : FnScope ["self", "thing"] ["self", "thing"] (defScope s_Words_has) := ⟨rfl, rfl, rfl, by decide +kernel, rfl, by decide +kernel, by decide +kernel⟩

theorem ok_Words_has (bt : Bt mg) (cl : Cls K (wcls K)) (nb : NoAttr K (wcls K) "by_name") (D : DefM K (He.ma K (wcls K) "has") "has" "Words.has" s_Words_has) : PromA CX0 P w K mg base 1 (He.ma K (wcls K) "has") ["self", "thing"] (spHas K) := by
  refine meth_mk D sc_Words_has (fun vs H Q E h => ?_) (fun _ _ _ _ _ _ us hl => match us, hl with | [_, _], _ => rfl) (fun cdv A outer s H vs Q E hr h => ?_)
  · obtain ⟨a, rows, x, d, rfl, _⟩ := h
    rfl
  · obtain ⟨a, rows, x, d, rfl, ⟨dx, D, kvs, e1, e2, e3⟩, hd, q⟩ := h
    refine ⟨_, (pss_one (ps_ret (pe_and (pe_callB (id := "isinstance") (isiK (K := K)) (by rfl) bt.isinstance_ (by decide +kernel) (pa_cons (pv 1) (pa_cons (pe_bltn (v := .ty "str") rfl bt.str_ (by decide +kernel) rfl) pa_nil))) (pe_one (pe_cmp (pc_din (units1 hr) (pv 1) (pe_fld (pv 0) rfl))))))), ?_⟩
    refine ⟨_, rfl, _, _, _, _, isD "str" d, rfl, .ty "str", hd.ty, isi_str, _, rfl, ?_⟩
    cases c : isD "str" d with
    | false =>
      have e : hasR rows d = false := by
        cases d <;> first | rfl | (rw [isD_strs] at c; cases c)
      rw [e] at q
      exact iteF q
    | true =>
      obtain ⟨z, rfl⟩ := isD_str c
      cases hd
      refine iteT ⟨_, rfl, _, rfl, a, _, dx, _, _, rfl, e1, cl, nb, rfl, D, _, rfl, DGet.k (k := Sum.inr z) e2, ?_⟩
      have e : (valV kvs (Sum.inr z)).isSome = hasR rows (.str z) := by
        show _ = decide (z ∈ rows.map (·.1))
        by_cases hz : z ∈ rows.map (·.1)
        · obtain ⟨t, i, h1, _⟩ := went_some e3 hz
          rw [h1, decide_eq_true hz]
          rfl
        · rw [went_none e3 hz, decide_eq_false hz]
          rfl
      rw [e]
      exact q
theorem sc_Words_told_of : FnScope ["self", "name"] ["self", "name"] (defScope s_Words_told_of) := ⟨rfl, rfl, rfl, by decide +kernel, rfl, by decide +kernel, by decide +kernel⟩

theorem ok_Words_told (bt : Bt mg) (cl : Cls K (wcls K)) (nb : NoAttr K (wcls K) "by_name") (D : DefM K (He.ma K (wcls K) "told_of") "told_of" "Words.told_of" s_Words_told_of) : PromA CX0 P w K mg base 1 (He.ma K (wcls K) "told_of") ["self", "name"] (spTold K) := by
  refine meth_mk D sc_Words_told_of (fun vs H Q E h => ?_) (fun _ _ _ _ _ _ us hl => match us, hl with | [_, _], _ => rfl) (fun cdv A outer s H vs Q E hr h => ?_)
  · obtain ⟨a, rows, z, rfl, _⟩ := h
    rfl
  · obtain ⟨a, rows, z, rfl, ⟨dx, D, kvs, e1, e2, e3⟩, hz, q⟩ := h
    obtain ⟨t, i, h1, h2⟩ := went_some e3 hz
    refine ⟨_, (pss_cons (ps_if (PW.pt (pw_or (pt_not (pt_val (pe_callB (id := "isinstance") (isiK (K := K)) (by rfl) bt.isinstance_ (by decide +kernel) (pa_cons (pv 1) (pa_cons (pe_bltn (v := .ty "str") rfl bt.str_ (by decide +kernel) rfl) pa_nil))))) (pw_or1 (pt_cmp (pc_dnotin (units1 hr) (pv 1) (pe_fld (pv 0) rfl)))))) (pss_one ps_never) pss_nil)
      (pss_one (ps_ret (pe_dget (units1 hr) (pe_fld (pv 0) rfl) (pv 1) (fun _ _ => rfl))))), ?_⟩
    refine ⟨_, rfl, _, _, _, _, true, rfl, .ty "str", .base (.str z), kit_ty (by decide +kernel), _, rfl, iteF ⟨_, rfl, _, rfl, a, _, dx, _, _, rfl, e1, cl, nb, rfl, D, _, rfl, DGet.k (k := Sum.inr z) e2, _, rfl, ?_⟩⟩
    rw [h1]
    exact iteF ⟨_, rfl, a, _, dx, _, _, rfl, e1, cl, nb, rfl, _, rfl, D, _, rfl, by rw [← h1]; exact DGet.k (k := Sum.inr z) e2, q t i h2⟩
theorem sc_Words_places : FnScope ["self", "name"] ["self", "name"] (defScope s_Words_places) := ⟨rfl, rfl, rfl, by decide +kernel, rfl, by decide +kernel, by decide +kernel⟩

theorem ok_Words_places (cl_Words : Cls K (wcls K)) (mm_Words_told_of : Meth K (wcls K) "told_of" (He.ma K (wcls K) "told_of")) (p_Words_told_of : PromA CX0 P w K mg base 1 (He.ma K (wcls K) "told_of") ["self", "name"] (spTold K))
    (D : DefM K (He.ma K (wcls K) "places") "places" "Words.places" s_Words_places) : PromA CX0 P w K mg base 2 (He.ma K (wcls K) "places") ["self", "name"] (spPlaces K) := by
  refine meth_mk D sc_Words_places (fun vs H Q E h => ?_) (fun _ _ _ _ _ _ us hl => match us, hl with | [_, _], _ => rfl) (fun cdv A outer s H vs Q E hr h => ?_)
  · obtain ⟨a, rows, z, rfl, _⟩ := h
    rfl
  · obtain ⟨a, rows, z, rfl, wa, hz, q⟩ := h
    obtain ⟨dx, D, kvs, e1, _, _⟩ := id wa
    refine ⟨_, (pss_one (ps_ret (pe_ix (ix_tupK (K := K)) (pe_pm cl_Words mm_Words_told_of p_Words_told_of (hr.mono (by decide)) (pv 0) (pa_cons (pv 1) pa_nil)) pe_int (fun _ _ => rfl)))), ?_⟩
    exact ⟨_, rfl, a, dx, _, rfl, e1, rfl, _, rfl, a, rows, z, rfl, wa, hz, fun t i h2 => ⟨t, _, _, _, rfl, rfl, h2, rfl, q⟩⟩
end

end TS

namespace TS
open PySem PySem.Spec PyProof.Rows L2 TL

/-! ### need_words, are_signs -/
def spNeed (K : PySem.W.Frag) : Sp := fun vs H Q E => ∃ x : V, vs = [x] ∧ ((∃ (a : Addr) (rows : List (Str × Int)), x = .ref a ∧ WordsAt K H a rows ∧ Q .non H) ∨
  ∃ d : PyData, Dt K H x d ∧ ∀ G e, Same H G → H e = none → G e = some (.xd [("found", x)]) → E (.ref (He.ga K "NoWords")) (some e) G)
def isStrD : PyData → Bool
  | .str _ => true
  | _ => false
theorem isStr_eq (d : PyData) : isD "str" d = isStrD d := by
  cases h : isD "str" d with
  | true => obtain ⟨z, rfl⟩ := isD_str h; rfl
  | false => cases d <;> first | rfl | (rw [isD_strs] at h; cases h)
def signsD (most : Int) (d : PyData) : Bool := match seqD d with
  | some ds => decide (1 ≤ ds.length) && decide ((ds.length : Int) ≤ most) && ds.all isStrD
  | none => false
def spAreSigns (K : PySem.W.Frag) : Sp := fun vs H Q _ => ∃ (x : V) (d : PyData) (most : Int), vs = [x, .int most] ∧ Dt K H x d ∧ (∀ ds, seqD d = some ds → ds.length ≤ 20000) ∧ ∀ H', Same H H' → Q (.bl (signsD most d)) H'
section
variable {P : Program} {w : World} {K : PySem.W.Frag} {mg : Str → Option Value} {base : Heap}
theorem sc_need_words : FnScope ["words"] ["words"] (defScope s_need_words) := ⟨rfl, rfl, rfl, by decide +kernel, rfl, by decide +kernel, by decide +kernel⟩

theorem ok_need_words (bt : Bt mg) (T : IsC K (wcls K)) (g_Words : mg "Words" = some (.ref (He.ga K "Words"))) (g_NoWords : mg "NoWords" = some (.ref (He.ga K "NoWords"))) (x_NoWords : OwnV K (He.ga K "NoWords") "found")
    (pi_NoWords : PromA CX0 P w K mg base 1 (He.ma K (He.ga K "NoWords") "__init__") ["self", "found"] (spIni (He.ga K "NoWords") "found"))
    (D : Def K mg "need_words" s_need_words) : PromX P w K mg base 3 "need_words" ["words"] (spNeed K) := by
  refine promX_mk D sc_need_words (fun vs H Q E h => ?_) (fun _ _ _ _ _ _ us hl => match us, hl with | [_], _ => rfl) (fun f cdv A outer s H vs Q E hr h => ?_)
  · obtain ⟨x, rfl, _⟩ := h
    rfl
  · obtain ⟨x, rfl, h⟩ := h
    refine ⟨_, (pss_one (ps_if (pt_not (pt_val (pe_callB (id := "isinstance") (isiK (K := K)) (by rfl) bt.isinstance_ (by decide +kernel) (pa_cons (pv 0) (pa_cons (pe_glob (v := .ref (He.ga K "Words")) rfl g_Words rfl) pa_nil))))) (pss_one (ps_raise1 x_NoWords pi_NoWords rfl takesF (hr.mono (by decide)) rfl g_NoWords (pv 0))) pss_nil)), ?_⟩
    rcases h with ⟨a, rows, rfl, ⟨dx, D, kvs, e1, _, _⟩, q⟩ | ⟨d, hd, q⟩
    · exact ⟨_, rfl, _, _, _, _, true, rfl, .own _, T.ty e1, T.yes, _, rfl, iteF q⟩
    · refine ⟨_, rfl, _, _, _, _, false, rfl, .own _, hd.ty, T.data d, _, rfl, iteT ⟨_, rfl, fun e he => ?_⟩⟩
      exact q _ e (Same.new (Same.refl _) he) he (upd_same ..)
theorem sc_are_signs : FnScope ["thing", "most", "sign"] ["thing", "most"] (defScope s_are_signs) := ⟨rfl, rfl, rfl, by decide +kernel, rfl, by decide +kernel, by decide +kernel⟩

theorem ok_are_signs (bt : Bt mg) (D : Def K mg "are_signs" s_are_signs) : Prom P w K mg base 1 "are_signs" ["thing", "most"] (spAreSigns K) := by
  refine prom_mk D sc_are_signs (fun vs H Q E h => ?_) (fun _ _ _ _ _ _ us hl => match us, hl with | [_, _], _ => rfl) (fun f cdv A outer s H vs Q E hr h => ?_)
  · obtain ⟨x, d, m, rfl, _⟩ := h
    rfl
  · obtain ⟨x, d, most, rfl, hd, hn, q⟩ := h
    refine ⟨_, (pss_cons (ps_if (PW.pt (pw_or (pt_not (pt_val (pe_callB (id := "isinstance") (isiTK (K := K)) (by rfl) bt.isinstance_ (by decide +kernel) (pa_cons (pv 0) (pa_cons (pe_tup (pa_cons (pe_bltn (v := .ty "list") rfl bt.list_ (by decide +kernel) rfl) (pa_cons (pe_bltn (v := .ty "tuple") rfl bt.tuple_ (by decide +kernel) rfl) pa_nil))) pa_nil))))) (pw_or1 (pt_not (pt_chain op_le op_le pe_int (pe_callB (id := "len") (lenK (K := K)) (by rfl) bt.len_ (by decide +kernel) (pa_cons (pv 0) pa_nil)) (pv 1)))))) (pss_one (ps_ret pe_bl)) pss_nil)
      (pss_one (ps_ret (pe_callB (id := "all") (allK (K := K) rfl) (by rfl) bt.all_ (by decide +kernel) (pa_cons (pe_lc (own := [("sign", 2)]) (g := gName 2) rfl sc_are_signs.nd (pi_either (pi_listK (K := K) rfl (pv 0)) (pi_tupK (K := K) rfl (pv 0))) (blkOk_by (N := ["thing", "most", "sign"]) (sc := defScope s_are_signs) (by decide +kernel)) (fun _ _ _ _ _ => (pg_name (i := 2) sc_are_signs.nd rfl (Or.inl rfl))) (fun _ _ _ _ _ => pts_nil) (fun _ _ _ _ _ => (pe_callB (id := "isinstance") (isiK (K := K)) (by rfl) bt.isinstance_ (by decide +kernel) (pa_cons (pv 2) (pa_cons (pe_bltn (v := .ty "str") rfl bt.str_ (by decide +kernel) rfl) pa_nil))))) pa_nil))))), ?_⟩
    refine ⟨_, rfl, (by show 2 ≤ sizeLine; decide), fun T hT => ⟨_, T, [.ty "list", .ty "tuple"], _, _, isD "list" d || isD "tuple" d, rfl, upd_same .., .cons (.ty "list") (.cons (.ty "tuple") .nil), (Dt.same (Same.new (Same.refl _) hT) hd).ty, isi_lt, _, rfl, ?_⟩⟩
    have sT : Same H (L2.upd H T (.tup [.ty "list", .ty "tuple"])) := Same.new (Same.refl _) hT
    generalize L2.upd H T (.tup [.ty "list", .ty "tuple"]) = H0 at sT ⊢
    unfold signsD at q
    cases c : (isD "list" d || isD "tuple" d) with
    | false =>
      rw [seq_nokind c] at q
      exact iteT (iteT (q _ sT))
    | true =>
      obtain ⟨ds, es⟩ := seq_kind c
      rw [es] at q
      obtain ⟨a, xs, rfl, hS, hA⟩ := (Dt.same sT hd).seq es
      have hl := hA.length
      replace q : ∀ G, Same H G → Q (.bl (decide (1 ≤ ds.length) && decide ((ds.length : Int) ≤ most) && ds.all isStrD)) G := q
      have h20 := hn ds es
      refine iteF ⟨_, rfl, _, _, rfl, hS.len, _, _, rfl, rfl, _, rfl, ?_⟩
      by_cases h1 : 1 ≤ ds.length
      · rw [decide_eq_true (show (1 : Int) ≤ (xs.length : Nat) by omega)]
        rw [decide_eq_true h1] at q
        refine iteT ⟨_, rfl, _, _, rfl, rfl, _, rfl, ?_⟩
        by_cases h2 : (ds.length : Int) ≤ most
        · rw [decide_eq_true (show ((xs.length : Nat) : Int) ≤ most by omega)]
          rw [decide_eq_true h2, Bool.and_true, Bool.true_and] at q
          refine iteF (seq_it rfl hS fun J G wk hG L hL => lc_same wk hG (by omega) (Same.refl _) hL (fun i => .bl (isStrD (ds.getD i .none))) (fun _ => rfl) ?_ ?_)
          · intro i x H2 C hx s2 k
            obtain ⟨di, hdi, hx2⟩ := hA.get hx
            have e : ds.getD i .none = di := by rw [List.getD_eq_getElem?_getD, hdi]; rfl
            rw [e, ← isStr_eq] at k
            exact ⟨_, rfl, _, _, _, _, isD "str" di, rfl, .ty "str", (Dt.same s2 hx2).ty, isi_str, k _ (Same.refl _)⟩
          · intro H2 s2 hL2
            refine ⟨L, (List.range xs.length).map fun i => isStrD (ds.getD i .none), rfl, .inl (.inl (by rw [hL2, List.map_map]; rfl)), ?_⟩
            have ea : ((List.range xs.length).map fun i => isStrD (ds.getD i .none)).all id = ds.all isStrD := by
              rw [hl]
              have : (List.range ds.length).map (fun i => isStrD (ds.getD i .none)) = ds.map isStrD := by
                apply List.ext_getElem?
                intro i
                rw [List.getElem?_map, List.getElem?_map]
                rcases Nat.lt_or_ge i ds.length with z | z
                · rw [List.getElem?_range z, List.getElem?_eq_getElem z]
                  simp [List.getD_eq_getElem?_getD, List.getElem?_eq_getElem z]
                · rw [List.getElem?_eq_none (by simpa using z), List.getElem?_eq_none z]
                  rfl
              rw [this, List.all_map]
              rfl
            rw [ea]
            exact q _ (sT.trans s2)
        · rw [decide_eq_false (show ¬ ((xs.length : Nat) : Int) ≤ most by omega)]
          rw [decide_eq_false h2] at q
          exact iteT (q _ sT)
      · rw [decide_eq_false (show ¬ (1 : Int) ≤ (xs.length : Nat) by omega)]
        rw [decide_eq_false h1] at q
        exact iteF ⟨_, rfl, iteT (q _ sT)⟩
end

end TS

namespace TS
open PySem PySem.Spec PyProof.Rows L2 TL

/-! ### places_of -/
def plS (rows : List (Str × Int)) (z : Str) : Option Nat := if letterL (tl z) then some 0 else if z ∈ rows.map (·.1) then some (plR rows z).toNat else none
inductive Out where
  | bad (i : Nat)
  | beyond (i : Nat)
  | unended (k : Nat)
  | ok
/-- what lacks behind the places, or where the first sign beyond the end stands -/
def scan : Nat → Nat → List Nat → Out
  | 0, _, [] => .ok
  | k + 1, _, [] => .unended (k + 1)
  | 0, i, _ :: _ => .beyond i
  | k + 1, i, p :: r => scan (k + p) (i + 1) r
def plN (rows : List (Str × Int)) (z : Str) : Nat := (plS rows z).getD 0
def outS (rows : List (Str × Int)) (zs : List Str) : Out := match zs.findIdx? (fun z => (plS rows z).isNone) with
  | some i => .bad i
  | none => scan 1 0 (zs.map (plN rows))
theorem scan_lacks {rows : List (Str × Int)} : ∀ (zs : List Str) (k i : Nat), (∀ z ∈ zs, (plS rows z).isSome = true) → scan k i (zs.map (plN rows)) = .ok → lacks (plS rows) k zs = some 0
  | [], 0, i, _, _ => rfl
  | [], k + 1, i, _, h => by cases h
  | z :: r, 0, i, _, h => by cases h
  | z :: r, k + 1, i, hz, h => by
    have h1 := hz z (by simp)
    cases hp : plS rows z with
    | none => rw [hp] at h1; cases h1
    | some p =>
      have e : plN rows z = p := by unfold plN; rw [hp]; rfl
      show (plS rows z).bind _ = _
      rw [hp]
      refine scan_lacks r (k + p) (i + 1) (fun y hy => hz y (List.mem_cons_of_mem _ hy)) ?_
      rw [List.map_cons] at h
      rw [← e]
      exact h
theorem out_lacks {rows : List (Str × Int)} {zs : List Str} (h : outS rows zs = .ok) : (∀ z ∈ zs, (plS rows z).isSome = true) ∧ lacks (plS rows) 1 zs = some 0 := by
  unfold outS at h
  split at h
  · cases h
  · rename_i e
    have all : ∀ z ∈ zs, (plS rows z).isSome = true := fun z hz => by
      have := List.findIdx?_eq_none_iff.mp e z hz
      cases hp : plS rows z with
      | none => rw [hp] at this; cases this
      | some p => rfl
    exact ⟨all, scan_lacks zs 1 0 all h⟩
/-- C of the value v is raised -/
def Rs (K : PySem.W.Frag) (H : Hp) (E : XK) (C f : Str) (v : V) : Prop := ∀ G e, Same H G → H e = none → G e = some (.xd [(f, v)]) → E (.ref (He.ga K C)) (some e) G
def outE (K : PySem.W.Frag) (H : Hp) (E : XK) (ok : Prop) : Out → Prop
  | .bad i => Rs K H E "NoSign" "at" (.int i)
  | .beyond i => Rs K H E "Beyond" "at" (.int i)
  | .unended k => Rs K H E "Unended" "many" (.int k)
  | .ok => ok
structure RowsP (rows : List (Str × Int)) : Prop where
  lo : ∀ r ∈ rows, 0 ≤ r.2
  hi : ∀ r ∈ rows, r.2 ≤ 4
theorem plR_in {rows : List (Str × Int)} (h : RowsP rows) (z : Str) : 0 ≤ plR rows z ∧ plR rows z ≤ 4 := by
  unfold plR
  cases hf : rows.find? fun r => decide (r.1 = z) with
  | none => exact ⟨Int.le_refl 0, by decide⟩
  | some r => exact ⟨h.lo r (List.mem_of_find?_eq_some hf), h.hi r (List.mem_of_find?_eq_some hf)⟩
theorem plN_le {rows : List (Str × Int)} (h : RowsP rows) (z : Str) : plN rows z ≤ 4 := by
  unfold plN plS
  have := plR_in h z
  split
  · exact Nat.zero_le _
  · split
    · show (plR rows z).toNat ≤ 4
      omega
    · exact Nat.zero_le _
def spPlOf (K : PySem.W.Frag) : Sp := fun vs H Q E => ∃ (wa sa : Addr) (rows : List (Str × Int)) (zs : List Str), vs = [.ref wa, .ref sa] ∧ WordsAt K H wa rows ∧ RowsP rows ∧ Sq K H sa (zs.map V.str) ∧ zs.length ≤ 20000 ∧ (∀ z ∈ zs, z.length ≤ 100000) ∧
  outE K H E (∀ G p, Same H G → H p = none → G p = some (.lst (zs.map fun z => V.int (plN rows z : Nat))) → Q (.ref p) G) (outS rows zs)
theorem findIdx_at {zs : List Str} {f : Str → Bool} {i : Nat} {z : Str} (hz : zs[i]? = some z) (hf : f z = true) (h : ∀ y ∈ zs.take i, f y = false) : zs.findIdx? f = some i := by
  obtain ⟨hi, e⟩ := List.getElem?_eq_some_iff.mp hz
  refine List.findIdx?_eq_some_iff_getElem.mpr ⟨hi, by rw [e]; exact hf, fun j hj => ?_⟩
  have : zs[j]'(by omega) ∈ zs.take i := by
    have e2 : (zs.take i)[j]? = some (zs[j]'(by omega)) := by rw [List.getElem?_take_of_lt hj, List.getElem?_eq_getElem (by omega)]
    exact List.mem_of_getElem? e2
  rw [h _ this]
  decide
theorem findIdx_no {zs : List Str} {f : Str → Bool} (h : ∀ y ∈ zs, f y = false) : zs.findIdx? f = none := List.findIdx?_eq_none_iff.mpr h
theorem enum_it0 {K : PySem.W.Frag} {H0 H : Hp} {a : Addr} {xs : List V} {i : Nat} {σ : L2.St} {R : It → Hp → Prop} (hv : σ[i]? = some (some (.ref a))) (h : Sq K H0 a xs) (s : Same H0 H)
    (k : ∀ (J : It) (G : Hp → Prop), Walk J xs.length G (YPair (fun i => some (.int (i : Nat))) (fun i => xs[i]?)) → (∀ H', Same H0 H' → G H') → R J H) : iEnum K (tCons (tVar i) tNil) σ H R ∨ iEnumT K (tCons (tVar i) tNil) σ H R := by
  rcases h with h | h
  · exact .inl ⟨_, hv, a, xs, rfl, s.seq h, k _ _ walk_enum fun _ e => e.seq h⟩
  · exact .inr ⟨_, hv, a, xs, rfl, SqT.same s h, k _ _ walk_enumT fun _ e => SqT.same e h⟩
theorem Same.keep {H G : Hp} {F : Addr} {o : HO} (s : Same H G) (h : H F = none) : Same H (L2.upd G F o) := fun a u e => by
  rw [upd_ne (ne_of_none e h)]
  exact s a u e
section
variable {P : Program} {w : World} {K : PySem.W.Frag} {mg : Str → Option Value} {base : Heap}
theorem sc_NoSigns___init__ : FnScope ["self", "found"] ["self", "found"] (defScope s_NoSigns___init__) := ⟨rfl, rfl, rfl, by decide +kernel, rfl, by decide +kernel, by decide +kernel⟩
theorem ok_NoSigns_ini (fam_TermError : FamV K (He.ga K "TermError")) (g_TermError : mg "TermError" = some (.ref (He.ga K "TermError"))) (x_NoSigns : OwnV K (He.ga K "NoSigns") "found") (D : DefM K (He.ma K (He.ga K "NoSigns") "__init__") "__init__" "NoSigns.__init__" s_NoSigns___init__) :
    PromA CX0 P w K mg base 1 (He.ma K (He.ga K "NoSigns") "__init__") ["self", "found"] (spIni (He.ga K "NoSigns") "found") := by
  refine meth_mk D sc_NoSigns___init__ (fun vs H Q E h => ?_) (fun _ _ _ _ _ _ us hl => match us, hl with | [_, _], _ => rfl) (fun cdv A outer s H vs Q E hr h => ?_)
  · obtain ⟨a, v, rfl, _⟩ := h
    rfl
  · obtain ⟨a, v, rfl, ha, q⟩ := h
    refine ⟨_, (pss_cons (ps_expr (pe_famInit fam_TermError rfl g_TermError (pa_cons (pv 0) (pa_cons pe_str pa_nil))))
      (pss_one (ps_ost (pv 0) (pv 1)))), ?_⟩
    exact ⟨_, rfl, a, _, _, rfl, by decide, x_NoSigns.ox, ha, _, rfl, _, rfl, a, _, rfl, x_NoSigns.ox, x_NoSigns.no, .inl ⟨ha, fun dx h1 h2 => q dx h1 h2⟩⟩

theorem sc_NoSign___init__ : FnScope ["self", "at"] ["self", "at"] (defScope s_NoSign___init__) := ⟨rfl, rfl, rfl, by decide +kernel, rfl, by decide +kernel, by decide +kernel⟩
theorem ok_NoSign_ini (fam_TermError : FamV K (He.ga K "TermError")) (g_TermError : mg "TermError" = some (.ref (He.ga K "TermError"))) (x_NoSign : OwnV K (He.ga K "NoSign") "at") (D : DefM K (He.ma K (He.ga K "NoSign") "__init__") "__init__" "NoSign.__init__" s_NoSign___init__) :
    PromA CX0 P w K mg base 1 (He.ma K (He.ga K "NoSign") "__init__") ["self", "at"] (spIni (He.ga K "NoSign") "at") := by
  refine meth_mk D sc_NoSign___init__ (fun vs H Q E h => ?_) (fun _ _ _ _ _ _ us hl => match us, hl with | [_, _], _ => rfl) (fun cdv A outer s H vs Q E hr h => ?_)
  · obtain ⟨a, v, rfl, _⟩ := h
    rfl
  · obtain ⟨a, v, rfl, ha, q⟩ := h
    refine ⟨_, (pss_cons (ps_expr (pe_famInit fam_TermError rfl g_TermError (pa_cons (pv 0) (pa_cons pe_str pa_nil))))
      (pss_one (ps_ost (pv 0) (pv 1)))), ?_⟩
    exact ⟨_, rfl, a, _, _, rfl, by decide, x_NoSign.ox, ha, _, rfl, _, rfl, a, _, rfl, x_NoSign.ox, x_NoSign.no, .inl ⟨ha, fun dx h1 h2 => q dx h1 h2⟩⟩

theorem sc_Beyond___init__ : FnScope ["self", "at"] ["self", "at"] (defScope s_Beyond___init__) := ⟨rfl, rfl, rfl, by decide +kernel, rfl, by decide +kernel, by decide +kernel⟩
theorem ok_Beyond_ini (fam_TermError : FamV K (He.ga K "TermError")) (g_TermError : mg "TermError" = some (.ref (He.ga K "TermError"))) (x_Beyond : OwnV K (He.ga K "Beyond") "at") (D : DefM K (He.ma K (He.ga K "Beyond") "__init__") "__init__" "Beyond.__init__" s_Beyond___init__) :
    PromA CX0 P w K mg base 1 (He.ma K (He.ga K "Beyond") "__init__") ["self", "at"] (spIni (He.ga K "Beyond") "at") := by
  refine meth_mk D sc_Beyond___init__ (fun vs H Q E h => ?_) (fun _ _ _ _ _ _ us hl => match us, hl with | [_, _], _ => rfl) (fun cdv A outer s H vs Q E hr h => ?_)
  · obtain ⟨a, v, rfl, _⟩ := h
    rfl
  · obtain ⟨a, v, rfl, ha, q⟩ := h
    refine ⟨_, (pss_cons (ps_expr (pe_famInit fam_TermError rfl g_TermError (pa_cons (pv 0) (pa_cons pe_str pa_nil))))
      (pss_one (ps_ost (pv 0) (pv 1)))), ?_⟩
    exact ⟨_, rfl, a, _, _, rfl, by decide, x_Beyond.ox, ha, _, rfl, _, rfl, a, _, rfl, x_Beyond.ox, x_Beyond.no, .inl ⟨ha, fun dx h1 h2 => q dx h1 h2⟩⟩

theorem sc_Unended___init__ : FnScope ["self", "many"] ["self", "many"] (defScope s_Unended___init__) := ⟨rfl, rfl, rfl, by decide +kernel, rfl, by decide +kernel, by decide +kernel⟩
theorem ok_Unended_ini (fam_TermError : FamV K (He.ga K "TermError")) (g_TermError : mg "TermError" = some (.ref (He.ga K "TermError"))) (x_Unended : OwnV K (He.ga K "Unended") "many") (D : DefM K (He.ma K (He.ga K "Unended") "__init__") "__init__" "Unended.__init__" s_Unended___init__) :
    PromA CX0 P w K mg base 1 (He.ma K (He.ga K "Unended") "__init__") ["self", "many"] (spIni (He.ga K "Unended") "many") := by
  refine meth_mk D sc_Unended___init__ (fun vs H Q E h => ?_) (fun _ _ _ _ _ _ us hl => match us, hl with | [_, _], _ => rfl) (fun cdv A outer s H vs Q E hr h => ?_)
  · obtain ⟨a, v, rfl, _⟩ := h
    rfl
  · obtain ⟨a, v, rfl, ha, q⟩ := h
    refine ⟨_, (pss_cons (ps_expr (pe_famInit fam_TermError rfl g_TermError (pa_cons (pv 0) (pa_cons pe_str pa_nil))))
      (pss_one (ps_ost (pv 0) (pv 1)))), ?_⟩
    exact ⟨_, rfl, a, _, _, rfl, by decide, x_Unended.ox, ha, _, rfl, _, rfl, a, _, rfl, x_Unended.ox, x_Unended.no, .inl ⟨ha, fun dx h1 h2 => q dx h1 h2⟩⟩

theorem sc_NoNumber___init__ : FnScope ["self", "found"] ["self", "found"] (defScope s_NoNumber___init__) := ⟨rfl, rfl, rfl, by decide +kernel, rfl, by decide +kernel, by decide +kernel⟩
theorem ok_NoNumber_ini (fam_TermError : FamV K (He.ga K "TermError")) (g_TermError : mg "TermError" = some (.ref (He.ga K "TermError"))) (x_NoNumber : OwnV K (He.ga K "NoNumber") "found") (D : DefM K (He.ma K (He.ga K "NoNumber") "__init__") "__init__" "NoNumber.__init__" s_NoNumber___init__) :
    PromA CX0 P w K mg base 1 (He.ma K (He.ga K "NoNumber") "__init__") ["self", "found"] (spIni (He.ga K "NoNumber") "found") := by
  refine meth_mk D sc_NoNumber___init__ (fun vs H Q E h => ?_) (fun _ _ _ _ _ _ us hl => match us, hl with | [_, _], _ => rfl) (fun cdv A outer s H vs Q E hr h => ?_)
  · obtain ⟨a, v, rfl, _⟩ := h
    rfl
  · obtain ⟨a, v, rfl, ha, q⟩ := h
    refine ⟨_, (pss_cons (ps_expr (pe_famInit fam_TermError rfl g_TermError (pa_cons (pv 0) (pa_cons pe_str pa_nil))))
      (pss_one (ps_ost (pv 0) (pv 1)))), ?_⟩
    exact ⟨_, rfl, a, _, _, rfl, by decide, x_NoNumber.ox, ha, _, rfl, _, rfl, a, _, rfl, x_NoNumber.ox, x_NoNumber.no, .inl ⟨ha, fun dx h1 h2 => q dx h1 h2⟩⟩

theorem sc_places_of : FnScope ["words", "signs", "found", "at", "sign", "lacking", "many"] ["words", "signs"] (defScope s_places_of) := ⟨rfl, rfl, rfl, by decide +kernel, rfl, by decide +kernel, by decide +kernel⟩

set_option maxHeartbeats 800000 in
theorem ok_places_of (bt : Bt mg) (p_is_letter : Prom P w K mg base 2 "is_letter" ["thing"] (spLetter K)) (cl_Words : Cls K (wcls K)) (mm_Words_has : Meth K (wcls K) "has" (He.ma K (wcls K) "has")) (mm_Words_places : Meth K (wcls K) "places" (He.ma K (wcls K) "places"))
    (p_Words_has : PromA CX0 P w K mg base 1 (He.ma K (wcls K) "has") ["self", "thing"] (spHas K)) (p_Words_places : PromA CX0 P w K mg base 2 (He.ma K (wcls K) "places") ["self", "name"] (spPlaces K))
    (g_NoSign : mg "NoSign" = some (.ref (He.ga K "NoSign"))) (x_NoSign : OwnV K (He.ga K "NoSign") "at") (pi_NoSign : PromA CX0 P w K mg base 1 (He.ma K (He.ga K "NoSign") "__init__") ["self", "at"] (spIni (He.ga K "NoSign") "at"))
    (g_Beyond : mg "Beyond" = some (.ref (He.ga K "Beyond"))) (x_Beyond : OwnV K (He.ga K "Beyond") "at") (pi_Beyond : PromA CX0 P w K mg base 1 (He.ma K (He.ga K "Beyond") "__init__") ["self", "at"] (spIni (He.ga K "Beyond") "at"))
    (g_Unended : mg "Unended" = some (.ref (He.ga K "Unended"))) (x_Unended : OwnV K (He.ga K "Unended") "many") (pi_Unended : PromA CX0 P w K mg base 1 (He.ma K (He.ga K "Unended") "__init__") ["self", "many"] (spIni (He.ga K "Unended") "many"))
    (D : Def K mg "places_of" s_places_of) : PromX P w K mg base 3 "places_of" ["words", "signs"] (spPlOf K) := by
  refine promX_mk D sc_places_of (fun vs H Q E h => ?_) (fun _ _ _ _ _ _ us hl => match us, hl with | [_, _], _ => rfl) (fun f cdv A outer s H vs Q E hr h => ?_)
  · obtain ⟨wa, sa, rows, zs, rfl, _⟩ := h
    rfl
  · obtain ⟨wa, sa, rows, zs, rfl, hW, hP, hS, hl, hz, q⟩ := h
    refine ⟨_, (pss_cons (ps_set (i := 2) sc_places_of.nd rfl (Or.inl rfl) (pe_lst pa_nil))
      (pss_cons (ps_for (passes_of rfl) rfl (pi_either (pi_enumK (K := K) rfl rfl bt.enumerate_ (pa_cons (pv 1) pa_nil)) (pi_enumT (K := K) rfl rfl bt.enumerate_ (pa_cons (pv 1) pa_nil))) (pg_tupK (K := K) (n := 2) rfl rfl (pgs_cons (pg_name (i := 3) sc_places_of.nd rfl (Or.inl rfl)) (pgs_cons (pg_name (i := 4) sc_places_of.nd rfl (Or.inl rfl)) pgs_nil))) (pss_one (ps_if (pt_val (pe_pc p_is_letter (hr.mono (by decide)) rfl (pa_cons (pv 4) pa_nil))) (pss_one (ps_expr (pe_appendK (K := K) rfl (pv 2) pe_int))) (pss_one (ps_if (pt_val (pe_pm cl_Words mm_Words_has p_Words_has (hr.mono (by decide)) (pv 0) (pa_cons (pv 4) pa_nil))) (pss_one (ps_expr (pe_appendK (K := K) rfl (pv 2) (pe_pm cl_Words mm_Words_places p_Words_places (hr.mono (by decide)) (pv 0) (pa_cons (pv 4) pa_nil))))) (pss_one (ps_raise1 x_NoSign pi_NoSign rfl takesF (hr.mono (by decide)) rfl g_NoSign (pv 3))))))))
      (pss_cons (ps_set (i := 5) sc_places_of.nd rfl (Or.inl rfl) pe_int)
      (pss_cons (ps_for (passes_of rfl) rfl (pi_enumK (K := K) rfl rfl bt.enumerate_ (pa_cons (pv 2) pa_nil)) (pg_tupK (K := K) (n := 2) rfl rfl (pgs_cons (pg_name (i := 3) sc_places_of.nd rfl (Or.inl rfl)) (pgs_cons (pg_name (i := 6) sc_places_of.nd rfl (Or.inl rfl)) pgs_nil))) (pss_cons (ps_if (pt_cmpR op_eq (pv 5) pe_int (nomark _)) (pss_one (ps_raise1 x_Beyond pi_Beyond rfl takesF (hr.mono (by decide)) rfl g_Beyond (pv 3))) pss_nil)
      (pss_one (ps_aug (i := 5) sc_places_of.nd rfl (Or.inl rfl) (pe_op op_sub (pv 6) pe_int) ip_add))))
      (pss_cons (ps_if (pt_cmpR op_gt (pv 5) pe_int (nomark _)) (pss_one (ps_raise1 x_Unended pi_Unended rfl takesF (hr.mono (by decide)) rfl g_Unended (pv 5))) pss_nil)
      (pss_one (ps_ret (pv 2)))))))), ?_⟩
    refine ⟨(by show 0 ≤ sizeLine; decide), fun F hF => ?_⟩
    (generalize hG : L2.upd _ F _ = H1; have sF := same_of hG hF; have eF := at_of hG; clear hG)
    refine enum_it0 (K := K) (H := H1) rfl hS sF fun J G wk hG => ?_
    have lz : (zs.map V.str).length = zs.length := List.length_map ..
    refine for_it wk (fun i τ G' => (∃ x1 x2 x3 x4, τ = [some (.ref wa), some (.ref sa), some (.ref F), x1, x2, x3, x4]) ∧ Same H G' ∧ G' F = some (.lst ((zs.take i).map fun z => V.int (plN rows z : Nat))) ∧ ∀ z ∈ zs.take i, (plS rows z).isNone = false)
      ⟨⟨_, _, _, _, rfl⟩, sF, eF, by simp⟩ (fun i τ G' _ p => hG G' p.2.1) ?_ ?_
    · rintro i v τ G1 G2 hi ⟨⟨x1, x2, x3, x4, rfl⟩, sH, eG, al⟩ ⟨T, y, x, rfl, hT, rfl, ey, hx⟩
      cases ey
      rw [lz] at hi
      obtain ⟨z, hzi, rfl⟩ : ∃ z, zs[i]? = some z ∧ x = .str z := by
        replace hx : (zs.map V.str)[i]? = some x := hx
        rw [List.getElem?_map] at hx
        cases hq : zs[i]? with
        | none => rw [hq] at hx; cases hx
        | some z => rw [hq] at hx; cases hx; exact ⟨z, rfl, rfl⟩
      (generalize hG : L2.upd _ T _ = G3; have sT := same_of hG hT; have eT := at_of hG; clear hG)
      have sH3 := sH.trans sT
      have hzl := hz z (List.mem_of_getElem? hzi)
      refine ⟨T, _, rfl, .inl (.inl eT), rfl, _, _, rfl, _, _, rfl, rfl, ?_⟩
      refine ⟨_, rfl, _, .str z, rfl, .str z, fun y e => by cases e; exact hzl, fun G4 s4 => ⟨_, rfl, ?_⟩⟩
      have eF4 := s4 _ _ (sT _ _ eG)
      have sH4 := sH3.trans s4
      have et : ∀ p : Nat, plN rows z = p → (zs.take (i + 1)).map (fun z => V.int (plN rows z : Nat)) = (zs.take i).map (fun z => V.int (plN rows z : Nat)) ++ [V.int (p : Nat)] := fun p hp => by
        rw [take_map (fun z => V.int (plN rows z : Nat)) hzi, hp]
      have al' : (plS rows z).isNone = false → ∀ y ∈ zs.take (i + 1), (plS rows y).isNone = false := fun h y hy => by
        rw [List.take_succ, hzi] at hy
        rcases List.mem_append.mp hy with m | m
        · exact al y m
        · rw [List.mem_singleton.mp m]; exact h
      have lF : ((zs.take i).map (fun z => V.int (plN rows z : Nat))).length ≤ 20000 := by rw [List.length_map, List.length_take]; omega
      have go : ∀ p : Nat, plS rows z = some p → ∀ G5, Same H G5 → G5 F = some (.lst ((zs.take i).map fun z => V.int (plN rows z : Nat))) →
          Same H (L2.upd G5 F (.lst ((zs.take i).map (fun z => V.int (plN rows z : Nat)) ++ [V.int (p : Nat)]))) ∧ L2.upd G5 F (.lst ((zs.take i).map (fun z => V.int (plN rows z : Nat)) ++ [V.int (p : Nat)])) F = some (.lst ((zs.take (i + 1)).map fun z => V.int (plN rows z : Nat))) ∧ ∀ y ∈ zs.take (i + 1), (plS rows y).isNone = false := fun p hp G5 s5 _ =>
        ⟨Same.keep s5 hF, by rw [upd_same, et p (by unfold plN; rw [hp]; rfl)], al' (by rw [hp]; rfl)⟩
      cases hL : letterD (.str z) with
      | true =>
        have hp : plS rows z = some 0 := by unfold plS; rw [show letterL (tl z) = true from hL]; rfl
        obtain ⟨g1, g2, g3⟩ := go 0 hp G4 sH4 eF4
        exact iteT ⟨_, rfl, .inl ⟨rfl, _, .inl (.inl eF4)⟩, F, _, _, rfl, rfl, eF4, sz5' (by omega), ⟨_, _, _, _, rfl⟩, g1, g2, g3⟩
      | false =>
        have hL' : letterL (tl z) = false := hL
        have hW4 := hW.same sH4
        obtain ⟨dx, DD, kvs, e1, e2, e3⟩ := id hW4
        refine iteF ⟨_, rfl, wa, dx, _, rfl, e1, rfl, _, rfl, wa, rows, _, .str z, rfl, hW4, .str z, _, rfl, ?_⟩
        cases hH : hasR rows (.str z) with
        | true =>
          have hm : z ∈ rows.map (·.1) := of_decide_eq_true hH
          have hp : plS rows z = some (plR rows z).toNat := by unfold plS; rw [hL', if_neg Bool.false_ne_true, if_pos hm]
          have hpl := plR_in hP z
          obtain ⟨g1, g2, g3⟩ := go _ hp G4 sH4 eF4
          refine iteT ⟨_, rfl, .inl ⟨rfl, _, .inl (.inl eF4)⟩, _, rfl, wa, dx, _, rfl, e1, rfl, _, rfl, wa, rows, z, rfl, hW4, hm, F, _, _, rfl, rfl, eF4, sz5' (by omega), ?_⟩
          rw [show (((plR rows z).toNat : Nat) : Int) = plR rows z by omega] at g1 g2
          exact ⟨⟨_, _, _, _, rfl⟩, g1, g2, g3⟩
        | false =>
          have hm : z ∉ rows.map (·.1) := of_decide_eq_false hH
          have hp : plS rows z = none := by unfold plS; rw [hL', if_neg Bool.false_ne_true, if_neg hm]
          have eo : outS rows zs = .bad i := by
            unfold outS
            rw [findIdx_at hzi (by rw [hp]; rfl) al]
          rw [eo] at q
          exact iteF ⟨_, rfl, fun e he => q _ e (sH4.trans (Same.new (Same.refl _) he)) (sH4.free he) (upd_same ..)⟩
    · rintro τ G1 ⟨⟨x1, x2, x3, x4, rfl⟩, sH, eG, al⟩
      rw [lz, List.take_length] at eG al
      have eo : outS rows zs = scan 1 0 (zs.map (plN rows)) := by
        unfold outS
        rw [findIdx_no al]
      rw [eo] at q
      have lp : (zs.map fun z => V.int (plN rows z : Nat)).length = zs.length := List.length_map ..
      refine ⟨_, rfl, F, _, rfl, .inl (.inl eG), for_it walk_enum (fun i τ G' => (∃ (k : Nat), (∃ x1 x2 x4, τ = [some (.ref wa), some (.ref sa), some (.ref F), x1, x2, some (.int k), x4]) ∧ scan k i ((zs.map (plN rows)).drop i) = scan 1 0 (zs.map (plN rows))) ∧ Same H G' ∧ G' F = some (.lst (zs.map fun z => V.int (plN rows z : Nat))))
        ⟨⟨1, ⟨_, _, _, rfl⟩, rfl⟩, sH, eG⟩ (fun i τ G' _ p => .inl (.inl p.2.2)) ?_ ?_⟩
      · rintro i v τ G2 G3 hi ⟨⟨k, ⟨y1, y2, y4, rfl⟩, hk⟩, s2, e2⟩ ⟨T, y, x, rfl, hT, rfl, ey, hx⟩
        cases ey
        rw [lp] at hi
        obtain ⟨z, hzi, rfl⟩ : ∃ z, zs[i]? = some z ∧ x = .int (plN rows z : Nat) := by
          replace hx : (zs.map fun z => V.int (plN rows z : Nat))[i]? = some x := hx
          rw [List.getElem?_map] at hx
          cases hq : zs[i]? with
          | none => rw [hq] at hx; cases hx
          | some z => rw [hq] at hx; cases hx; exact ⟨z, rfl, rfl⟩
        (generalize hG : L2.upd _ T _ = G4; have sT := same_of hG hT; have eT := at_of hG; clear hG)
        have s4 := s2.trans sT
        have ed : (zs.map (plN rows)).drop i = plN rows z :: (zs.map (plN rows)).drop (i + 1) := List.drop_eq_getElem?_toList_append .. ▸ (by rw [List.getElem?_map, hzi]; rfl)
        refine ⟨T, _, rfl, .inl (.inl eT), rfl, _, _, rfl, _, _, rfl, rfl, ?_⟩
        refine ⟨_, rfl, rfl, _, rfl, ?_⟩
        cases k with
        | zero =>
          rw [ed] at hk
          have hk' : scan 1 0 (zs.map (plN rows)) = .beyond i := hk.symm
          rw [hk'] at q
          exact iteT ⟨_, rfl, fun e he => q _ e (s4.trans (Same.new (Same.refl _) he)) (s4.free he) (upd_same ..)⟩
        | succ k =>
          refine iteF' (by simp; omega) ?_
          rw [ed] at hk
          replace hk : scan (k + plN rows z) (i + 1) ((zs.map (plN rows)).drop (i + 1)) = _ := hk
          have eI : ((k + 1 : Nat) : Int) + (((plN rows z : Nat) : Int) - 1) = ((k + plN rows z : Nat) : Int) := by omega
          exact ⟨_, rfl, _, rfl, _, _, rfl, rfl, _, _, rfl, rfl, ⟨⟨k + plN rows z, ⟨_, _, _, by rw [← eI]; rfl⟩, hk⟩, s4, sT _ _ e2⟩⟩
      · rintro τ G2 ⟨⟨k, ⟨y1, y2, y4, rfl⟩, hk⟩, s2, e2⟩
        rw [lp, List.drop_eq_nil_of_le (by rw [List.length_map]; exact Nat.le_refl _)] at hk
        refine ⟨_, rfl, _, _, rfl, rfl, _, rfl, ?_⟩
        cases k with
        | zero =>
          rw [← hk] at q
          exact iteF ⟨_, rfl, q G2 F s2 hF e2⟩
        | succ k =>
          rw [← hk] at q
          exact iteT' (decide_eq_true (by omega)) ⟨_, rfl, fun e he => q _ e (s2.trans (Same.new (Same.refl _) he)) (s2.free he) (upd_same ..)⟩
end

end TS

namespace TS
open PySem PySem.Spec PyProof.Rows L2 TL

/-! ### ends_of -/
theorem ixN_of {n j : Nat} (hj : j < n) : ixN n (j : Int) = some j := by
  unfold ixN
  rw [if_pos (by omega), if_pos (by omega)]
  rfl
theorem rep_one {α : Type} (x : α) : ∀ n : Nat, (List.replicate n [x]).flatten = List.replicate n x
  | 0 => rfl
  | n + 1 => by rw [List.replicate_succ, List.flatten_cons, rep_one x n]; rfl
def spEndsOf (K : PySem.W.Frag) : Sp := fun vs H Q _ => ∃ (p : Addr) (pl : Str → Option Nat) (r : Fs), vs = [.ref p] ∧ r.wf pl ∧ r.size ≤ 20000 ∧ SqL K H p (r.flat.map fun z => V.int ((pl z).getD 0 : Nat)) ∧
  ∀ G q, Same H G → H q = none → G q = some (.lst ((r.ends 0).map fun n => V.int (n : Nat))) → Q (.ref q) G
section
variable {P : Program} {w : World} {K : PySem.W.Frag} {mg : Str → Option Value} {base : Heap}
theorem sc_ends_of : FnScope ["places", "ends", "at", "stop", "turn"] ["places"] (defScope s_ends_of) := ⟨rfl, rfl, rfl, by decide +kernel, rfl, by decide +kernel, by decide +kernel⟩

set_option maxHeartbeats 800000 in
theorem ok_ends_of (bt : Bt mg) (D : Def K mg "ends_of" s_ends_of) : Prom P w K mg base 1 "ends_of" ["places"] (spEndsOf K) := by
  refine prom_mk D sc_ends_of (fun vs H Q E h => ?_) (fun _ _ _ _ _ _ us hl => match us, hl with | [_], _ => rfl) (fun f cdv A outer s H vs Q E hr h => ?_)
  · obtain ⟨p, pl, r, rfl, _⟩ := h
    rfl
  · obtain ⟨p, pl, r, rfl, hw, hl, hS, q⟩ := h
    obtain ⟨n, hn⟩ : ∃ n, n = r.size := ⟨_, rfl⟩
    have lz : (r.flat.map fun z => V.int ((pl z).getD 0 : Nat)).length = n := by rw [List.length_map, Fs.flat_len, hn]
    refine ⟨_, (pss_cons (ps_set (i := 1) sc_ends_of.nd rfl (Or.inl rfl) (pe_op op_rep (pe_lst (pa_cons pe_int pa_nil)) (pe_callB (id := "len") (lenK (K := K)) (by rfl) bt.len_ (by decide +kernel) (pa_cons (pv 0) pa_nil))))
      (pss_cons (ps_for PassesOwn.never rfl (pi_revK (K := K) rfl rfl bt.reversed_ (pa_cons (pe_listRg rfl rfl bt.list_ (prg_1 rfl bt.range_ (pe_callB (id := "len") (lenK (K := K)) (by rfl) bt.len_ (by decide +kernel) (pa_cons (pv 0) pa_nil)))) pa_nil)) (pg_name (i := 2) sc_ends_of.nd rfl (Or.inl rfl)) (pss_cons (ps_set (i := 3) sc_ends_of.nd rfl (Or.inl rfl) (pe_op op_add (pv 2) pe_int))
      (pss_cons (ps_for PassesOwn.never rfl (pi_range1 rfl bt.range_ (pa_cons (pe_ix (ix_listK (K := K)) (pv 0) (pv 2) (fun _ _ => rfl)) pa_nil)) (pg_name (i := 4) sc_ends_of.nd rfl (Or.inl rfl)) (pss_one (ps_set (i := 3) sc_ends_of.nd rfl (Or.inl rfl) (pe_ix (ix_listK (K := K)) (pv 1) (pv 3) (fun _ _ => rfl)))))
      (pss_one (ps_asg (pv 3) (pg_sub (pv 1) (pv 2) set_list))))))
      (pss_one (ps_ret (pv 1))))), ?_⟩
    refine ⟨(by show 1 ≤ sizeLine; decide), fun L0 hL0 => ?_⟩
    (generalize hG : L2.upd _ L0 _ = H1; have s0 := same_of hG hL0; have e0 := at_of hG; clear hG)
    refine ⟨_, rfl, _, _, rfl, .inl ⟨_, s0.seq hS, rfl⟩, L0, _, _, rfl, rfl, e0, ?_, ?_, ?_, fun F hF => ?_⟩
    · rw [lz]; omega
    · rw [lz]; omega
    · rw [lz]
      show 1 * ((n : Nat) : Int).toNat ≤ sizeLine
      rw [sizeLine_eq]
      omega
    rw [lz]
    have hF0 := s0.free hF
    have er : (List.replicate ((n : Nat) : Int).toNat [V.int 0]).flatten = (List.replicate n 0).map (fun n : Nat => V.int (n : Nat)) := by
      rw [Int.toNat_natCast, rep_one, List.map_replicate]
      rfl
    rw [er]
    (generalize hG : L2.upd _ F _ = H2; have sF := same_of hG hF; have eF := at_of hG; clear hG)
    have sH2 := s0.trans sF
    refine ⟨_, rfl, _, _, rfl, .inl ⟨_, sH2.seq hS, rfl⟩, _, rfl, ?_, fun Z hZ => ?_⟩
    · rw [lz]
      exact RgOk.of_le (by omega) (by omega) (by omega) (by omega)
    rw [lz]
    (generalize hG : L2.upd _ Z _ = H3; have sZ := same_of hG hZ; have eZ := at_of hG; clear hG)
    have sH3 := sH2.trans sZ
    have lr : (rgV 0 ((n : Nat) : Int)).length = n := by rw [rgV_length]; omega
    have nFZ : Z ≠ F := fun e => by rw [e, eF] at hZ; cases hZ
    refine ⟨Z, _, rfl, .inl (.inl eZ), for_it walk_rev (fun i τ G' => (∃ x1 x2 x3, τ = [some (.ref p), some (.ref F), x1, x2, x3]) ∧ Same H G' ∧ G' Z = some (.lst (rgV 0 ((n : Nat) : Int))) ∧ ∃ E' : List Nat, G' F = some (.lst (E'.map fun n => V.int (n : Nat))) ∧ E'.length = n ∧ ∀ j, n - i ≤ j → E'[j]? = (r.ends 0)[j]?)
      ⟨⟨_, _, _, rfl⟩, sH3, eZ, List.replicate n 0, sZ _ _ eF, by simp, fun j hj => ?_⟩ (fun i τ G' _ p => .inl (.inl p.2.2.1)) ?_ ?_⟩
    · rw [List.getElem?_eq_none (by simp; omega), List.getElem?_eq_none (by rw [Fs.ends_len, ← hn]; omega)]
    · rintro i v τ G1 G2 hi ⟨⟨x1, x2, x3, rfl⟩, sH, eZ1, E', eE, lE, hE⟩ ⟨rfl, hx⟩
      rw [lr] at hi hx
      obtain ⟨at_, hat⟩ : ∃ at_, at_ = n - 1 - i := ⟨_, rfl⟩
      rw [← hat] at hx
      have hv : v = .int (at_ : Nat) := by
        unfold rgV at hx
        rw [List.getElem?_map, List.getElem?_range (by omega)] at hx
        cases hx
        show V.int (0 + (at_ : Int)) = _
        rw [Int.zero_add]
      subst hv
      obtain ⟨sg, ts, nd⟩ := Fs.node r 0 at_ hw (by omega)
      have hk : (pl sg).getD 0 = ts.len := by rw [nd.many]; rfl
      have hin := nd.in_
      rw [Fs.flat_len, ← hn] at hin
      have stop := nd.stop
      rw [Nat.zero_add] at stop
      have kids := nd.kids
      rw [Nat.zero_add] at kids
      have jm : jump E' ts.len (at_ + 1) = some (at_ + 1 + ts.size) := Fs.jumps ts (at_ + 1) E' fun j hj => by rw [hE _ (by omega), kids j hj]
      have tl20 : ts.len ≤ ts.size := Fs.len_size ts
      refine ⟨_, rfl, _, _, rfl, rfl, _, rfl, _, rfl, p, _, _, .int (ts.len : Nat), rfl, rfl, sH.seq hS, atI_nat (by rw [List.getElem?_map, nd.sign]; show some (V.int ((pl sg).getD 0 : Nat)) = _; rw [hk]), _, rfl, ?_, ?_, ?_⟩
      · omega
      · omega
      refine for_it walk_range (fun t τ G' => G' = G2 ∧ ∃ (st : Nat) (x3 : Option V), τ = [some (.ref p), some (.ref F), some (.int (at_ : Nat)), some (.int (st : Nat)), x3] ∧ jump E' (ts.len - t) st = some (at_ + 1 + ts.size)) ⟨rfl, at_ + 1, _, rfl, jm⟩ (fun _ _ _ _ _ => trivial) ?_ ?_
      · rintro t v τ G3 G4 ht ⟨rfl, st, y3, rfl, hj⟩ ⟨rfl, rfl⟩
        have ht' : t < ts.len := by omega
        rw [show ts.len - t = (ts.len - (t + 1)) + 1 by omega] at hj
        cases he : E'[st]? with
        | none =>
          rw [show jump E' (ts.len - (t + 1) + 1) st = (E'[st]?).bind (jump E' (ts.len - (t + 1))) from rfl, he] at hj
          cases hj
        | some st' =>
          rw [show jump E' (ts.len - (t + 1) + 1) st = (E'[st]?).bind (jump E' (ts.len - (t + 1))) from rfl, he] at hj
          refine ⟨_, rfl, _, rfl, F, _, _, .int (st' : Nat), rfl, rfl, .inl (.inl eE), atI_nat (by rw [List.getElem?_map, he]; rfl), rfl, st', _, rfl, hj⟩
      · rintro τ G3 ⟨rfl, st, y3, rfl, hj⟩
        have est : st = at_ + 1 + ts.size := by
          rw [show ts.len - ((ts.len : Nat) : Int).toNat = 0 by omega] at hj
          exact Option.some.inj hj
        subst est
        have aE : at_ < E'.length := by omega
        refine ⟨_, rfl, _, rfl, _, rfl, F, _, _, at_, rfl, rfl, eE, ?_, ⟨_, _, _, rfl⟩, Same.keep sH hF0, ?_, E'.set at_ (at_ + 1 + ts.size), ?_, ?_, ?_⟩
        · rw [List.length_map]
          exact ixN_of aE
        · rw [upd_ne nFZ]; exact eZ1
        · rw [upd_same, List.map_set]
        · rw [List.length_set, lE]
        · intro j hj
          rw [List.getElem?_set]
          by_cases e : at_ = j
          · rw [if_pos e, if_pos (by omega), ← e, stop]
          · rw [if_neg e]
            exact hE j (by omega)
    · rintro τ G1 ⟨⟨x1, x2, x3, rfl⟩, sH, eZ1, E', eE, lE, hE⟩
      have e : E' = r.ends 0 := List.ext_getElem? fun j => hE j (by rw [lr]; omega)
      rw [e] at eE
      exact ⟨_, rfl, q G1 F sH hF0 eE⟩
end

end TS

namespace TS
open PySem PySem.Spec PyProof.Rows L2 TL

/-! ### Term -/
def tcls (K : PySem.W.Frag) : Addr := He.ga K "Term"
def intsV (l : List Nat) : List V := l.map fun n => V.int (n : Nat)
/-- the term at a -/
def TermAt (K : PySem.W.Frag) (G : Hp) (a wa : Addr) (zs : List Str) (es : List Nat) : Prop := ∃ dx s e, G a = some (.ins (tcls K) dx [("term_words", .ref wa), ("all_signs", .ref s), ("all_ends", .ref e)]) ∧ SqT K G s (zs.map V.str) ∧ SqT K G e (intsV es)
theorem TermAt.same {K : PySem.W.Frag} {G G' : Hp} {a wa : Addr} {zs : List Str} {es : List Nat} (h : TermAt K G a wa zs es) (e : Same G G') : TermAt K G' a wa zs es :=
  let ⟨dx, s, n, x, y, z⟩ := h; ⟨dx, s, n, e _ _ x, SqT.same e y, SqT.same e z⟩
def wholeI : PyData → Option Int
  | .int m => if 1 ≤ m ∧ m ≤ 9999 then some m else none
  | _ => none
def strOf : PyData → Str
  | .str z => z
  | _ => ""
def strsD (d : PyData) : List Str := ((seqD d).getD []).map strOf
inductive Due where
  | number
  | signs
  | out (o : Out)
def dueD (rows : List (Str × Int)) (d dm : PyData) : Due := match wholeI dm with
  | none => .number
  | some m => if signsD m d then .out (outS rows (strsD d)) else .signs
def dueE (K : PySem.W.Frag) (H : Hp) (E : XK) (y m : V) (ok : Prop) : Due → Prop
  | .number => Rs K H E "NoNumber" "found" m
  | .signs => Rs K H E "NoSigns" "found" y
  | .out o => outE K H E ok o
/-- data that may be handed in -/
structure Handed (d : PyData) : Prop where
  few : ∀ ds, seqD d = some ds → ds.length ≤ 20000
  short : ∀ ds, seqD d = some ds → ∀ e ∈ ds, ∀ z, e = .str z → z.length ≤ 100000
def spTIni (K : PySem.W.Frag) : Sp := fun vs H Q E => ∃ (a dx : Addr) (x y m : V), vs = [.ref a, x, y, m] ∧ H a = some (.ins (tcls K) dx []) ∧
  ((∃ d, Dt K H x d ∧ Rs K H E "NoWords" "found" x) ∨
  (∃ (wa : Addr) (rows : List (Str × Int)) (d dm : PyData), x = .ref wa ∧ WordsAt K H wa rows ∧ RowsP rows ∧ Dt K H y d ∧ Dt K H m dm ∧ Handed d ∧
    dueE K H E y m (∀ (G : Hp) (r : Fs), Fx a H G → r.flat = strsD d → r.wf (plS rows) → r.len = 1 → TermAt K G a wa r.flat (r.ends 0) → Q .non G) (dueD rows d dm)))
def spTSigns (K : PySem.W.Frag) : Sp := fun vs H Q _ => ∃ (a wa : Addr) (zs : List Str) (es : List Nat), vs = [.ref a] ∧ TermAt K H a wa zs es ∧ ∀ l, H l = none → Q (.ref l) (L2.upd H l (.lst (zs.map V.str)))
/-- a list stays where another thing is changed -/
theorem SqL.upd {K : PySem.W.Frag} {H : Hp} {a t : Addr} {xs : List V} {o o' : HO} (ha : H a = some o) (ho : ∀ l, o ≠ .lst l) (hf : ∀ b u, o ≠ .frz b u) (h : SqL K H t xs) : SqL K (L2.upd H a o') t xs := by
  rcases h with (h | ⟨q, h⟩) | h
  · refine .inl (.inl ?_)
    rw [upd_ne]
    · exact h
    · intro e
      rw [e, ha] at h
      exact ho _ (Option.some.inj h)
  · refine .inl (.inr ⟨q, ?_⟩)
    rw [upd_ne]
    · exact h
    · intro e
      rw [e, ha] at h
      exact hf _ _ (Option.some.inj h)
  · exact .inr h
theorem wholeI_none {d : PyData} (h : wholeD 1 9999 d = false) : wholeI d = none := by
  cases d with
  | int i =>
    show (if 1 ≤ i ∧ i ≤ 9999 then some i else none) = none
    rw [if_neg]
    rintro ⟨h1, h2⟩
    have : (decide ((1 : Int) ≤ i) && decide (i ≤ 9999)) = false := h
    rw [decide_eq_true h1, decide_eq_true h2] at this
    cases this
  | _ => rfl
theorem wholeI_some {d : PyData} (h : wholeD 1 9999 d = true) : ∃ m, d = .int m ∧ wholeI d = some m := by
  cases d with
  | int i =>
    obtain ⟨h1, h2⟩ := Bool.and_eq_true_iff.mp h
    exact ⟨i, rfl, if_pos ⟨of_decide_eq_true h1, of_decide_eq_true h2⟩⟩
  | _ => cases h
theorem signs_strs {m : Int} {d : PyData} (h : signsD m d = true) : ∃ ds, seqD d = some ds ∧ strsD d = ds.map strOf ∧ ds = (strsD d).map PyData.str ∧ (ds.length : Int) ≤ m := by
  unfold signsD at h
  cases hs : seqD d with
  | none => rw [hs] at h; cases h
  | some ds =>
    rw [hs] at h
    obtain ⟨h1, h2⟩ := Bool.and_eq_true_iff.mp h
    have e1 : strsD d = ds.map strOf := by unfold strsD; rw [hs]; rfl
    refine ⟨ds, rfl, e1, ?_, of_decide_eq_true (Bool.and_eq_true_iff.mp h1).2⟩
    rw [e1, List.map_map]
    have : ∀ x ∈ ds, (PyData.str ∘ strOf) x = x := fun x hx => by
      have := List.all_eq_true.mp h2 x hx
      cases x <;> first | rfl | cases this
    rw [List.map_congr_left this, List.map_id']
theorem dtAll_strs {K : PySem.W.Frag} {H : Hp} : ∀ {xs : List V} {zs : List Str}, DtAll K H xs (zs.map PyData.str) → xs = zs.map V.str
  | _, [], h => by cases h; rfl
  | _, z :: r, h => by
    cases h with
    | cons h0 t =>
      cases h0
      rw [dtAll_strs t]
      rfl
section
variable {P : Program} {w : World} {K : PySem.W.Frag} {mg : Str → Option Value} {base : Heap}
theorem sc_Term_signs : FnScope ["self"] ["self"] (defScope s_Term_signs) := ⟨rfl, rfl, rfl, by decide +kernel, rfl, by decide +kernel, by decide +kernel⟩

theorem ok_Term_signs (bt : Bt mg) (cl : Cls K (tcls K)) (nb : NoAttr K (tcls K) "all_signs") (D : DefM K (He.ma K (tcls K) "signs") "signs" "Term.signs" s_Term_signs) : PromA CX0 P w K mg base 1 (He.ma K (tcls K) "signs") ["self"] (spTSigns K) := by
  refine meth_mk D sc_Term_signs (fun vs H Q E h => ?_) (fun _ _ _ _ _ _ us hl => match us, hl with | [_], _ => rfl) (fun cdv A outer s H vs Q E hr h => ?_)
  · obtain ⟨a, wa, zs, es, rfl, _⟩ := h
    rfl
  · obtain ⟨a, wa, zs, es, rfl, ⟨dx, sa, ea, e1, e2, e3⟩, q⟩ := h
    refine ⟨_, (pss_one (ps_ret (pe_callTy (T := "list") (listK (K := K)) (by rfl) bt.list_ (by decide +kernel) (pa_cons (pe_fld (pv 0) rfl) pa_nil)))), ?_⟩
    exact ⟨_, rfl, a, _, dx, _, _, rfl, e1, cl, nb, rfl, sa, _, rfl, .inr e2, q⟩
theorem sc_Term___init__ : FnScope ["self", "words", "signs", "most", "places"] ["self", "words", "signs", "most"] (defScope s_Term___init__) := ⟨rfl, rfl, rfl, by decide +kernel, rfl, by decide +kernel, by decide +kernel⟩

set_option maxHeartbeats 800000 in
theorem ok_Term_ini (bt : Bt mg) (k_GREATEST : ∃ t, mg "GREATEST" = some (.int 9999 t)) (cl : Cls K (tcls K)) (n1 : NoAttr K (tcls K) "term_words") (n2 : NoAttr K (tcls K) "all_signs") (n3 : NoAttr K (tcls K) "all_ends")
    (p_need_words : PromX P w K mg base 3 "need_words" ["words"] (spNeed K)) (p_is_whole : Prom P w K mg base 1 "is_whole" ["thing", "low", "high"] (spWhole K)) (p_are_signs : Prom P w K mg base 1 "are_signs" ["thing", "most"] (spAreSigns K))
    (p_places_of : PromX P w K mg base 3 "places_of" ["words", "signs"] (spPlOf K)) (p_ends_of : Prom P w K mg base 1 "ends_of" ["places"] (spEndsOf K))
    (g_NoNumber : mg "NoNumber" = some (.ref (He.ga K "NoNumber"))) (x_NoNumber : OwnV K (He.ga K "NoNumber") "found") (pi_NoNumber : PromA CX0 P w K mg base 1 (He.ma K (He.ga K "NoNumber") "__init__") ["self", "found"] (spIni (He.ga K "NoNumber") "found"))
    (g_NoSigns : mg "NoSigns" = some (.ref (He.ga K "NoSigns"))) (x_NoSigns : OwnV K (He.ga K "NoSigns") "found") (pi_NoSigns : PromA CX0 P w K mg base 1 (He.ma K (He.ga K "NoSigns") "__init__") ["self", "found"] (spIni (He.ga K "NoSigns") "found"))
    {kws : List (Str × V)} (D : DefMK K (He.ma K (tcls K) "__init__") "__init__" "Term.__init__" s_Term___init__ kws) :
    ∃ fd, FunD K "__init__" "Term.__init__" (defArgs s_Term___init__) (defBody s_Term___init__) (defScope s_Term___init__) [] kws (He.ma K (tcls K) "__init__") fd ∧ FnOk P w K mg base (L2.CX P w) 4 (He.ma K (tcls K) "__init__") fd ["self", "words", "signs", "most"] (spTIni K) := by
  obtain ⟨t_GREATEST, c_GREATEST⟩ := k_GREATEST
  refine methXK_mk D sc_Term___init__ (fun vs H Q E h => ?_) (fun cdv A outer s H vs Q E hr h => ?_)
  · obtain ⟨a, dx, x, y, m, rfl, _⟩ := h
    rfl
  · obtain ⟨a, dx, x, y, m, rfl, ha, h⟩ := h
    refine ⟨_, (pss_cons (ps_expr (pe_pcX p_need_words takesF (hr.mono (by decide)) rfl (pa_cons (pv 1) pa_nil)))
      (pss_cons (ps_if (pt_not (pt_val (pe_pc p_is_whole (hr.mono (by decide)) rfl (pa_cons (pv 3) (pa_cons pe_int (pa_cons (pe_glob (v := .int 9999) rfl c_GREATEST ⟨_, rfl⟩) pa_nil)))))) (pss_one (ps_raise1 x_NoNumber pi_NoNumber rfl takesF (hr.mono (by decide)) rfl g_NoNumber (pv 3))) pss_nil)
      (pss_cons (ps_if (pt_not (pt_val (pe_pc p_are_signs (hr.mono (by decide)) rfl (pa_cons (pv 2) (pa_cons (pv 3) pa_nil))))) (pss_one (ps_raise1 x_NoSigns pi_NoSigns rfl takesF (hr.mono (by decide)) rfl g_NoSigns (pv 2))) pss_nil)
      (pss_cons (ps_set (i := 4) sc_Term___init__.nd rfl (Or.inl rfl) (pe_pcX p_places_of takesF (hr.mono (by decide)) rfl (pa_cons (pv 1) (pa_cons (pv 2) pa_nil))))
      (pss_cons (ps_fld (pv 0) (pv 1) rfl)
      (pss_cons (ps_fld (pv 0) (pe_callTy (T := "tuple") (tupleK (K := K)) (by rfl) bt.tuple_ (by decide +kernel) (pa_cons (pv 2) pa_nil)) rfl)
      (pss_one (ps_fld (pv 0) (pe_callTy (T := "tuple") (tupleK (K := K)) (by rfl) bt.tuple_ (by decide +kernel) (pa_cons (pe_pc p_ends_of (hr.mono (by decide)) rfl (pa_cons (pv 4) pa_nil)) pa_nil)) rfl)))))))), ?_⟩
    rcases h with ⟨d, hd, q⟩ | ⟨wa, rows, d, dm, rfl, hW, hP, hd, hm, hh, q⟩
    · exact ⟨_, rfl, x, rfl, .inr ⟨d, hd, fun G e s1 he ge => q G e s1 he ge⟩⟩
    · refine ⟨_, rfl, _, rfl, .inl ⟨wa, rows, rfl, hW, ?_⟩⟩
      refine ⟨_, rfl, m, dm, 1, 9999, rfl, hm, _, rfl, ?_⟩
      unfold dueD at q
      cases c1 : wholeD 1 9999 dm with
      | false =>
        rw [wholeI_none c1] at q
        exact iteT ⟨_, rfl, fun e he => q _ e (Same.new (Same.refl _) he) he (upd_same ..)⟩
      | true =>
        obtain ⟨mi, rfl, em⟩ := wholeI_some c1
        cases hm
        rw [em] at q
        replace q : dueE K H E y (V.int mi) (∀ (G : Hp) (r : Fs), Fx a H G → r.flat = strsD d → r.wf (plS rows) → r.len = 1 → TermAt K G a wa r.flat (r.ends 0) → Q .non G) (if signsD mi d = true then .out (outS rows (strsD d)) else .signs) := q
        refine iteF ⟨_, rfl, _, rfl, y, d, mi, rfl, hd, hh.few, fun H1 s1 => ⟨_, rfl, ?_⟩⟩
        cases c2 : signsD mi d with
        | false =>
          replace q : Rs K H E "NoSigns" "found" y := by
            rw [c2, if_neg Bool.false_ne_true] at q
            exact q
          exact iteT ⟨_, rfl, fun e he => q _ e (s1.trans (Same.new (Same.refl _) he)) (s1.free he) (upd_same ..)⟩
        | true =>
          obtain ⟨ds, es, e1, e2, e3⟩ := signs_strs c2
          obtain ⟨sa, xs, rfl, hS, hA⟩ := (Dt.same s1 hd).seq es
          have ex : xs = (strsD d).map V.str := dtAll_strs (by rw [← e2]; exact hA)
          subst ex
          have lz : (strsD d).length ≤ 20000 := by rw [e1, List.length_map]; exact hh.few ds es
          have hz : ∀ z ∈ strsD d, z.length ≤ 100000 := fun z hz => hh.short ds es (.str z) (by rw [e2]; exact List.mem_map_of_mem hz) z rfl
          rw [c2, if_pos rfl] at q
          refine iteF ⟨_, rfl, _, rfl, wa, sa, rows, strsD d, rfl, hW.same s1, hP, hS, lz, hz, ?_⟩
          cases ho : outS rows (strsD d) with
          | bad i =>
            rw [ho] at q
            exact fun G e s2 he ge => q G e (s1.trans s2) (s1.free he) ge
          | beyond i =>
            rw [ho] at q
            exact fun G e s2 he ge => q G e (s1.trans s2) (s1.free he) ge
          | unended k =>
            rw [ho] at q
            exact fun G e s2 he ge => q G e (s1.trans s2) (s1.free he) ge
          | ok =>
            rw [ho] at q
            replace q : ∀ (G : Hp) (r : Fs), Fx a H G → r.flat = strsD d → r.wf (plS rows) → r.len = 1 → TermAt K G a wa r.flat (r.ends 0) → Q .non G := q
            obtain ⟨hall, hlk⟩ := out_lacks ho
            obtain ⟨r, hr1, hr2, hr3⟩ := parse _ _ hlk
            intro G2 p s2 hp ep
            have s12 := s1.trans s2
            have na : G2 a = some (.ins (tcls K) dx []) := s12 _ _ ha
            have fx2 : Fx a H G2 := Fx.of s12
            have nt : ∀ fs : List (Str × V), ∀ l, HO.ins (tcls K) dx fs ≠ .tup l := fun _ _ => nofun
            have nf : ∀ fs : List (Str × V), ∀ b u, HO.ins (tcls K) dx fs ≠ .frz b u := fun _ _ _ => nofun
            have nl : ∀ fs : List (Str × V), ∀ l, HO.ins (tcls K) dx fs ≠ .lst l := fun _ _ => nofun
            have wr : ∀ {G : Hp} {o o' : HO}, Fx a H G → Fx a H (L2.upd G a o') := fun f => f.upd
            refine ⟨_, rfl, _, rfl, a, _, dx, _, rfl, na, cl, n1, by decide, ?_⟩
            rw [show putF (("term_words" : Str)) (V.ref wa) [] = [((("term_words" : Str)), V.ref wa)] from rfl]
            have pa : p ≠ a := fun e => by rw [e, s1 _ _ ha] at hp; cases hp
            have e3 : L2.upd G2 a (.ins (tcls K) dx [("term_words", .ref wa)]) a = some (.ins (tcls K) dx [("term_words", .ref wa)]) := upd_same ..
            have ep3 : L2.upd G2 a (.ins (tcls K) dx [("term_words", .ref wa)]) p = some (.lst ((strsD d).map fun z => V.int (plN rows z : Nat))) := (upd_ne pa).trans ep
            have f3 : Fx a H (L2.upd G2 a (.ins (tcls K) dx [("term_words", .ref wa)])) := fx2.upd
            have hS3 : Sq K (L2.upd G2 a (.ins (tcls K) dx [("term_words", .ref wa)])) sa ((strsD d).map V.str) := by
              rcases hS.same s2 with h | h
              · exact .inl (SqL.upd na (nl _) (nf _) h)
              · exact .inr (SqT.upd na (nt _) (nf _) h)
            generalize L2.upd G2 a (.ins (tcls K) dx [("term_words", .ref wa)]) = G3 at e3 ep3 f3 hS3 ⊢
            rcases hS3 with hS3 | hS3
            · refine ⟨_, rfl, sa, _, rfl, .inl ⟨hS3, fun st hst => ?_⟩⟩
              (generalize hG : L2.upd _ st _ = G4; have s4 := same_of hG hst; have hT4 := at_of hG; clear hG)
              have e4 := s4 _ _ e3
              have ep4 := s4 _ _ ep3
              have f4 : Fx a H G4 := f3.trans (Fx.of s4)
              replace hT4 : SqT K G4 st ((strsD d).map V.str) := .inl (.inl hT4)
              refine ⟨_, rfl, a, _, dx, _, rfl, e4, cl, n2, by simp, ?_⟩
              rw [show putF ("all_signs" : Str) (V.ref st) [(("term_words" : Str), V.ref wa)] = [(("term_words" : Str), V.ref wa), (("all_signs" : Str), V.ref st)] from rfl]
              have e5 : L2.upd G4 a (.ins (tcls K) dx [("term_words", .ref wa), ("all_signs", .ref st)]) a = some (.ins (tcls K) dx [("term_words", .ref wa), ("all_signs", .ref st)]) := upd_same ..
              have ep5 : L2.upd G4 a (.ins (tcls K) dx [("term_words", .ref wa), ("all_signs", .ref st)]) p = some (.lst ((strsD d).map fun z => V.int (plN rows z : Nat))) := (upd_ne pa).trans ep4
              have f5 : Fx a H (L2.upd G4 a (.ins (tcls K) dx [("term_words", .ref wa), ("all_signs", .ref st)])) := f4.upd
              have hT5 : SqT K (L2.upd G4 a (.ins (tcls K) dx [("term_words", .ref wa), ("all_signs", .ref st)])) st ((strsD d).map V.str) := SqT.upd e4 (nt _) (nf _) hT4
              generalize L2.upd G4 a (.ins (tcls K) dx [("term_words", .ref wa), ("all_signs", .ref st)]) = G5 at e5 ep5 f5 hT5 ⊢
              refine ⟨_, rfl, p, plS rows, r, rfl, hr2, by rw [← Fs.flat_len, hr1]; exact lz, by rw [hr1]; exact .inl (.inl ep5), fun G6 eq6 s6 hq6 ee6 => ?_⟩
              refine ⟨eq6, _, rfl, .inl ⟨.inl (.inl ee6), fun l hl => ?_⟩⟩
              (generalize hG : L2.upd _ l _ = G7; have s7 := same_of hG hl; have e7 := at_of hG; clear hG)
              refine ⟨_, rfl, a, _, dx, _, rfl, s7 _ _ (s6 _ _ e5), cl, n3, by simp, ?_⟩
              have ha7 := s7 _ _ (s6 _ _ e5)
              refine q _ r (fun b o hb e => (upd_ne hb).trans (s7 _ _ (s6 _ _ (f5 b o hb e)))) hr1 hr2 hr3 ⟨dx, st, l, upd_same .., ?_, ?_⟩
              · rw [hr1]
                exact SqT.upd ha7 (nt _) (nf _) (SqT.same (s6.trans s7) hT5)
              · exact SqT.upd ha7 (nt _) (nf _) (.inl (.inl e7))
            · refine ⟨_, rfl, sa, _, rfl, .inr ⟨hS3, ?_⟩⟩
              obtain ⟨st, est⟩ : ∃ st, st = sa := ⟨_, rfl⟩
              obtain ⟨G4, eG4⟩ : ∃ G4, G4 = G3 := ⟨_, rfl⟩
              rw [← eG4] at e3 ep3 f3 hS3
              rw [← est] at hS3
              rw [← eG4, ← est]
              have e4 := e3
              have ep4 := ep3
              have f4 := f3
              have hT4 := hS3
              refine ⟨_, rfl, a, _, dx, _, rfl, e4, cl, n2, by simp, ?_⟩
              rw [show putF ("all_signs" : Str) (V.ref st) [(("term_words" : Str), V.ref wa)] = [(("term_words" : Str), V.ref wa), (("all_signs" : Str), V.ref st)] from rfl]
              have e5 : L2.upd G4 a (.ins (tcls K) dx [("term_words", .ref wa), ("all_signs", .ref st)]) a = some (.ins (tcls K) dx [("term_words", .ref wa), ("all_signs", .ref st)]) := upd_same ..
              have ep5 : L2.upd G4 a (.ins (tcls K) dx [("term_words", .ref wa), ("all_signs", .ref st)]) p = some (.lst ((strsD d).map fun z => V.int (plN rows z : Nat))) := (upd_ne pa).trans ep4
              have f5 : Fx a H (L2.upd G4 a (.ins (tcls K) dx [("term_words", .ref wa), ("all_signs", .ref st)])) := f4.upd
              have hT5 : SqT K (L2.upd G4 a (.ins (tcls K) dx [("term_words", .ref wa), ("all_signs", .ref st)])) st ((strsD d).map V.str) := SqT.upd e4 (nt _) (nf _) hT4
              generalize L2.upd G4 a (.ins (tcls K) dx [("term_words", .ref wa), ("all_signs", .ref st)]) = G5 at e5 ep5 f5 hT5 ⊢
              refine ⟨_, rfl, p, plS rows, r, rfl, hr2, by rw [← Fs.flat_len, hr1]; exact lz, by rw [hr1]; exact .inl (.inl ep5), fun G6 eq6 s6 hq6 ee6 => ?_⟩
              refine ⟨eq6, _, rfl, .inl ⟨.inl (.inl ee6), fun l hl => ?_⟩⟩
              (generalize hG : L2.upd _ l _ = G7; have s7 := same_of hG hl; have e7 := at_of hG; clear hG)
              refine ⟨_, rfl, a, _, dx, _, rfl, s7 _ _ (s6 _ _ e5), cl, n3, by simp, ?_⟩
              have ha7 := s7 _ _ (s6 _ _ e5)
              refine q _ r (fun b o hb e => (upd_ne hb).trans (s7 _ _ (s6 _ _ (f5 b o hb e)))) hr1 hr2 hr3 ⟨dx, st, l, upd_same .., ?_, ?_⟩
              · rw [hr1]
                exact SqT.upd ha7 (nt _) (nf _) (SqT.same (s6.trans s7) hT5)
              · exact SqT.upd ha7 (nt _) (nf _) (.inl (.inl e7))
end

end TS

namespace TS
open PySem PySem.Spec PyProof.Rows L2 TL

/-! ### Term: starts, term_from, parts -/
def TmAt (K : PySem.W.Frag) (G : Hp) (a wa : Addr) (t : Tm) : Prop := TermAt K G a wa t.flat (t.ends 0)
theorem TmAt.same {K : PySem.W.Frag} {G G' : Hp} {a wa : Addr} {t : Tm} (h : TmAt K G a wa t) (e : Same G G') : TmAt K G' a wa t := TermAt.same h e
theorem ints_at {l : List Nat} {i n : Nat} (h : l[i]? = some n) : (intsV l)[i]? = some (.int (n : Nat)) := by
  unfold intsV
  rw [List.getElem?_map, h]
  rfl
def spStarts (K : PySem.W.Frag) : Sp := fun vs H Q _ => ∃ (a wa : Addr) (t : Tm) (p : Nat) (s : Str) (ts : Fs), vs = [.ref a, .int (p : Nat)] ∧ TmAt K H a wa t ∧ t.size ≤ 20000 ∧ At t p (.mk s ts) ∧
  ∀ G l, Same H G → H l = none → G l = some (.lst (intsV (ts.starts (p + 1)))) → Q (.ref l) G
section
variable {P : Program} {w : World} {K : PySem.W.Frag} {mg : Str → Option Value} {base : Heap}
theorem sc_Term_starts : FnScope ["self", "at", "found", "stop"] ["self", "at"] (defScope s_Term_starts) := ⟨rfl, rfl, rfl, by decide +kernel, rfl, by decide +kernel, by decide +kernel⟩

set_option maxHeartbeats 800000 in
theorem ok_Term_starts (bt : Bt mg) (cl : Cls K (tcls K)) (nb : NoAttr K (tcls K) "all_ends") (D : DefM K (He.ma K (tcls K) "starts") "starts" "Term.starts" s_Term_starts) : PromA CX0 P w K mg base 1 (He.ma K (tcls K) "starts") ["self", "at"] (spStarts K) := by
  refine meth_mk D sc_Term_starts (fun vs H Q E h => ?_) (fun _ _ _ _ _ _ us hl => match us, hl with | [_, _], _ => rfl) (fun cdv A outer s H vs Q E hr h => ?_)
  · obtain ⟨a, wa, t, p, sg, ts, rfl, _⟩ := h
    rfl
  · obtain ⟨a, wa, t, p, sg, ts, rfl, hT, ht, hA, q⟩ := h
    obtain ⟨dx, sa, ea, e1, e2, e3⟩ := id hT
    have g := hA.seg 0
    have gl := g.le
    rw [Tm.flat_len] at gl
    have stop := g.stop
    refine ⟨_, (pss_cons (ps_set (i := 2) sc_Term_starts.nd rfl (Or.inl rfl) (pe_lst pa_nil))
      (pss_cons (ps_set (i := 3) sc_Term_starts.nd rfl (Or.inl rfl) (pe_op op_add (pv 1) pe_int))
      (pss_cons (ps_while PassesOwn.never (pt_cmpR op_lt (pv 3) (pe_ix (ix_tupK (K := K)) (pe_fld (pv 0) rfl) (pv 1) (fun _ _ => rfl)) (nomark _)) (pss_cons (ps_expr (pe_appendK (K := K) rfl (pv 2) (pv 3)))
      (pss_one (ps_set (i := 3) sc_Term_starts.nd rfl (Or.inl rfl) (pe_ix (ix_tupK (K := K)) (pe_fld (pv 0) rfl) (pv 3) (fun _ _ => rfl))))))
      (pss_one (ps_ret (pv 2)))))), ?_⟩
    refine ⟨(by show 0 ≤ sizeLine; decide), fun F hF => ?_⟩
    (generalize hG : L2.upd _ F _ = H1; have sF := same_of hG hF; have eF := at_of hG; clear hG)
    refine ⟨_, rfl, _, _, rfl, rfl, ?_⟩
    refine ⟨fun m τ G => ∃ (c d : Fs) (st : Nat), m = d.len ∧ (τ = [some (.ref a), some (.int (p : Nat)), some (.ref F), some (.int (st : Nat))]) ∧ Same H G ∧ c.app d = ts ∧ st = p + 1 + c.size ∧ G F = some (.lst (intsV (c.starts (p + 1)))), ⟨_, .nil, ts, p + 1, rfl, rfl, sF, rfl, rfl, eF⟩, ?_⟩
    rintro m τ G ⟨c, d, st, rfl, rfl, sG, ecd, est, eG⟩
    refine ⟨_, rfl, _, rfl, a, _, dx, _, _, rfl, sG _ _ e1, cl, nb, rfl, _, rfl, ea, _, _, .int ((p + (Tm.mk sg ts).size : Nat) : Int), rfl, rfl, SqT.same sG e3, atI_nat (ints_at stop), _, _, rfl, rfl, _, rfl, ?_⟩
    cases d with
    | nil =>
      rw [Fs.app_nil] at ecd
      subst ecd
      refine iteF' (decide_eq_false (by
        show ¬ ((st : Nat) : Int) < ((p + (c.size + 1) : Nat) : Int)
        omega)) ⟨_, rfl, q G F sG hF eG⟩
    | cons u r =>
      have hu : At t st u := by
        have h2 := hA.trans (.kid (s := sg) (by rw [← ecd]; exact Fs.app_at c u r))
        rw [est, show p + 1 + c.size = p + (c.size + 1) by omega]
        exact h2
      have gu := hu.seg 0
      have hsz : ts.size = c.size + (u.size + r.size) := by rw [← ecd, Fs.app_size]; rfl
      have up := u.size_pos
      have hcl := Fs.len_size c
      refine iteT' (decide_eq_true (by
        show ((st : Nat) : Int) < ((p + (ts.size + 1) : Nat) : Int)
        omega)) ⟨_, fun τ' G' h => h, ?_⟩
      have gl' : p + (ts.size + 1) ≤ t.size := gl
      refine ⟨_, rfl, .inl ⟨rfl, _, .inl (.inl eG)⟩, _, rfl, F, _, _, rfl, rfl, eG, sz5' (by unfold intsV; rw [List.length_map, Fs.starts_len]; omega), ?_⟩
      have s2 : Same H (L2.upd G F (.lst (intsV (c.starts (p + 1)) ++ [V.int (st : Nat)]))) := fun b o e => by
        rw [upd_ne (ne_of_none e hF)]
        exact sG _ _ e
      have eF2 : L2.upd G F (.lst (intsV (c.starts (p + 1)) ++ [V.int (st : Nat)])) F = some (.lst (intsV (c.starts (p + 1)) ++ [V.int (st : Nat)])) := upd_same ..
      generalize L2.upd G F (.lst (intsV (c.starts (p + 1)) ++ [V.int (st : Nat)])) = G2 at s2 eF2 ⊢
      refine ⟨_, rfl, a, _, dx, _, _, rfl, s2 _ _ e1, cl, nb, rfl, _, rfl, ea, _, _, .int ((st + u.size : Nat) : Int), rfl, rfl, SqT.same s2 e3, atI_nat (ints_at gu.stop), ?_⟩
      refine ⟨r.len, by show r.len < r.len + 1; omega, c.app (.cons u .nil), r, st + u.size, rfl, rfl, s2, by rw [Fs.app_assoc]; exact ecd, by rw [Fs.app_size, est]; show _ = p + 1 + (c.size + (u.size + 0)); omega, ?_⟩
      rw [eF2, Fs.starts_app]
      unfold intsV
      rw [List.map_append]
      show _ = some (HO.lst (_ ++ [V.int ((p + 1 + c.size : Nat) : Int)]))
      rw [est]
end

end TS

namespace TS
open PySem PySem.Spec PyProof.Rows L2 TL

/-! ### a term made of signs that are one -/
theorem lacks_out {rows : List (Str × Int)} : ∀ (zs : List Str) (k i : Nat), lacks (plS rows) k zs = some 0 → (∀ z ∈ zs, (plS rows z).isNone = false) ∧ scan k i (zs.map (plN rows)) = .ok
  | [], k, i, h => by
    have e : k = 0 := by simpa [lacks] using h
    subst e
    exact ⟨by simp, rfl⟩
  | z :: r, 0, i, h => by simp [lacks] at h
  | z :: r, k + 1, i, h => by
    cases hp : plS rows z with
    | none => simp [lacks, hp] at h
    | some p =>
      have h' : lacks (plS rows) (k + p) r = some 0 := by simpa [lacks, hp] using h
      obtain ⟨a, b⟩ := lacks_out r (k + p) (i + 1) h'
      refine ⟨fun y hy => (List.mem_cons.mp hy).elim (fun e => by rw [e, hp]; rfl) (a y), ?_⟩
      rw [List.map_cons, show plN rows z = p by unfold plN; rw [hp]; rfl]
      exact b
theorem wf_out {rows : List (Str × Int)} {t : Tm} (h : t.wf (plS rows)) : outS rows t.flat = .ok := by
  obtain ⟨a, b⟩ := lacks_out t.flat 1 0 (Tm.lacks h)
  unfold outS
  rw [findIdx_no a]
  exact b
theorem strsD_map {d : PyData} {zs : List Str} (h : seqD d = some (zs.map .str)) : strsD d = zs := by
  unfold strsD
  rw [h]
  show (zs.map PyData.str).map strOf = zs
  rw [List.map_map]
  exact List.map_id zs
theorem signs_yes {d : PyData} {zs : List Str} {m : Int} (h : seqD d = some (zs.map .str)) (h1 : 1 ≤ zs.length) (h2 : (zs.length : Int) ≤ m) : signsD m d = true := by
  unfold signsD
  rw [h]
  show (decide (1 ≤ (zs.map PyData.str).length) && decide (((zs.map PyData.str).length : Int) ≤ m) && (zs.map PyData.str).all isStrD) = true
  rw [List.length_map, decide_eq_true h1, decide_eq_true h2, List.all_map]
  show zs.all (isStrD ∘ PyData.str) = true
  rw [List.all_eq_true]
  exact fun z _ => rfl
theorem dt_strs {K : PySem.W.Frag} {G : Hp} : ∀ zs : List Str, DtAll K G (zs.map V.str) (zs.map PyData.str)
  | [] => .nil
  | z :: r => .cons (.str z) (dt_strs r)
/-- signs, short ones -/
def Short (zs : List Str) : Prop := ∀ z ∈ zs, z.length ≤ 100000
theorem tini_of {K : PySem.W.Frag} {H : Hp} {a dx wa : Addr} {y : V} {rows : List (Str × Int)} {d : PyData} {t : Tm} {m : Int} {C : Hp → Prop} {E : XK} (ha : H a = none) (hdx : H dx = none) (ne : dx ≠ a) (hW : WordsAt K H wa rows) (hP : RowsP rows)
    (hd : Dt K H y d) (hs : seqD d = some (t.flat.map .str)) (hw : t.wf (plS rows)) (hm : (t.size : Int) ≤ m) (h9 : m ≤ 9999) (hz : Short t.flat) (k : ∀ G, Same H G → TmAt K G a wa t → C G) :
    spTIni K [.ref a, .ref wa, y, .int m] (L2.upd (L2.upd H dx (.own a)) a (.ins (tcls K) dx [])) (fun v G => v = .non ∧ C G) E := by
  have s1 : Same H (L2.upd (L2.upd H dx (.own a)) a (.ins (tcls K) dx [])) := fun b o e => by
    rw [upd_ne (ne_of_none e ha), upd_ne (ne_of_none e hdx)]
    exact e
  have tp := t.size_pos
  have fl := t.flat_len
  refine ⟨a, dx, _, y, _, rfl, upd_same .., .inr ⟨wa, rows, d, .int m, rfl, hW.same s1, hP, Dt.same s1 hd, .int m, ⟨fun ds e => ?_, fun ds e x hx z ez => ?_⟩, ?_⟩⟩
  · rw [hs] at e
    cases e
    rw [List.length_map]
    omega
  · rw [hs] at e
    cases e
    obtain ⟨z', hz', rfl⟩ := List.mem_map.mp hx
    cases ez
    exact hz z hz'
  · have e1 : dueD rows d (.int m) = .out .ok := by
      unfold dueD
      rw [show wholeI (.int m) = some m from if_pos ⟨by omega, h9⟩]
      show (if signsD m d = true then Due.out (outS rows (strsD d)) else .signs) = _
      rw [signs_yes hs (by omega) (by omega), if_pos rfl, strsD_map hs, wf_out hw]
    rw [e1]
    intro G r fx er wf1 l1 ta
    refine ⟨rfl, k G (fun b o e => fx b o (ne_of_none e ha) (s1 _ _ e)) ?_⟩
    obtain ⟨u, rfl⟩ := Fs.one l1
    rw [strsD_map hs] at er
    have eu : u.flat = t.flat := by
      have : u.flat ++ [] = t.flat := er
      rw [List.append_nil] at this
      exact this
    have := Tm.uniq (show u.wf _ ∧ _ from wf1).1 hw eu
    subst this
    unfold TmAt
    have e2 : (Fs.cons u .nil).flat = u.flat := by show u.flat ++ [] = _; rw [List.append_nil]
    have e3 : (Fs.cons u .nil).ends 0 = u.ends 0 := by show u.ends 0 ++ [] = _; rw [List.append_nil]
    rw [e2, e3] at ta
    exact ta
/-- the term at a, of the words at wa -/
structure TermOk (K : PySem.W.Frag) (H : Hp) (a wa : Addr) (rows : List (Str × Int)) (t : Tm) : Prop where
  at_ : TmAt K H a wa t
  wd : WordsAt K H wa rows
  rp : RowsP rows
  wf : t.wf (plS rows)
  few : t.size ≤ 9999
  short : Short t.flat
theorem TermOk.same {K : PySem.W.Frag} {G G' : Hp} {a wa : Addr} {rows : List (Str × Int)} {t : Tm} (h : TermOk K G a wa rows t) (e : Same G G') : TermOk K G' a wa rows t := ⟨h.at_.same e, h.wd.same e, h.rp, h.wf, h.few, h.short⟩
theorem Short.sub {l m : List Str} (h : Short l) (s : ∀ z ∈ m, z ∈ l) : Short m := fun z hz => h z (s z hz)
theorem At.mem {t u : Tm} {p : Nat} (h : At t p u) : ∀ z ∈ u.flat, z ∈ t.flat := fun z hz => by
  rw [← (h.seg 0).signs] at hz
  exact List.mem_of_mem_drop (List.mem_of_mem_take hz)
def spFrom (K : PySem.W.Frag) : Sp := fun vs H Q _ => ∃ (a wa : Addr) (rows : List (Str × Int)) (t : Tm) (p : Nat) (u : Tm), vs = [.ref a, .int (p : Nat)] ∧ TermOk K H a wa rows t ∧ At t p u ∧ ∀ G b, Same H G → H b = none → TmAt K G b wa u → Q (.ref b) G
theorem cut_at {xs : List V} {p e : Nat} (h1 : p ≤ e) (h2 : e ≤ xs.length) : cutV xs (some (p : Int)) (some (e : Int)) = (xs.drop p).take (e - p) := by
  unfold cutV
  rw [HT.sIx_nat, HT.sIx_nat, Nat.min_eq_left h2, Nat.min_eq_left (show p ≤ xs.length by omega)]
section
variable {P : Program} {w : World} {K : PySem.W.Frag} {mg : Str → Option Value} {base : Heap}
theorem sc_Term_term_from : FnScope ["self", "at"] ["self", "at"] (defScope s_Term_term_from) := ⟨rfl, rfl, rfl, by decide +kernel, rfl, by decide +kernel, by decide +kernel⟩

set_option maxHeartbeats 800000 in
theorem ok_Term_from (bt : Bt mg) (k_GREATEST : ∃ t, mg "GREATEST" = some (.int 9999 t)) (cl : Cls K (tcls K)) (n1 : NoAttr K (tcls K) "term_words") (n2 : NoAttr K (tcls K) "all_signs") (n3 : NoAttr K (tcls K) "all_ends") (m_Term : Mk K (tcls K) (He.ma K (tcls K) "__init__")) (g_Term : mg "Term" = some (.ref (tcls K)))
    (p_Term1 : PromAK P w K mg base 4 (He.ma K (tcls K) "__init__") ["self", "words", "signs", "most"] (spTIni K) 3 ["most"] (fun vs zs => vs ++ ([] ++ zs)))
    (D : DefM K (He.ma K (tcls K) "term_from") "term_from" "Term.term_from" s_Term_term_from) : PromA CX0 P w K mg base 6 (He.ma K (tcls K) "term_from") ["self", "at"] (spFrom K) := by
  obtain ⟨t_GREATEST, c_GREATEST⟩ := k_GREATEST
  refine meth_mk D sc_Term_term_from (fun vs H Q E h => ?_) (fun _ _ _ _ _ _ us hl => match us, hl with | [_, _], _ => rfl) (fun cdv A outer s H vs Q E hr h => ?_)
  · obtain ⟨a, wa, rows, t, p, u, rfl, _⟩ := h
    rfl
  · obtain ⟨a, wa, rows, t, p, u, rfl, ok, hA, q⟩ := h
    obtain ⟨dx, sa, ea, e1, e2, e3⟩ := id ok.at_
    have g := hA.seg 0
    have gl := g.le
    have fl := t.flat_len
    refine ⟨_, (pss_one (ps_ret (pe_makeSK m_Term p_Term1 takes0 (hr.mono (by decide)) rfl g_Term (pa_cons (pe_fld (pv 0) rfl) (pa_cons (pe_slice sl_tupA (pe_fld (pv 0) rfl) (po_some (pv 1)) (po_some (pe_ix (ix_tupK (K := K)) (pe_fld (pv 0) rfl) (pv 1) (fun _ _ => rfl)))) pa_nil)) (pk_cons (pe_glob (v := .int 9999) rfl c_GREATEST ⟨_, rfl⟩) pk_nil)))), ?_⟩
    refine ⟨_, rfl, a, _, dx, _, _, rfl, e1, cl, n1, rfl, _, rfl, a, _, dx, _, _, rfl, e1, cl, n2, rfl, _, rfl, _, rfl, _, rfl, a, _, dx, _, _, rfl, e1, cl, n3, rfl, _, rfl, ea, _, _, .int ((p + u.size : Nat) : Int), rfl, rfl, e3, atI_nat (ints_at g.stop), _, rfl, sa, _, rfl, e2, ?_⟩
    have ec : cutV (t.flat.map V.str) (some ((p : Nat) : Int)) (some ((p + u.size : Nat) : Int)) = u.flat.map V.str := by
      rw [cut_at (by omega) (by rw [List.length_map]; exact gl), ← List.map_drop, ← List.map_take, show p + u.size - p = u.size by omega, g.signs]
    have up := u.size_pos
    have us := ok.few
    have hm : (u.size : Int) ≤ 9999 := by
      rw [fl] at gl
      omega
    refine ⟨fun hw => ?_, fun _ y hy => ?_⟩
    · have ew : t.flat.map V.str = u.flat.map V.str := by
        rw [← ec]
        unfold cutV
        rw [hw.1, hw.2, List.drop_zero, Nat.sub_zero, List.take_of_length_le (Nat.le_refl _)]
      rw [ew] at e2
      exact ⟨rfl, rfl, fun x dx' hx hdx ne => tini_of hx hdx ne ok.wd ok.rp (.tup e2 (dt_strs _)) rfl (hA.wf ok.wf) hm (by decide) (ok.short.sub hA.mem) fun G sG ta => q G x sG hx ta⟩
    · rw [ec]
      (generalize hG : L2.upd _ y _ = H1; have sy := same_of hG hy; have ey := at_of hG; clear hG)
      exact ⟨rfl, rfl, fun x dx' hx hdx ne => tini_of hx hdx ne (ok.wd.same sy) ok.rp (.tup (.inl (.inl ey)) (dt_strs _)) rfl (hA.wf ok.wf) hm (by decide) (ok.short.sub hA.mem) fun G sG ta => q G x (sy.trans sG) (sy.free hx) ta⟩
end

end TS

namespace TS
open PySem PySem.Spec PyProof.Rows L2 TL

/-! ### Term.parts -/
theorem SqT.hide {K : PySem.W.Frag} {G : Hp} {b t : Addr} {l xs : List V} (hb : G b = some (.lst l)) (h : SqT K G t xs) : SqT K (hide G b) t xs := by
  rcases h with (h | ⟨q, h⟩) | h
  · exact .inl (.inl (by rw [hide_ne fun e => by rw [e, hb] at h; cases h]; exact h))
  · exact .inl (.inr ⟨q, by rw [hide_ne fun e => by rw [e, hb] at h; cases h]; exact h⟩)
  · exact .inr h
theorem WordsAt.hide {K : PySem.W.Frag} {G : Hp} {b a : Addr} {l : List V} {rows : List (Str × Int)} (hb : G b = some (.lst l)) (h : WordsAt K G a rows) : WordsAt K (hide G b) a rows := by
  obtain ⟨dx, D, kvs, e1, e2, e3⟩ := h
  exact ⟨dx, D, kvs, by rw [hide_ne fun e => by rw [e, hb] at e1; cases e1]; exact e1, by rw [hide_ne fun e => by rw [e, hb] at e2; cases e2]; exact e2, e3.len, fun i r q => let ⟨t, x, y⟩ := e3.at_ i r q; ⟨t, x, SqT.hide hb y⟩⟩
theorem TmAt.hide {K : PySem.W.Frag} {G : Hp} {b a wa : Addr} {l : List V} {t : Tm} (hb : G b = some (.lst l)) (h : TmAt K G a wa t) : TmAt K (hide G b) a wa t := by
  obtain ⟨dx, s, e, h1, h2, h3⟩ := h
  exact ⟨dx, s, e, by rw [hide_ne fun z => by rw [z, hb] at h1; cases h1]; exact h1, SqT.hide hb h2, SqT.hide hb h3⟩
/-- a list of new terms -/
def TmsAt (K : PySem.W.Frag) (G : Hp) (wa : Addr) (vs : List V) (us : List Tm) : Prop := vs.length = us.length ∧ ∀ (i : Nat) (v : V), vs[i]? = some v → ∃ b u, v = .ref b ∧ us[i]? = some u ∧ TmAt K G b wa u
def spParts (K : PySem.W.Frag) : Sp := fun vs H Q _ => ∃ (a wa : Addr) (rows : List (Str × Int)) (s : Str) (ts : Fs), vs = [.ref a] ∧ TermOk K H a wa rows (.mk s ts) ∧
  ∀ G l ys, Same H G → H l = none → G l = some (.lst ys) → TmsAt K (hide G l) wa ys ts.list → Q (.ref l) G
section
variable {P : Program} {w : World} {K : PySem.W.Frag} {mg : Str → Option Value} {base : Heap}
theorem sc_Term_parts : FnScope ["self", "at"] ["self"] (defScope s_Term_parts) := ⟨rfl, rfl, rfl, by decide +kernel, rfl, by decide +kernel, by decide +kernel⟩

set_option maxHeartbeats 800000 in
theorem ok_Term_parts (bt : Bt mg) (cl_Term : Cls K (tcls K)) (mm_Term_starts : Meth K (tcls K) "starts" (He.ma K (tcls K) "starts")) (p_Term_starts : PromA CX0 P w K mg base 1 (He.ma K (tcls K) "starts") ["self", "at"] (spStarts K))
    (mm_Term_term_from : Meth K (tcls K) "term_from" (He.ma K (tcls K) "term_from")) (p_Term_term_from : PromA CX0 P w K mg base 6 (He.ma K (tcls K) "term_from") ["self", "at"] (spFrom K))
    (D : DefM K (He.ma K (tcls K) "parts") "parts" "Term.parts" s_Term_parts) : PromA CX0 P w K mg base 8 (He.ma K (tcls K) "parts") ["self"] (spParts K) := by
  refine meth_mk D sc_Term_parts (fun vs H Q E h => ?_) (fun _ _ _ _ _ _ us hl => match us, hl with | [_], _ => rfl) (fun cdv A outer s H vs Q E hr h => ?_)
  · obtain ⟨a, wa, rows, sg, ts, rfl, _⟩ := h
    rfl
  · obtain ⟨a, wa, rows, sg, ts, rfl, ok, q⟩ := h
    obtain ⟨dx, sa, ea, e1, e2, e3⟩ := id ok.at_
    refine ⟨_, (pss_one (ps_ret (pe_lc (own := [("at", 1)]) (g := gName 1) rfl sc_Term_parts.nd (pi_listK (K := K) rfl (pe_pm cl_Term mm_Term_starts p_Term_starts (hr.mono (by decide)) (pv 0) (pa_cons pe_int pa_nil))) (blkOk_by (N := ["self", "at"]) (sc := defScope s_Term_parts) (by decide +kernel)) (fun _ _ _ _ _ => (pg_name (i := 1) sc_Term_parts.nd rfl (Or.inl rfl))) (fun _ _ _ _ _ => pts_nil) (fun _ _ _ _ _ => (pe_pm cl_Term mm_Term_term_from p_Term_term_from (hr.mono (by decide)) (pv 0) (pa_cons (pv 1) pa_nil)))))), ?_⟩
    refine ⟨_, rfl, a, dx, _, rfl, e1, rfl, a, wa, _, 0, sg, ts, rfl, ok.at_, Nat.le_trans ok.few (by decide), .here _, fun G l sG hl el => ?_⟩
    have ls : (intsV (ts.starts (0 + 1))).length = ts.len := by unfold intsV; rw [List.length_map, Fs.starts_len]
    have hsz : ts.len ≤ 9999 := by
      have h1 := Fs.len_size ts
      have h2 : ts.size + 1 ≤ 9999 := ok.few
      omega
    refine ⟨l, rfl, ⟨_, .inl (.inl el)⟩, fun R hR => lc_prop (walk_at walk_list) (fun i G' v => ∃ b u, v = .ref b ∧ ts.list[i]? = some u ∧ TmAt K G' b wa u) (fun i H1 H2 v s h => let ⟨b, u, x, y, z⟩ := h; ⟨b, u, x, y, z.same s⟩)
      (fun G' s => .inl (.inl (s _ _ el))) (by rw [ls]; omega) hR (fun _ => rfl) (fun i G2 C hi s2 hD2 k => ?_) (fun G2 ys s2 ly hy eD => ?_)⟩
    · rw [ls] at hi
      have hiu : i < ts.list.length := by rw [Fs.list_len]; exact hi
      obtain ⟨p, hp, hA⟩ := At.kids (.here (.mk sg ts)) (List.getElem?_eq_getElem hiu)
      have ei : (intsV (ts.starts (0 + 1))).getD i .non = .int (p : Nat) := by rw [List.getD_eq_getElem?_getD, ints_at hp]; rfl
      rw [ei]
      have sH2 := sG.trans s2
      refine ⟨_, rfl, a, dx, _, rfl, sH2 _ _ e1, rfl, _, rfl, a, wa, rows, _, p, _, rfl, ok.same sH2, hA, fun G3 b s3 hb ta => ?_⟩
      obtain ⟨lD, eD2⟩ := hD2
      exact k _ _ s3 ⟨b, _, rfl, List.getElem?_eq_getElem hiu, ta.hide (s3 _ _ eD2)⟩
    · rw [ls] at ly
      exact q G2 R ys (sG.trans s2) (sG.free hR) eD ⟨by rw [ly, Fs.list_len], fun i v hv => let ⟨b, u, x, y, z⟩ := hy i v hv; ⟨b, u, x, y, z⟩⟩
end

end TS

namespace TS
open PySem PySem.Spec PyProof.Rows L2 TL
theorem op_catAK {X : Cx} {K : PySem.W.Frag} (hK : X.K = K := by rfl) : OpR X (binaryOp .Add) (rCatA K) := by subst hK; exact op_catA

/-! ### Term.spots_with_places -/
def spotD (sp : List Nat) : PyData := .tuple (sp.map fun n => .int (n : Nat))
def spD (w : List Nat × Nat) : PyData := .tuple [spotD w.1, .int (w.2 : Nat)]
def spSWP (K : PySem.W.Frag) : Sp := fun vs H Q _ => ∃ (a wa : Addr) (t : Tm), vs = [.ref a] ∧ TmAt K H a wa t ∧ t.size ≤ 9999 ∧
  ∀ G l ys, Same H G → H l = none → G l = some (.lst ys) → DtAll K (hide G l) ys ((t.spotsP [] 0).map spD) → Q (.ref l) G
theorem dt_ints {K : PySem.W.Frag} {H : Hp} : ∀ ns : List Nat, DtAll K H (intsV ns) (ns.map fun n => PyData.int (n : Nat))
  | [] => .nil
  | n :: r => .cons (.int _) (dt_ints r)
theorem ints_of {K : PySem.W.Frag} {H : Hp} : ∀ {ns : List Nat} {xs : List V}, DtAll K H xs (ns.map fun n => PyData.int (n : Nat)) → xs = intsV ns
  | [], _, h => by cases h; rfl
  | n :: r, _, h => by
    cases h with
    | cons h0 t =>
      cases h0
      rw [ints_of t]
      rfl
theorem spot_of {K : PySem.W.Frag} {H : Hp} {v : V} {sp : List Nat} (h : Dt K H v (spotD sp)) : ∃ q, v = .ref q ∧ SqT K H q (intsV sp) := by
  obtain ⟨q, xs, rfl, hq, hA⟩ := h.tup_inv
  rw [ints_of hA] at hq
  exact ⟨q, rfl, hq⟩
theorem spd_of {K : PySem.W.Frag} {H : Hp} {v : V} {w : List Nat × Nat} (h : Dt K H v (spD w)) : ∃ T q, v = .ref T ∧ SqT K H T [.ref q, .int (w.2 : Nat)] ∧ SqT K H q (intsV w.1) := by
  obtain ⟨T, xs, rfl, hT, hA⟩ := h.tup_inv
  cases hA with
  | cons h0 t => cases t with
  | cons h1 t => cases t with
  | nil =>
  cases h1
  obtain ⟨q, rfl, hq⟩ := spot_of h0
  exact ⟨T, q, rfl, hT, hq⟩
theorem lay_ints : ∀ ns : List Nat, PyData.canLayAll0 (ns.map fun n => PyData.int (n : Nat)) = true ∧ PyData.depthAll (ns.map fun n => PyData.int (n : Nat)) = 0
  | [] => ⟨rfl, rfl⟩
  | n :: r => by
    rw [List.map_cons]
    unfold PyData.canLayAll0 PyData.depthAll
    rw [(lay_ints r).1, (lay_ints r).2]
    exact ⟨rfl, rfl⟩
theorem spd_lay (w : List Nat × Nat) : (spD w).canLay0 = true ∧ (spD w).depth ≤ 2 := by
  constructor
  · show PyData.canLayAll0 [spotD w.1, .int (w.2 : Nat)] = true
    unfold PyData.canLayAll0
    rw [show (spotD w.1).canLay0 = true from (lay_ints w.1).1]
    rfl
  · show PyData.depthAll [spotD w.1, .int (w.2 : Nat)] + 1 ≤ 2
    unfold PyData.depthAll
    rw [show (spotD w.1).depth = PyData.depthAll (w.1.map fun n => PyData.int (n : Nat)) + 1 from rfl, (lay_ints w.1).2]
    show max (0 + 1) (max 0 0) + 1 ≤ 2
    decide
theorem lay_all : ∀ {ds : List PyData}, (∀ e ∈ ds, e.canLay0 = true) → PyData.canLayAll0 ds = true
  | [], _ => rfl
  | d :: r, h => by unfold PyData.canLayAll0; rw [h d (by simp), lay_all fun x m => h x (List.mem_cons_of_mem _ m)]; rfl
theorem shaped_list {ds : List PyData} (h : ∀ e ∈ ds, e.canLay0 = true ∧ e.depth ≤ 30) : SeqAt.shaped (.list ds) = true := by
  unfold SeqAt.shaped
  rw [show (PyData.list ds).canLay0 = true by unfold PyData.canLay0; exact lay_all fun e m => (h e m).1, Bool.true_and]
  refine decide_eq_true ?_
  unfold PyData.depth
  have := all_deep fun e m => (h e m).2
  omega
theorem eqvAll_nil (l : List PyData) : PyData.eqv (.list l) (.list []) = l.isEmpty := by
  unfold PyData.eqv
  cases l <;> rfl
mutual
theorem Dt.dp {K : PySem.W.Frag} {H : Hp} : ∀ {v : V} {d : PyData}, Dt K H v d → d.canLay0 = true → Dp K H v d
  | _, _, .non, _ => .non
  | _, _, .bl b, _ => .bl b
  | _, _, .int i, _ => .int i
  | _, _, .str x, _ => .str x
  | _, _, .lst h a, c => .lst h (DtAll.dp a (by simpa [PyData.canLay0] using c))
  | _, _, .tup h a, c => .tup h (DtAll.dp a (by simpa [PyData.canLay0] using c))
  | _, _, .dct _ _ _, c => by simp [PyData.canLay0] at c
theorem DtAll.dp {K : PySem.W.Frag} {H : Hp} : ∀ {v : List V} {d : List PyData}, DtAll K H v d → PyData.canLayAll0 d = true → DpAll K H v d
  | _, _, .nil, _ => .nil
  | _, _, .cons a b, c => by
    unfold PyData.canLayAll0 at c
    obtain ⟨c1, c2⟩ := Bool.and_eq_true_iff.mp c
    exact .cons (Dt.dp a c1) (DtAll.dp b c2)
end
theorem DtAll.concat_inv {K : PySem.W.Frag} {H : Hp} : ∀ {ds : List PyData} {xs : List V} {d : PyData}, DtAll K H xs (ds ++ [d]) → ∃ ys y, xs = ys ++ [y] ∧ DtAll K H ys ds ∧ Dt K H y d
  | [], _, d, h => by
    cases h with
    | cons h0 t => cases t with
    | nil => exact ⟨[], _, rfl, .nil, h0⟩
  | e :: r, _, d, h => by
    cases h with
    | cons h0 t =>
      obtain ⟨ys, y, rfl, a, b⟩ := DtAll.concat_inv t
      exact ⟨_ :: ys, y, rfl, .cons h0 a, b⟩
theorem DtAll.reverse {K : PySem.W.Frag} {H : Hp} : ∀ {ds : List PyData} {xs : List V}, DtAll K H xs ds → DtAll K H xs.reverse ds.reverse
  | _, _, .nil => .nil
  | _, _, .cons h0 t => by
    rw [List.reverse_cons, List.reverse_cons]
    exact DtAll.append (DtAll.reverse t) (.cons h0 .nil)
theorem hide2_same {H : Hp} {b D : Addr} : Same (hide2 H b D) H := fun a o e => hide_same _ _ (hide_same _ _ e)
theorem hide2_out {H : Hp} {b D a : Addr} {o : HO} (e : hide2 H b D a = some o) : a ≠ b ∧ a ≠ D := by
  have h2 : a ≠ D := fun z => by
    have e' : hide (hide H b) D a = some o := e
    rw [z, hide_self] at e'; cases e'
  refine ⟨fun z => ?_, h2⟩
  have e' : hide (hide H b) D a = some o := e
  rw [hide_ne h2, z, hide_self] at e'
  cases e'
section
variable {P : Program} {w : World} {K : PySem.W.Frag} {mg : Str → Option Value} {base : Heap}
theorem sc_Term_spots_with_places : FnScope ["self", "found", "waiting", "spot", "at", "some", "number", "start"] ["self"] (defScope s_Term_spots_with_places) := ⟨rfl, rfl, rfl, by decide +kernel, rfl, by decide +kernel, by decide +kernel⟩

set_option maxHeartbeats 800000 in
theorem ok_Term_swp (bt : Bt mg) (cl_Term : Cls K (tcls K)) (mm_Term_starts : Meth K (tcls K) "starts" (He.ma K (tcls K) "starts")) (p_Term_starts : PromA CX0 P w K mg base 1 (He.ma K (tcls K) "starts") ["self", "at"] (spStarts K))
    (D : DefM K (He.ma K (tcls K) "spots_with_places") "spots_with_places" "Term.spots_with_places" s_Term_spots_with_places) : PromA CX0 P w K mg base 2 (He.ma K (tcls K) "spots_with_places") ["self"] (spSWP K) := by
  refine meth_mk D sc_Term_spots_with_places (fun vs H Q E h => ?_) (fun _ _ _ _ _ _ us hl => match us, hl with | [_], _ => rfl) (fun cdv A outer s H vs Q E hr h => ?_)
  · obtain ⟨a, wa, t, rfl, _⟩ := h
    rfl
  · obtain ⟨a, wa, t, rfl, hT, ht, q⟩ := h
    obtain ⟨dx, sa, ea, e1, e2, e3⟩ := id hT
    refine ⟨_, (pss_cons (ps_set (i := 1) sc_Term_spots_with_places.nd rfl (Or.inl rfl) (pe_lst pa_nil))
      (pss_cons (ps_set (i := 2) sc_Term_spots_with_places.nd rfl (Or.inl rfl) (pe_lst (pa_cons (pe_tup (pa_cons (pe_tup pa_nil) (pa_cons pe_int pa_nil))) pa_nil)))
      (pss_cons (ps_while PassesOwn.never (pt_cmpR (op_neDK (K := K) hr.units) (pv 2) (pe_lst pa_nil) (nomark _)) (pss_cons (ps_asg (pe_bm0 PySem.F.plainAttrs_list PySem.F.slot_list_pop PySem.F.type_list_pop mt_pop (pv 2)) (pg_tupK (K := K) (n := 2) rfl rfl (pgs_cons (pg_name (i := 3) sc_Term_spots_with_places.nd rfl (Or.inr rfl)) (pgs_cons (pg_name (i := 4) sc_Term_spots_with_places.nd rfl (Or.inl rfl)) pgs_nil))))
      (pss_cons (ps_expr (pe_appendK (K := K) rfl (pv 1) (pe_tup (pa_cons (pv 3) (pa_cons (pv 4) pa_nil)))))
      (pss_cons (ps_setLc (i := 5) (own := [("number", 6), ("start", 7)]) rfl sc_Term_spots_with_places.nd rfl rfl (sw_true rfl rfl rfl (by decide +kernel)) (pi_enumK (K := K) rfl rfl bt.enumerate_ (pa_cons (pe_pm cl_Term mm_Term_starts p_Term_starts (hr.mono (by decide)) (pv 0) (pa_cons (pv 4) pa_nil)) pa_nil)) (blkOk_by (N := ["self", "found", "waiting", "spot", "at", "some", "number", "start"]) (sc := defScope s_Term_spots_with_places) (by decide +kernel)) (fun _ _ _ _ _ => (pg_tupK (K := K) (n := 2) rfl rfl (pgs_cons (pg_name (i := 6) sc_Term_spots_with_places.nd rfl (Or.inl rfl)) (pgs_cons (pg_name (i := 7) sc_Term_spots_with_places.nd rfl (Or.inl rfl)) pgs_nil)))) (fun _ _ _ _ _ => pts_nil) (fun _ _ _ _ _ => (pe_tup (pa_cons (pe_op (op_catAK (K := K)) (pv 3) (pe_tup (pa_cons (pv 6) pa_nil))) (pa_cons (pv 7) pa_nil)))))
      (pss_one (ps_expr (pe_bm PySem.F.plainAttrs_list PySem.F.slot_list_extend PySem.F.type_list_extend mt_extend (pv 2) (pa_cons (pe_revL (pv 5)) pa_nil))))))))
      (pss_one (ps_ret (pv 1)))))), ?_⟩
    refine ⟨(by show 0 ≤ sizeLine; decide), fun F hF => ?_⟩
    (generalize hG : L2.upd _ F _ = H1; have sF := same_of hG hF; have eF := at_of hG; clear hG)
    refine ⟨(by show 0 ≤ sizeLine; decide), fun T0 hT0 => ?_⟩
    (generalize hG : L2.upd _ T0 _ = H2; have sT0 := same_of hG hT0; have eT0 := at_of hG; clear hG)
    refine ⟨(by show 2 ≤ sizeLine; decide), fun T1 hT1 => ?_⟩
    (generalize hG : L2.upd _ T1 _ = H3; have sT1 := same_of hG hT1; have eT1 := at_of hG; clear hG)
    refine ⟨(by show 1 ≤ sizeLine; decide), fun Wt hWt => ?_⟩
    (generalize hG : L2.upd _ Wt _ = H4; have sWt := same_of hG hWt; have eWt := at_of hG; clear hG)
    have hF0 := hF
    have hW0 : H Wt = none := sF.free (sT0.free (sT1.free hWt))
    have sH4 := ((sF.trans sT0).trans sT1).trans sWt
    have nFW : F ≠ Wt := fun e => by rw [← e, sT1 _ _ (sT0 _ _ eF)] at hWt; cases hWt
    have nT0 : T0 ≠ F ∧ T0 ≠ Wt := ⟨fun e => (by rw [e, eF] at hT0; cases hT0), fun e => (by rw [← e, sT1 _ _ eT0] at hWt; cases hWt)⟩
    have nT1 : T1 ≠ F ∧ T1 ≠ Wt := ⟨fun e => (by rw [e, sT0 _ _ eF] at hT1; cases hT1), fun e => (by rw [← e, eT1] at hWt; cases hWt)⟩
    refine ⟨fun m τ G => ∃ (fs : List (List Nat × Nat)) (ws : List (List Nat × Nat × Tm)) (fv wv : List V), m = (ws.map fun w => w.2.2.size).sum ∧ (∃ x3 x4 x5 x6 x7, τ = [some (.ref a), some (.ref F), some (.ref Wt), x3, x4, x5, x6, x7]) ∧ Same H G ∧ G F = some (.lst fv) ∧ G Wt = some (.lst wv) ∧
      DtAll K (hide2 G F Wt) fv (fs.map spD) ∧ DtAll K (hide2 G F Wt) wv (ws.map fun w => spD (w.1, w.2.1)) ∧ (∀ w ∈ ws, At t w.2.1 w.2.2) ∧ (∀ w ∈ ws, w.1.length ≤ w.2.1) ∧ fs ++ ws.reverse.flatMap (fun w => w.2.2.spotsP w.1 w.2.1) = t.spotsP [] 0,
      ⟨_, [], [([], 0, t)], [], [.ref T1], rfl, ⟨_, _, _, _, _, rfl⟩, sH4, sWt _ _ (sT1 _ _ (sT0 _ _ eF)), eWt, .nil, .cons (.tup (.inl (.inl (hide2_at nT1.1 nT1.2 (sWt _ _ eT1)))) (.cons (.tup (.inl (.inl (hide2_at nT0.1 nT0.2 (sWt _ _ (sT1 _ _ eT0))))) .nil) (.cons (.int 0) .nil))) .nil,
        fun w hw => by rw [List.mem_singleton.mp hw]; exact .here t, fun w hw => by rw [List.mem_singleton.mp hw]; exact Nat.zero_le _, by simp⟩, ?_⟩
    rintro m τ G ⟨fs, ws, fv, wv, rfl, ⟨x3, x4, x5, x6, x7, rfl⟩, sG, eF', eW', hfv, hwv, hat, hsp, htot⟩
    have hlt : fs.length + ((ws.map fun w => w.2.2.size).sum) = t.size := by
      have h1 := congrArg List.length htot
      rw [List.length_append, Tm.spotsP_len] at h1
      have : ∀ ws : List (List Nat × Nat × Tm), (ws.flatMap fun w => w.2.2.spotsP w.1 w.2.1).length = (ws.map fun w => w.2.2.size).sum := fun ws => by
        induction ws with
        | nil => rfl
        | cons w r ih => rw [List.flatMap_cons, List.length_append, ih, Tm.spotsP_len, List.map_cons, List.sum_cons]
      rw [this, List.map_reverse, List.sum_reverse] at h1
      exact h1
    refine ⟨_, rfl, (by show 0 ≤ sizeLine; decide), fun N hN => ?_⟩
    (generalize hG : L2.upd _ N _ = G1; have sN := same_of hG hN; have eN := at_of hG; clear hG)
    have eF1 := sN _ _ eF'
    have eW1 := sN _ _ eW'
    have hz1 : Same (hide2 G F Wt) (hide2 G1 F Wt) := hide2_fx fun b o _ _ e => sN _ _ e
    have ll : ∀ e ∈ ws.map (fun w => spD (w.1, w.2.1)), e.canLay0 = true ∧ e.depth ≤ 30 := fun e he => by
      obtain ⟨w, _, rfl⟩ := List.mem_map.mp he
      exact ⟨(spd_lay _).1, Nat.le_trans (spd_lay _).2 (by decide)⟩
    refine ⟨_, _, Dp.lst (.inl (.inl eW1)) ((DtAll.same (hz1.trans hide2_same) hwv).dp (lay_all fun e he => (ll e he).1)), Dp.lst (.inl (.inl eN)) .nil, shaped_list ll, by decide +kernel, _, rfl, ?_⟩
    rw [eqvAll_nil]
    rcases List.eq_nil_or_concat ws with ew | ⟨ws0, ⟨sp, p, u⟩, ew⟩
    · subst ew
      refine iteF ⟨_, rfl, ?_⟩
      have hz2 : Same (hide2 G F Wt) (hide G1 F) := fun b o e => by
        rw [hide_ne (hide2_out e).1]
        exact sN _ _ (hide2_same _ _ e)
      have ht' : fs = t.spotsP [] 0 := by
        have h1 : fs ++ [] = t.spotsP [] 0 := htot
        rw [List.append_nil] at h1
        exact h1
      rw [ht'] at hfv
      exact q G1 F fv (sG.trans sN) hF eF1 (DtAll.same hz2 hfv)
    · rw [List.concat_eq_append] at ew
      subst ew
      rw [List.map_append] at hwv
      obtain ⟨wv0, y, rfl, hwv0, hy⟩ := DtAll.concat_inv hwv
      obtain ⟨T, qa, rfl, hT', hq⟩ := spd_of hy
      have hA : At t p u := hat (sp, p, u) (by simp)
      cases u with
      | mk sg ts =>
      have ne : ((ws0 ++ [(sp, p, Tm.mk sg ts)]).map fun w => spD (w.1, w.2.1)).isEmpty = false := by simp
      rw [ne]
      rw [List.map_append, List.sum_append] at hlt
      have hlt' : fs.length + ((ws0.map fun w => w.2.2.size).sum + (ts.size + 1 + 0)) = t.size := hlt
      have lw0 : wv0.length = ws0.length := by rw [hwv0.length, List.length_map]
      have lws : ws0.length ≤ (ws0.map fun w => w.2.2.size).sum := by
        have : ∀ l : List (List Nat × Nat × Tm), l.length ≤ (l.map fun w => w.2.2.size).sum := fun l => by
          induction l with
          | nil => exact Nat.le_refl _
          | cons x r ih =>
            rw [List.length_cons, List.map_cons, List.sum_cons]
            have := x.2.2.size_pos
            omega
        exact this ws0
      have lfv : fv.length = fs.length := by rw [hfv.length, List.length_map]
      refine iteT ⟨_, fun τ' G' h => h, ?_⟩
      refine ⟨_, rfl, .inl ⟨rfl, _, .inl (.inl eW1)⟩, Wt, _, .ref T, rfl, rfl, eW1, by simp, ?_⟩
      rw [List.dropLast_concat]
      have k2 : ∀ b o, b ≠ Wt → G1 b = some o → L2.upd G1 Wt (.lst wv0) b = some o := fun b o h e => by rw [upd_ne h]; exact e
      have eW2 : L2.upd G1 Wt (.lst wv0) Wt = some (.lst wv0) := upd_same ..
      have eF2 := k2 F _ nFW eF1
      generalize L2.upd G1 Wt (.lst wv0) = G2 at k2 eW2 eF2 ⊢
      have hz2 : Same (hide2 G F Wt) (hide2 G2 F Wt) := hide2_fx fun b o _ h e => k2 b o h (sN _ _ e)
      have sH2 : Same H G2 := fun b o e => k2 b o (ne_of_none e hW0) (sN _ _ (sG _ _ e))
      refine ⟨T, _, rfl, SqT.same (hz2.trans hide2_same) hT', rfl, _, _, rfl, _, _, rfl, rfl, ?_⟩
      refine ⟨_, rfl, .inl ⟨rfl, _, .inl (.inl eF2)⟩, _, rfl, _, rfl, (by show 2 ≤ sizeLine; decide), fun T2 hT2 => ?_⟩
      (generalize hG : L2.upd _ T2 _ = G3; have sT2 := same_of hG hT2; have eT2 := at_of hG; clear hG)
      refine ⟨F, _, _, rfl, rfl, sT2 _ _ eF2, sz5' (by omega), ?_⟩
      have k4 : ∀ b o, b ≠ F → G3 b = some o → L2.upd G3 F (.lst (fv ++ [.ref T2])) b = some o := fun b o h e => by rw [upd_ne h]; exact e
      have eF4 : L2.upd G3 F (.lst (fv ++ [.ref T2])) F = some (.lst (fv ++ [.ref T2])) := upd_same ..
      have eW4 := k4 Wt _ (Ne.symm nFW) (sT2 _ _ eW2)
      have nT2F : T2 ≠ F := fun e => by rw [e, eF2] at hT2; cases hT2
      have nT2W : T2 ≠ Wt := fun e => by rw [e, eW2] at hT2; cases hT2
      have eT4 := k4 T2 _ nT2F eT2
      generalize L2.upd G3 F (.lst (fv ++ [.ref T2])) = G4 at k4 eF4 eW4 eT4 ⊢
      have hz4 : Same (hide2 G F Wt) (hide2 G4 F Wt) := hz2.trans (hide2_fx fun b o h _ e => k4 b o h (sT2 _ _ e))
      have sH4' : Same H G4 := fun b o e => k4 b o (ne_of_none e hF) (sT2 _ _ (sH2 _ _ e))
      refine ⟨_, rfl, a, dx, _, rfl, sH4' _ _ e1, rfl, _, rfl, a, wa, t, p, sg, ts, rfl, hT.same sH4', Nat.le_trans ht (by decide), hA, fun G5 l s5 hl el => ?_⟩
      have lst : (intsV (ts.starts (p + 1))).length = ts.len := by unfold intsV; rw [List.length_map, Fs.starts_len]
      have tls := Fs.len_size ts
      have hq5 : SqT K (hide2 G4 F Wt) qa (intsV sp) := SqT.same hz4 hq
      have eF5 := s5 _ _ eF4
      have eW5 := s5 _ _ eW4
      obtain ⟨en, een⟩ : ∃ en, en = ts.ents sp 0 (p + 1) := ⟨_, rfl⟩
      have len_ : en.length = ts.len := by rw [een, Fs.ents_len]
      refine ⟨l, _, rfl, .inl (.inl el), fun R hR => lc_it walk_enum (fun i G' => Same G5 G' ∧ ∃ acc, G' R = some (.lst acc) ∧ acc.length = i ∧ DtAll K (hide (hide2 G' F Wt) R) acc ((en.take i).map fun w => spD (w.1, w.2.1)))
        ⟨Same.new (Same.refl _) hR, [], upd_same .., rfl, .nil⟩ (fun i G' _ p => .inl (.inl (p.1 _ _ el))) ?_ ?_⟩
      · rintro i v E1 E2 hi ⟨s6, acc, eR, la, hac⟩ ⟨Tp, y, x, rfl, hTp, rfl, ey, hx⟩
        cases ey
        rw [lst] at hi
        have hiu : i < ts.list.length := by rw [Fs.list_len]; exact hi
        obtain ⟨pi, hp, he⟩ := ts.ents_at sp 0 (p + 1) i _ (List.getElem?_eq_getElem hiu)
        rw [← een] at he
        have ex : x = .int (pi : Nat) := by
          have h1 : (intsV (ts.starts (p + 1)))[i]? = some x := hx
          rw [ints_at hp] at h1
          exact (Option.some.inj h1).symm
        subst ex
        have nRF : R ≠ F := fun e => by rw [e, eF5] at hR; cases hR
        have nRW : R ≠ Wt := fun e => by rw [e, eW5] at hR; cases hR
        have fin : ∀ (E6 : Hp) (U' : Addr), Same E1 E6 → SqT K (hide (hide2 E6 F Wt) R) U' (intsV (sp ++ [0 + i])) → ∀ V, E6 V = none → ∃ acc, L2.upd E6 V (.tup [.ref U', .int (pi : Nat)]) R = some (.lst acc) ∧ acc.length < sizeLine ∧
            (Same G5 (L2.upd (L2.upd E6 V (.tup [.ref U', .int (pi : Nat)])) R (.lst (acc ++ [.ref V]))) ∧ ∃ acc', L2.upd (L2.upd E6 V (.tup [.ref U', .int (pi : Nat)])) R (.lst (acc ++ [.ref V])) R = some (.lst acc') ∧ acc'.length = i + 1 ∧ DtAll K (hide (hide2 (L2.upd (L2.upd E6 V (.tup [.ref U', .int (pi : Nat)])) R (.lst (acc ++ [.ref V]))) F Wt) R) acc' ((en.take (i + 1)).map fun w => spD (w.1, w.2.1))) := by
          intro E6 U' s16 hU' V hV
          have eR6 := s16 _ _ eR
          have nVR : V ≠ R := fun e => by rw [e, eR6] at hV; cases hV
          have nVF : V ≠ F := fun e => by rw [e, s16 _ _ (s6 _ _ eF5)] at hV; cases hV
          have nVW : V ≠ Wt := fun e => by rw [e, s16 _ _ (s6 _ _ eW5)] at hV; cases hV
          refine ⟨acc, by rw [upd_ne (Ne.symm nVR)]; exact eR6, sz5' (by omega), Same.keep' ((s6.trans s16).trans (Same.new (Same.refl _) hV)) hR, acc ++ [.ref V], upd_same .., by rw [List.length_append, la]; rfl, ?_⟩
          have up : ∀ b o, b ≠ R → E6 b = some o → L2.upd (L2.upd E6 V (.tup [.ref U', .int (pi : Nat)])) R (.lst (acc ++ [.ref V])) b = some o := fun b o h e => by
            rw [upd_ne h, upd_ne (ne_of_none e hV)]
            exact e
          have hid : Same (hide (hide2 E6 F Wt) R) (hide (hide2 (L2.upd (L2.upd E6 V (.tup [.ref U', .int (pi : Nat)])) R (.lst (acc ++ [.ref V]))) F Wt) R) := fun b o e => by
            have hb : b ≠ R := fun z => by rw [z, hide_self] at e; cases e
            rw [hide_ne hb] at e ⊢
            exact hide2_at (hide2_out e).1 (hide2_out e).2 (up b o hb (hide2_same _ _ e))
          rw [take_map (fun w : List Nat × Nat × Tm => spD (w.1, w.2.1)) he]
          refine DtAll.append (DtAll.same (fun b o e => ?_) hac) (.cons (.tup (.inl (.inl ?_)) (.cons (.tup (SqT.same hid hU') (dt_ints _)) (.cons (.int _) .nil))) .nil)
          · have hb : b ≠ R := fun z => by rw [z, hide_self] at e; cases e
            rw [hide_ne hb] at e ⊢
            exact hide2_at (hide2_out e).1 (hide2_out e).2 (up b o hb (s16 _ _ (hide2_same _ _ e)))
          · rw [hide_ne nVR]
            exact hide2_at nVF nVW (by rw [upd_ne nVR, upd_same])
        have sq6 : ∀ {E6 : Hp}, Same E1 E6 → SqT K (hide (hide2 E6 F Wt) R) qa (intsV sp) := fun {E6} s16 => SqT.same (fun b o e => by
          have e4 : G4 b = some o := hide2_same _ _ e
          have hb : b ≠ R := ne_of_none (s5 _ _ e4) hR
          rw [hide_ne hb]
          exact hide2_at (hide2_out e).1 (hide2_out e).2 (s16 _ _ (s6 _ _ (s5 _ _ e4)))) hq5
        (generalize hG : L2.upd _ Tp _ = E3; have sTp := same_of hG hTp; have eTp := at_of hG; clear hG)
        refine ⟨Tp, _, rfl, .inl (.inl eTp), rfl, _, _, rfl, _, _, rfl, rfl, rfl, yes (iteT ?_)⟩
        refine ⟨_, rfl, _, rfl, (by show 1 ≤ sizeLine; decide), fun U hU => ?_⟩
        (generalize hG : L2.upd _ U _ = E4; have sU := same_of hG hU; have eU := at_of hG; clear hG)
        have s14 := sTp.trans sU
        have nUR : U ≠ R := fun e => by rw [e, sTp _ _ eR] at hU; cases hU
        have nUF : U ≠ F := fun e => by rw [e, sTp _ _ (s6 _ _ eF5)] at hU; cases hU
        have nUW : U ≠ Wt := fun e => by rw [e, sTp _ _ (s6 _ _ eW5)] at hU; cases hU
        have e0 : (0 + i) = i := Nat.zero_add i
        have lsp : sp.length ≤ p := hsp (sp, p, Tm.mk sg ts) (by simp)
        have lpt := (hA.seg 0).le
        rw [Tm.flat_len] at lpt
        refine ⟨qa, U, _, _, rfl, rfl, SqT.same (hide_same.trans hide2_same) (sq6 s14), .inl (.inl eU), ?_, fun h0 => ?_, fun _ h => (by cases h), fun h0 _ C hC => ?_⟩
        · unfold intsV
          rw [List.length_map]
          exact sz5 (by show sp.length + 1 ≤ 100000; omega)
        · have e1' : sp = [] := by
            unfold intsV at h0
            exact List.map_eq_nil_iff.mp h0
          refine ⟨_, rfl, (by show 2 ≤ sizeLine; decide), fun V hV => fin E4 U s14 ?_ V hV⟩
          rw [e1', e0]
          exact .inl (.inl (by rw [hide_ne nUR]; exact hide2_at nUF nUW eU))
        · have eC0 : intsV sp ++ [V.int (i : Nat)] = intsV (sp ++ [0 + i]) := by
            unfold intsV
            rw [List.map_append, e0]
            rfl
          rw [eC0]
          (generalize hG : L2.upd _ C _ = E5; have sC := same_of hG hC; have eC := at_of hG; clear hG)
          have nCR : C ≠ R := fun e => by rw [e, s14 _ _ eR] at hC; cases hC
          have nCF : C ≠ F := fun e => by rw [e, s14 _ _ (s6 _ _ eF5)] at hC; cases hC
          have nCW : C ≠ Wt := fun e => by rw [e, s14 _ _ (s6 _ _ eW5)] at hC; cases hC
          exact ⟨_, rfl, (by show 2 ≤ sizeLine; decide), fun V hV => fin E5 C (s14.trans sC) (.inl (.inl (by rw [hide_ne nCR]; exact hide2_at nCF nCW eC))) V hV⟩
      · rintro E1 ⟨s6, acc, eR, la, hac⟩
        rw [lst] at la hac
        rw [List.take_of_length_le (by omega)] at hac
        have eW6 := s6 _ _ eW5
        refine ⟨_, rfl, .inl ⟨rfl, _, .inl (.inl eW6)⟩, _, rfl, R, _, rfl, .inl (.inl eR), fun V hV => ?_⟩
        (generalize hG : L2.upd _ V _ = E2; have sV := same_of hG hV; have eV := at_of hG; clear hG)
        refine ⟨Wt, V, _, _, rfl, rfl, sV _ _ eW6, eV, ?_, ?_⟩
        · rw [List.length_reverse]
          exact sz5 (by omega)
        have up : ∀ b o, b ≠ Wt → E2 b = some o → L2.upd E2 Wt (.lst (wv0 ++ acc.reverse)) b = some o := fun b o h e => by rw [upd_ne h]; exact e
        have s46 := (s5.trans s6).trans sV
        have hzz : Same (hide2 G4 F Wt) (hide2 (L2.upd E2 Wt (.lst (wv0 ++ acc.reverse))) F Wt) := hide2_fx fun b o _ h e => up b o h (s46 _ _ e)
        refine ⟨_, ?_, fs ++ [(sp, p)], ws0 ++ en.reverse, fv ++ [.ref T2], wv0 ++ acc.reverse, rfl, ⟨_, _, _, _, _, rfl⟩, fun b o e => up b o (ne_of_none e hW0) (s46 _ _ (sH4' _ _ e)), up F _ nFW (s46 _ _ eF4), upd_same .., ?_, ?_, ?_, ?_, ?_⟩
        · rw [List.map_append, List.sum_append, List.map_reverse, List.sum_reverse, een, Fs.ents_sum, List.map_append, List.sum_append]
          show _ < _ + (ts.size + 1 + 0)
          omega
        · rw [List.map_append]
          refine DtAll.append (DtAll.same (hz4.trans hzz) hfv) (.cons (.tup (.inl (.inl (hzz _ _ (hide2_at nT2F nT2W eT4)))) (.cons (.tup (SqT.same hzz hq5) (dt_ints _)) (.cons (.int _) .nil))) .nil)
        · rw [List.map_append, List.map_reverse]
          refine DtAll.append (DtAll.same (hz4.trans hzz) hwv0) (DtAll.reverse (DtAll.same (fun b o e => ?_) hac))
          have hb : b ≠ R := fun z => by rw [z, hide_self] at e; cases e
          rw [hide_ne hb] at e
          exact hide2_at (hide2_out e).1 (hide2_out e).2 (up b o (hide2_out e).2 (sV _ _ (hide2_same _ _ e)))
        · intro w hw
          rcases List.mem_append.mp hw with m | m
          · exact hat w (List.mem_append_left _ m)
          · obtain ⟨k, hk⟩ := List.mem_iff_getElem?.mp (List.mem_reverse.mp m)
            have hkl : k < ts.list.length := by
              have := (List.getElem?_eq_some_iff.mp hk).1
              rw [Fs.list_len]
              omega
            obtain ⟨pk, h1, h2⟩ := ts.ents_at sp 0 (p + 1) k _ (List.getElem?_eq_getElem hkl)
            rw [← een, hk] at h2
            cases h2
            obtain ⟨qk, h3, h4⟩ := hA.kids (List.getElem?_eq_getElem hkl)
            rw [h1] at h3
            cases h3
            exact h4
        · intro w hw
          rcases List.mem_append.mp hw with m | m
          · exact hsp w (List.mem_append_left _ m)
          · obtain ⟨k, hk⟩ := List.mem_iff_getElem?.mp (List.mem_reverse.mp m)
            have hkl : k < ts.list.length := by
              have := (List.getElem?_eq_some_iff.mp hk).1
              rw [Fs.list_len]
              omega
            obtain ⟨pk, h1, h2⟩ := ts.ents_at sp 0 (p + 1) k _ (List.getElem?_eq_getElem hkl)
            rw [← een, hk] at h2
            cases h2
            have h3 := Fs.starts_ge _ _ _ _ h1
            have h4 : sp.length ≤ p := hsp (sp, p, Tm.mk sg ts) (by simp)
            show (sp ++ [0 + k]).length ≤ pk
            rw [List.length_append]
            show sp.length + 1 ≤ pk
            omega
        · rw [← htot, List.reverse_append, List.reverse_reverse, List.reverse_append, List.flatMap_append, List.flatMap_append, een, Fs.ents_spots, List.append_assoc, show [(sp, p, Tm.mk sg ts)].reverse = [(sp, p, Tm.mk sg ts)] from rfl, List.flatMap_cons, List.flatMap_nil, List.append_nil]
          rfl
end

end TS

namespace TS
open PySem PySem.Spec PyProof.Rows L2 TL

/-! ### Term: spots, deep, letters, head, len, words -/
def spotsOf (t : Tm) : List (List Nat) := (t.spotsP [] 0).map (·.1)
theorem spotsOf_len (t : Tm) : (spotsOf t).length = t.size := by unfold spotsOf; rw [List.length_map, Tm.spotsP_len]
def spSpots (K : PySem.W.Frag) : Sp := fun vs H Q _ => ∃ (a wa : Addr) (t : Tm), vs = [.ref a] ∧ TmAt K H a wa t ∧ t.size ≤ 9999 ∧
  ∀ G l ys, Same H G → H l = none → G l = some (.lst ys) → DtAll K (hide G l) ys ((spotsOf t).map spotD) → Q (.ref l) G
/-- how deep: the longest spot -/
def IsDeep (t : Tm) (m : Nat) : Prop := m ∈ (spotsOf t).map (·.length) ∧ ∀ n ∈ (spotsOf t).map (·.length), n ≤ m
def spDeep (K : PySem.W.Frag) : Sp := fun vs H Q _ => ∃ (a wa : Addr) (t : Tm), vs = [.ref a] ∧ TmAt K H a wa t ∧ t.size ≤ 9999 ∧ ∀ G m, Same H G → IsDeep t m → Q (.int (m : Nat)) G
/-- letters as they first come -/
def letsF (acc : List Str) (z : Str) : List Str := if letterL (tl z) && !decide (z ∈ acc) then acc ++ [z] else acc
def letsOf (zs : List Str) : List Str := zs.foldl letsF []
def spLets (K : PySem.W.Frag) : Sp := fun vs H Q _ => ∃ (a wa : Addr) (t : Tm), vs = [.ref a] ∧ TmAt K H a wa t ∧ t.size ≤ 9999 ∧ Short t.flat ∧ ∀ G l, Same H G → H l = none → G l = some (.lst ((letsOf t.flat).map V.str)) → Q (.ref l) G
def spHead (K : PySem.W.Frag) : Sp := fun vs H Q _ => ∃ (a wa : Addr) (s : Str) (ts : Fs), vs = [.ref a] ∧ TmAt K H a wa (.mk s ts) ∧ Q (.str s) H
def spTLen (K : PySem.W.Frag) : Sp := fun vs H Q _ => ∃ (a wa : Addr) (t : Tm), vs = [.ref a] ∧ TmAt K H a wa t ∧ Q (.int (t.size : Nat)) H
def spTWords (K : PySem.W.Frag) : Sp := fun vs H Q _ => ∃ (a wa : Addr) (t : Tm), vs = [.ref a] ∧ TmAt K H a wa t ∧ Q (.ref wa) H
theorem letsF_len (acc : List Str) (z : Str) : (letsF acc z).length ≤ acc.length + 1 := by
  unfold letsF
  split
  · rw [List.length_append]; exact Nat.le_refl _
  · omega
def lkV (z : Str) : Key × V := (Sum.inr z, .bl true)
theorem put_lets {acc : List Str} {z : Str} (h : letterL (tl z) = true) : putK (acc.map lkV) (Sum.inr z) (.bl true) = (letsF acc z).map lkV := by
  unfold letsF
  rw [h, Bool.true_and]
  by_cases hm : z ∈ acc
  · rw [decide_eq_true hm]
    show putK _ _ _ = acc.map lkV
    unfold putK
    split
    · rw [List.map_map]
      refine List.map_congr_left fun y _ => ?_
      show (if (Sum.inr y : Key) = Sum.inr z then (Sum.inr y, V.bl true) else (Sum.inr y, V.bl true)) = _
      split <;> rfl
    · rename_i hn
      exact absurd (List.any_eq_true.mpr ⟨lkV z, List.mem_map_of_mem hm, decide_eq_true rfl⟩) hn
  · rw [decide_eq_false hm]
    show putK _ _ _ = (acc ++ [z]).map lkV
    rw [putK_new _ (valV_none fun kv hkv e => ?_), List.map_append]
    · rfl
    · obtain ⟨y, hy, rfl⟩ := List.mem_map.mp hkv
      exact hm (by rw [← Sum.inr.inj e]; exact hy)
section
variable {P : Program} {w : World} {K : PySem.W.Frag} {mg : Str → Option Value} {base : Heap}
theorem sc_Term_words : FnScope ["self"] ["self"] (defScope s_Term_words) := ⟨rfl, rfl, rfl, by decide +kernel, rfl, by decide +kernel, by decide +kernel⟩

theorem ok_Term_words (cl : Cls K (tcls K)) (nb : NoAttr K (tcls K) "term_words") (D : DefM K (He.ma K (tcls K) "words") "words" "Term.words" s_Term_words) : PromA CX0 P w K mg base 1 (He.ma K (tcls K) "words") ["self"] (spTWords K) := by
  refine meth_mk D sc_Term_words (fun vs H Q E h => ?_) (fun _ _ _ _ _ _ us hl => match us, hl with | [_], _ => rfl) (fun cdv A outer s H vs Q E hr h => ?_)
  · obtain ⟨a, wa, t, rfl, _⟩ := h
    rfl
  · obtain ⟨a, wa, t, rfl, ⟨dx, sa, ea, e1, e2, e3⟩, q⟩ := h
    refine ⟨_, (pss_one (ps_ret (pe_fld (pv 0) rfl))), ?_⟩
    exact ⟨_, rfl, a, _, dx, _, _, rfl, e1, cl, nb, rfl, q⟩
theorem sc_Term_head : FnScope ["self"] ["self"] (defScope s_Term_head) := ⟨rfl, rfl, rfl, by decide +kernel, rfl, by decide +kernel, by decide +kernel⟩

theorem ok_Term_head (cl : Cls K (tcls K)) (nb : NoAttr K (tcls K) "all_signs") (D : DefM K (He.ma K (tcls K) "head") "head" "Term.head" s_Term_head) : PromA CX0 P w K mg base 1 (He.ma K (tcls K) "head") ["self"] (spHead K) := by
  refine meth_mk D sc_Term_head (fun vs H Q E h => ?_) (fun _ _ _ _ _ _ us hl => match us, hl with | [_], _ => rfl) (fun cdv A outer s H vs Q E hr h => ?_)
  · obtain ⟨a, wa, sg, ts, rfl, _⟩ := h
    rfl
  · obtain ⟨a, wa, sg, ts, rfl, ⟨dx, sa, ea, e1, e2, e3⟩, q⟩ := h
    refine ⟨_, (pss_one (ps_ret (pe_ix (ix_tupK (K := K)) (pe_fld (pv 0) rfl) pe_int (fun _ _ => rfl)))), ?_⟩
    exact ⟨_, rfl, a, _, dx, _, _, rfl, e1, cl, nb, rfl, sa, _, _, .str sg, rfl, rfl, e2, atI_nat (j := 0) rfl, q⟩
theorem sc_Term___len__ : FnScope ["self"] ["self"] (defScope s_Term___len__) := ⟨rfl, rfl, rfl, by decide +kernel, rfl, by decide +kernel, by decide +kernel⟩

theorem ok_Term_len (bt : Bt mg) (cl : Cls K (tcls K)) (nb : NoAttr K (tcls K) "all_signs") (D : DefM K (He.ma K (tcls K) "__len__") "__len__" "Term.__len__" s_Term___len__) : PromA CX0 P w K mg base 1 (He.ma K (tcls K) "__len__") ["self"] (spTLen K) := by
  refine meth_mk D sc_Term___len__ (fun vs H Q E h => ?_) (fun _ _ _ _ _ _ us hl => match us, hl with | [_], _ => rfl) (fun cdv A outer s H vs Q E hr h => ?_)
  · obtain ⟨a, wa, t, rfl, _⟩ := h
    rfl
  · obtain ⟨a, wa, t, rfl, ⟨dx, sa, ea, e1, e2, e3⟩, q⟩ := h
    refine ⟨_, (pss_one (ps_ret (pe_callB (id := "len") (lenK (K := K)) (by rfl) bt.len_ (by decide +kernel) (pa_cons (pe_fld (pv 0) rfl) pa_nil)))), ?_⟩
    refine ⟨_, rfl, a, _, dx, _, _, rfl, e1, cl, nb, rfl, _, _, rfl, .inr ⟨_, e2, rfl⟩, ?_⟩
    rw [List.length_map, Tm.flat_len]
    exact q
theorem sc_Term_spots : FnScope ["self", "at", "spot"] ["self"] (defScope s_Term_spots) := ⟨rfl, rfl, rfl, by decide +kernel, rfl, by decide +kernel, by decide +kernel⟩

set_option maxHeartbeats 800000 in
theorem ok_Term_spots (cl_Term : Cls K (tcls K)) (mm_Term_spots_with_places : Meth K (tcls K) "spots_with_places" (He.ma K (tcls K) "spots_with_places")) (p_Term_spots_with_places : PromA CX0 P w K mg base 2 (He.ma K (tcls K) "spots_with_places") ["self"] (spSWP K))
    (D : DefM K (He.ma K (tcls K) "spots") "spots" "Term.spots" s_Term_spots) : PromA CX0 P w K mg base 3 (He.ma K (tcls K) "spots") ["self"] (spSpots K) := by
  refine meth_mk D sc_Term_spots (fun vs H Q E h => ?_) (fun _ _ _ _ _ _ us hl => match us, hl with | [_], _ => rfl) (fun cdv A outer s H vs Q E hr h => ?_)
  · obtain ⟨a, wa, t, rfl, _⟩ := h
    rfl
  · obtain ⟨a, wa, t, rfl, hT, ht, q⟩ := h
    obtain ⟨dx, sa, ea, e1, e2, e3⟩ := id hT
    refine ⟨_, (pss_one (ps_ret (pe_lc (own := [("spot", 2), ("at", 1)]) rfl sc_Term_spots.nd (pi_listK (K := K) rfl (pe_pm0 cl_Term mm_Term_spots_with_places p_Term_spots_with_places (hr.mono (by decide)) (pv 0))) (blkOk_by (N := ["self", "at", "spot"]) (sc := defScope s_Term_spots) (by decide +kernel)) (fun _ _ _ _ _ => (pg_tupK (K := K) (n := 2) rfl rfl (pgs_cons (pg_name (i := 2) sc_Term_spots.nd rfl (Or.inl rfl)) (pgs_cons (pg_name (i := 1) sc_Term_spots.nd rfl (Or.inl rfl)) pgs_nil)))) (fun _ _ _ _ _ => pts_nil) (fun _ _ _ _ _ => (pv 2))))), ?_⟩
    refine ⟨_, rfl, a, dx, _, rfl, e1, rfl, a, wa, t, rfl, hT, ht, fun G l ys sG hl el hys => ?_⟩
    have ly := hys.length
    rw [List.length_map, Tm.spotsP_len] at ly
    refine ⟨l, rfl, ⟨_, .inl (.inl el)⟩, fun R hR => lc_it walk_list (fun i G' => Same G G' ∧ ∃ acc, G' R = some (.lst acc) ∧ acc.length = i ∧ DtAll K (hide G l) acc (((t.spotsP [] 0).take i).map fun w => spotD w.1)) ⟨Same.new (Same.refl _) hR, [], upd_same .., rfl, .nil⟩ (fun i G' _ p => .inl (.inl (p.1 _ _ el))) ?_ ?_⟩
    · rintro i x G1 G2 hi ⟨s1, acc, eR, la, hac⟩ ⟨rfl, hx⟩
      obtain ⟨di, hdi, hx2⟩ := hys.get hx
      obtain ⟨wi, hwi, rfl⟩ : ∃ wi, (t.spotsP [] 0)[i]? = some wi ∧ di = spD wi := by
        rw [List.getElem?_map] at hdi
        cases hq : (t.spotsP [] 0)[i]? with
        | none => rw [hq] at hdi; cases hdi
        | some wi => rw [hq] at hdi; cases hdi; exact ⟨wi, rfl, rfl⟩
      obtain ⟨T, qa, rfl, hT1, hq1⟩ := spd_of hx2
      refine ⟨T, _, rfl, SqT.same (hide_same.trans s1) hT1, rfl, _, _, rfl, _, _, rfl, rfl, rfl, yes (iteT ⟨_, rfl, acc, eR, sz5' (by omega), Same.keep' s1 hR, acc ++ [.ref qa], upd_same .., by rw [List.length_append, la]; rfl, ?_⟩)⟩
      rw [take_map (fun w : List Nat × Nat => spotD w.1) hwi]
      exact DtAll.append hac (.cons (.tup hq1 (dt_ints _)) .nil)
    · rintro G1 ⟨s1, acc, eR, la, hac⟩
      rw [List.take_of_length_le (by rw [Tm.spotsP_len, ← ly]; exact Nat.le_refl _)] at hac
      refine q G1 R acc (sG.trans s1) (sG.free hR) eR ?_
      unfold spotsOf
      rw [List.map_map]
      refine DtAll.same (fun b o e => ?_) hac
      have eb : G b = some o := hide_same _ _ e
      rw [hide_ne (ne_of_none eb hR)]
      exact s1 _ _ eb
theorem sc_Term_deep : FnScope ["self", "spot"] ["self"] (defScope s_Term_deep) := ⟨rfl, rfl, rfl, by decide +kernel, rfl, by decide +kernel, by decide +kernel⟩

set_option maxHeartbeats 800000 in
theorem ok_Term_deep (bt : Bt mg) (cl_Term : Cls K (tcls K)) (mm_Term_spots : Meth K (tcls K) "spots" (He.ma K (tcls K) "spots")) (p_Term_spots : PromA CX0 P w K mg base 3 (He.ma K (tcls K) "spots") ["self"] (spSpots K))
    (D : DefM K (He.ma K (tcls K) "deep") "deep" "Term.deep" s_Term_deep) : PromA CX0 P w K mg base 4 (He.ma K (tcls K) "deep") ["self"] (spDeep K) := by
  refine meth_mk D sc_Term_deep (fun vs H Q E h => ?_) (fun _ _ _ _ _ _ us hl => match us, hl with | [_], _ => rfl) (fun cdv A outer s H vs Q E hr h => ?_)
  · obtain ⟨a, wa, t, rfl, _⟩ := h
    rfl
  · obtain ⟨a, wa, t, rfl, hT, ht, q⟩ := h
    obtain ⟨dx, sa, ea, e1, e2, e3⟩ := id hT
    refine ⟨_, (pss_one (ps_ret (pe_callB (id := "max") (cr_max rfl) (by rfl) bt.max_ (by decide +kernel) (pa_cons (pe_lc (own := [("spot", 1)]) (g := gName 1) rfl sc_Term_deep.nd (pi_listK (K := K) rfl (pe_pm0 cl_Term mm_Term_spots p_Term_spots (hr.mono (by decide)) (pv 0))) (blkOk_by (N := ["self", "spot"]) (sc := defScope s_Term_deep) (by decide +kernel)) (fun _ _ _ _ _ => (pg_name (i := 1) sc_Term_deep.nd rfl (Or.inl rfl))) (fun _ _ _ _ _ => pts_nil) (fun _ _ _ _ _ => (pe_callB (id := "len") (lenK (K := K)) (by rfl) bt.len_ (by decide +kernel) (pa_cons (pv 1) pa_nil)))) pa_nil)))), ?_⟩
    refine ⟨_, rfl, a, dx, _, rfl, e1, rfl, a, wa, t, rfl, hT, ht, fun G l ys sG hl el hys => ?_⟩
    have ly := hys.length
    rw [List.length_map, spotsOf_len] at ly
    refine ⟨l, rfl, ⟨_, .inl (.inl el)⟩, fun R hR => lc_same walk_list (fun G' s => .inl (.inl (s _ _ el))) (by omega) (Same.refl _) hR (fun i => .int (((spotsOf t).getD i []).length : Nat)) (fun _ => rfl) ?_ ?_⟩
    · intro i x G1 C hx s1 k
      obtain ⟨di, hdi, hx2⟩ := hys.get hx
      obtain ⟨sp, hsp, rfl⟩ : ∃ sp, (spotsOf t)[i]? = some sp ∧ di = spotD sp := by
        rw [List.getElem?_map] at hdi
        cases hq : (spotsOf t)[i]? with
        | none => rw [hq] at hdi; cases hdi
        | some wi => rw [hq] at hdi; cases hdi; exact ⟨wi, rfl, rfl⟩
      obtain ⟨qa, rfl, hq1⟩ := spot_of hx2
      have e : ((spotsOf t).getD i []).length = (intsV sp).length := by
        rw [List.getD_eq_getElem?_getD, hsp]
        unfold intsV
        rw [List.length_map]
        rfl
      have := k _ (Same.refl _)
      rw [e] at this
      exact ⟨_, rfl, _, _, rfl, .inr ⟨_, SqT.same (hide_same.trans s1) hq1, rfl⟩, this⟩
    · intro G1 s1 eR
      have em : (List.range ys.length).map (fun i => V.int (((spotsOf t).getD i []).length : Nat)) = (((spotsOf t).map (·.length)).map fun n : Nat => (n : Int)).map V.int := by
        rw [ly, ← spotsOf_len, List.map_map, List.map_map]
        apply List.ext_getElem?
        intro i
        rw [List.getElem?_map, List.getElem?_map]
        rcases Nat.lt_or_ge i (spotsOf t).length with z | z
        · rw [List.getElem?_range z, List.getElem?_eq_getElem z]
          simp [List.getD_eq_getElem?_getD, List.getElem?_eq_getElem z]
        · rw [List.getElem?_eq_none (by simpa using z), List.getElem?_eq_none z]
          rfl
      rw [em] at eR
      refine ⟨R, _, rfl, .inl (.inl eR), ?_, fun m hm hmax => ?_⟩
      · rw [List.length_map, List.length_map, spotsOf_len]
        exact t.size_pos
      · obtain ⟨n, hn, rfl⟩ := List.mem_map.mp hm
        exact q G1 n (sG.trans s1) ⟨hn, fun k hk => by have := hmax (k : Int) (List.mem_map_of_mem hk); omega⟩
theorem sc_Term_letters : FnScope ["self", "sign"] ["self"] (defScope s_Term_letters) := ⟨rfl, rfl, rfl, by decide +kernel, rfl, by decide +kernel, by decide +kernel⟩

set_option maxHeartbeats 800000 in
theorem ok_Term_letters (bt : Bt mg) (cl : Cls K (tcls K)) (nb : NoAttr K (tcls K) "all_signs") (p_is_letter : Prom P w K mg base 2 "is_letter" ["thing"] (spLetter K))
    (D : DefM K (He.ma K (tcls K) "letters") "letters" "Term.letters" s_Term_letters) : PromA CX0 P w K mg base 3 (He.ma K (tcls K) "letters") ["self"] (spLets K) := by
  refine meth_mk D sc_Term_letters (fun vs H Q E h => ?_) (fun _ _ _ _ _ _ us hl => match us, hl with | [_], _ => rfl) (fun cdv A outer s H vs Q E hr h => ?_)
  · obtain ⟨a, wa, t, rfl, _⟩ := h
    rfl
  · obtain ⟨a, wa, t, rfl, ⟨dx, sa, ea, e1, e2, e3⟩, ht, hz, q⟩ := h
    have fl := t.flat_len
    have lf : (t.flat.map V.str).length = t.flat.length := List.length_map ..
    refine ⟨_, (pss_one (ps_ret (pe_callTy (T := "list") (call_list_dK rfl) (by rfl) bt.list_ (by decide +kernel) (pa_cons (pe_dc (own := [("sign", 1)]) (g := gName 1) rfl sc_Term_letters.nd (pi_tupK (K := K) rfl (pe_fld (pv 0) rfl)) (blkOk_by (N := ["self", "sign"]) (sc := defScope s_Term_letters) (by decide +kernel)) (fun _ _ _ _ _ => (pg_name (i := 1) sc_Term_letters.nd rfl (Or.inl rfl))) (fun _ _ _ _ _ => (pts_one (pt_val (pe_pc p_is_letter (hr.mono (by decide)) rfl (pa_cons (pv 1) pa_nil))))) (fun _ _ _ _ _ => (pv 1)) (fun _ _ _ _ _ => pe_bl)) pa_nil)))), ?_⟩
    refine ⟨_, rfl, a, _, dx, _, _, rfl, e1, cl, nb, rfl, sa, rfl, ⟨_, e2⟩, fun R hR => ?_⟩
    refine dc_it walk_tup (fun i G' => Same H G' ∧ G' R = some (.dK (((t.flat.take i).foldl letsF []).map lkV)) ∧ ((t.flat.take i).foldl letsF []).length ≤ i) ⟨Same.new (Same.refl _) hR, upd_same .., Nat.le_refl _⟩ (fun i G' _ p => SqT.same p.1 e2) ?_ ?_
    · rintro i x G1 G2 hi ⟨s1, eR, la⟩ ⟨rfl, hx⟩
      obtain ⟨z, hzi, rfl⟩ : ∃ z, t.flat[i]? = some z ∧ x = .str z := by
        rw [List.getElem?_map] at hx
        cases hq : t.flat[i]? with
        | none => rw [hq] at hx; cases hx
        | some z => rw [hq] at hx; cases hx; exact ⟨z, rfl, rfl⟩
      have et : (t.flat.take (i + 1)).foldl letsF [] = letsF ((t.flat.take i).foldl letsF []) z := by
        rw [List.take_add_one, hzi, List.foldl_append]
        rfl
      have ll := letsF_len ((t.flat.take i).foldl letsF []) z
      refine ⟨rfl, _, rfl, _, .str z, rfl, .str z, fun y e => (by cases e; exact hz z (List.mem_of_getElem? hzi)), fun G3 s3 => ⟨_, rfl, ?_⟩⟩
      have eR3 := s3 _ _ eR
      cases hL : letterD (.str z) with
      | true =>
        refine iteT ⟨_, rfl, _, Sum.inr z, rfl, eR3, sz5' (by rw [List.length_map]; omega), Same.keep' (s1.trans s3) hR, ?_, by rw [et]; omega⟩
        rw [upd_same, put_lets hL, et]
      | false =>
        have e0 : letsF ((t.flat.take i).foldl letsF []) z = (t.flat.take i).foldl letsF [] := by
          unfold letsF
          rw [show letterL (tl z) = false from hL]
          rfl
        exact iteF ⟨s1.trans s3, by rw [et, e0]; exact eR3, by rw [et, e0]; omega⟩
    · rintro G1 ⟨s1, eR, la⟩
      rw [lf, List.take_length] at eR
      refine ⟨R, _, rfl, eR, fun l hl => q _ l (s1.trans (Same.new (Same.refl _) hl)) (s1.free hl) ?_⟩
      rw [upd_same, List.map_map]
      rfl
end

end TS

namespace TS
open PySem PySem.Spec PyProof.Rows L2 TL

/-! ### Term.place_at, part_at, head_at -/
def spIsSpot1 (K : PySem.W.Frag) : Sp := fun vs H Q _ => ∃ (q : Addr) (n : Nat), vs = [.ref q] ∧ SqT K H q [.int (n : Nat)] ∧ n ≤ 3 ∧ ∀ G, Same H G → Q (.bl true) G
def spPlaceAt (K : PySem.W.Frag) : Sp := fun vs H Q _ => ∃ (a wa q : Addr) (t : Tm) (sp : List Nat) (y : Nat × Tm), vs = [.ref a, .ref q] ∧ TmAt K H a wa t ∧ t.size ≤ 9999 ∧ SqT K H q (intsV sp) ∧ sp.length ≤ 9999 ∧ (∀ i ∈ sp, i ≤ 3) ∧ fol (0, t) sp = some y ∧ ∀ G, Same H G → Q (.int (y.1 : Nat)) G
def spPartAt (K : PySem.W.Frag) : Sp := fun vs H Q _ => ∃ (a wa q : Addr) (rows : List (Str × Int)) (t : Tm) (sp : List Nat) (y : Nat × Tm), vs = [.ref a, .ref q] ∧ TermOk K H a wa rows t ∧ SqT K H q (intsV sp) ∧ sp.length ≤ 9999 ∧ fol (0, t) sp = some y ∧
  ∀ G b, Same H G → H b = none → TmAt K G b wa y.2 → Q (.ref b) G
def spHeadAt (K : PySem.W.Frag) : Sp := fun vs H Q _ => ∃ (a wa q : Addr) (rows : List (Str × Int)) (t : Tm) (sp : List Nat) (p : Nat) (s : Str) (ts : Fs), vs = [.ref a, .ref q] ∧ TermOk K H a wa rows t ∧ SqT K H q (intsV sp) ∧ sp.length ≤ 9999 ∧ fol (0, t) sp = some (p, .mk s ts) ∧
  ∀ G, Same H G → Q (.str s) G
theorem pl4 {rows : List (Str × Int)} (h : RowsP rows) : ∀ s n, plS rows s = some n → n ≤ 4 := fun s n e => by
  have := plN_le h s
  unfold plN at this
  rw [e] at this
  exact this
theorem all_true {n : Nat} : ((List.range n).map fun _ => true).all id = true := by
  rw [List.all_eq_true]
  intro b hb
  obtain ⟨_, _, rfl⟩ := List.mem_map.mp hb
  rfl
section
variable {P : Program} {w : World} {K : PySem.W.Frag} {mg : Str → Option Value} {base : Heap}
theorem sc_is_spot : FnScope ["thing", "one"] ["thing"] (defScope s_is_spot) := ⟨rfl, rfl, rfl, by decide +kernel, rfl, by decide +kernel, by decide +kernel⟩

set_option maxHeartbeats 800000 in
theorem ok_is_spot1 (bt : Bt mg) (k_MOST_DEEP : ∃ t, mg "MOST_DEEP" = some (.int 16 t)) (k_MOST_PLACES_marks : ∃ t, mg "MOST_PLACES_marks" = some (.int 4 t)) (p_is_whole : Prom P w K mg base 1 "is_whole" ["thing", "low", "high"] (spWhole K)) (D : Def K mg "is_spot" s_is_spot) : Prom P w K mg base 2 "is_spot" ["thing"] (spIsSpot1 K) := by
  obtain ⟨t_MOST_DEEP, c_MOST_DEEP⟩ := k_MOST_DEEP
  obtain ⟨t_MOST_PLACES_marks, c_MOST_PLACES_marks⟩ := k_MOST_PLACES_marks
  refine prom_mk D sc_is_spot (fun vs H Q E h => ?_) (fun _ _ _ _ _ _ us hl => match us, hl with | [_], _ => rfl) (fun f cdv A outer s H vs Q E hr h => ?_)
  · obtain ⟨q, n, rfl, _⟩ := h
    rfl
  · obtain ⟨qa, n, rfl, hq, hn, q⟩ := h
    refine ⟨_, (pss_cons (ps_if (PW.pt (pw_or (pt_not (pt_val (pe_callB (id := "isinstance") (isiK (K := K)) (by rfl) bt.isinstance_ (by decide +kernel) (pa_cons (pv 0) (pa_cons (pe_bltn (v := .ty "tuple") rfl bt.tuple_ (by decide +kernel) rfl) pa_nil))))) (pw_or1 (pt_cmpR op_gt (pe_callB (id := "len") (lenK (K := K)) (by rfl) bt.len_ (by decide +kernel) (pa_cons (pv 0) pa_nil)) (pe_glob (v := .int 16) rfl c_MOST_DEEP ⟨_, rfl⟩) (nomark _))))) (pss_one (ps_ret pe_bl)) pss_nil)
      (pss_one (ps_ret (pe_callB (id := "all") (allK (K := K) rfl) (by rfl) bt.all_ (by decide +kernel) (pa_cons (pe_lc (own := [("one", 1)]) (g := gName 1) rfl sc_is_spot.nd (pi_tupK (K := K) rfl (pv 0)) (blkOk_by (N := ["thing", "one"]) (sc := defScope s_is_spot) (by decide +kernel)) (fun _ _ _ _ _ => (pg_name (i := 1) sc_is_spot.nd rfl (Or.inl rfl))) (fun _ _ _ _ _ => pts_nil) (fun _ _ _ _ _ => (pe_pc p_is_whole (hr.mono (by decide)) rfl (pa_cons (pv 1) (pa_cons pe_int (pa_cons (pe_op op_sub (pe_glob (v := .int 4) rfl c_MOST_PLACES_marks ⟨_, rfl⟩) pe_int) pa_nil)))))) pa_nil))))), ?_⟩
    have hty : Dt K H (.ref qa) (.tuple [.int (n : Nat)]) := .tup hq (.cons (.int _) .nil)
    refine ⟨_, rfl, _, _, _, _, true, rfl, .ty "tuple", hty.ty, kit_ty (show kitB "tuple" "tuple" = some true by decide +kernel), _, rfl, iteF ⟨_, rfl, _, _, rfl, .inr ⟨_, hq, rfl⟩, _, _, rfl, rfl, _, rfl, iteF' (decide_eq_false (by show ¬ (16 : Int) < ((1 : Nat) : Int); decide)) ?_⟩⟩
    refine ⟨_, rfl, qa, rfl, ⟨_, hq⟩, fun R hR => lc_same walk_tup (fun G' s => SqT.same s hq) (by show 1 ≤ 100000; decide) (Same.refl _) hR (fun i => .bl true) (fun _ => rfl) ?_ ?_⟩
    · intro i x G1 C hx s1 k
      have : x = .int (n : Nat) := by
        have := List.mem_of_getElem? hx
        exact List.mem_singleton.mp this
      subst this
      refine ⟨_, rfl, _, _, rfl, rfl, _, .int (n : Nat), 0, 3, rfl, .int _, ?_⟩
      have e : wholeD 0 3 (.int (n : Nat)) = true := by
        show (decide ((0 : Int) ≤ (n : Nat)) && decide (((n : Nat) : Int) ≤ 3)) = true
        rw [decide_eq_true (by omega), decide_eq_true (by omega)]
        rfl
      rw [e]
      exact k _ (Same.refl _)
    · intro G1 s1 eR
      refine ⟨R, (List.range 1).map fun _ => true, rfl, .inl (.inl (by rw [eR, List.map_map]; rfl)), ?_⟩
      rw [all_true]
      exact q G1 s1
theorem sc_Term_place_at : FnScope ["self", "spot", "at", "number", "starts"] ["self", "spot"] (defScope s_Term_place_at) := ⟨rfl, rfl, rfl, by decide +kernel, rfl, by decide +kernel, by decide +kernel⟩

set_option maxHeartbeats 800000 in
theorem ok_Term_place_at (bt : Bt mg) (cl_Term : Cls K (tcls K)) (mm_Term_starts : Meth K (tcls K) "starts" (He.ma K (tcls K) "starts")) (p_Term_starts : PromA CX0 P w K mg base 1 (He.ma K (tcls K) "starts") ["self", "at"] (spStarts K)) (p_is_spot : Prom P w K mg base 2 "is_spot" ["thing"] (spIsSpot1 K))
    (D : DefM K (He.ma K (tcls K) "place_at") "place_at" "Term.place_at" s_Term_place_at) : PromA CX0 P w K mg base 3 (He.ma K (tcls K) "place_at") ["self", "spot"] (spPlaceAt K) := by
  refine meth_mk D sc_Term_place_at (fun vs H Q E h => ?_) (fun _ _ _ _ _ _ us hl => match us, hl with | [_, _], _ => rfl) (fun cdv A outer s H vs Q E hr h => ?_)
  · obtain ⟨a, wa, qa, t, sp, y, rfl, _⟩ := h
    rfl
  · obtain ⟨a, wa, qa, t, sp, y, rfl, hT, ht, hq, hl, h3, hf, q⟩ := h
    obtain ⟨dx, sa, ea, e1, e2, e3⟩ := id hT
    have lsp : (intsV sp).length = sp.length := by unfold intsV; rw [List.length_map]
    refine ⟨_, (pss_cons (ps_if (PW.pt (pw_or (pt_not (pt_val (pe_callB (id := "isinstance") (isiK (K := K)) (by rfl) bt.isinstance_ (by decide +kernel) (pa_cons (pv 1) (pa_cons (pe_bltn (v := .ty "tuple") rfl bt.tuple_ (by decide +kernel) rfl) pa_nil))))) (pw_or1 (pt_not (pt_val (pe_callB (id := "all") (allK (K := K) rfl) (by rfl) bt.all_ (by decide +kernel) (pa_cons (pe_lc (own := [("number", 3)]) (g := gName 3) rfl sc_Term_place_at.nd (pi_tupK (K := K) rfl (pv 1)) (blkOk_by (N := ["self", "spot", "at", "number", "starts"]) (sc := defScope s_Term_place_at) (by decide +kernel)) (fun _ _ _ _ _ => (pg_name (i := 3) sc_Term_place_at.nd rfl (Or.inl rfl))) (fun _ _ _ _ _ => pts_nil) (fun _ _ _ _ _ => (pe_pc p_is_spot (hr.mono (by decide)) rfl (pa_cons (pe_tup (pa_cons (pv 3) pa_nil)) pa_nil)))) pa_nil))))))) (pss_one ps_never) pss_nil)
      (pss_cons (ps_set (i := 2) sc_Term_place_at.nd rfl (Or.inl rfl) pe_int)
      (pss_cons (ps_for PassesOwn.never rfl (pi_tupK (K := K) rfl (pv 1)) (pg_name (i := 3) sc_Term_place_at.nd rfl (Or.inl rfl)) (pss_cons (ps_set (i := 4) sc_Term_place_at.nd rfl (Or.inl rfl) (pe_pm cl_Term mm_Term_starts p_Term_starts (hr.mono (by decide)) (pv 0) (pa_cons (pv 2) pa_nil)))
      (pss_cons (ps_if (pt_cmpR op_ge (pv 3) (pe_callB (id := "len") (lenK (K := K)) (by rfl) bt.len_ (by decide +kernel) (pa_cons (pv 4) pa_nil)) (nomark _)) (pss_one ps_never) pss_nil)
      (pss_one (ps_set (i := 2) sc_Term_place_at.nd rfl (Or.inl rfl) (pe_ix (ix_listK (K := K)) (pv 4) (pv 3) (fun _ _ => rfl)))))))
      (pss_one (ps_ret (pv 2)))))), ?_⟩
    have hty : Dt K H (.ref qa) (.tuple (sp.map fun n => .int (n : Nat))) := .tup hq (dt_ints _)
    refine ⟨_, rfl, _, _, _, _, true, rfl, .ty "tuple", hty.ty, kit_ty (show kitB "tuple" "tuple" = some true by decide +kernel), _, rfl, iteF ⟨_, rfl, qa, rfl, ⟨_, hq⟩, fun R hR => lc_same walk_tup (fun G' s => SqT.same s hq) (by rw [lsp]; omega) (Same.refl _) hR (fun i => .bl true) (fun _ => rfl) ?_ ?_⟩⟩
    · intro i x G1 C hx s1 k
      obtain ⟨n, hn, rfl⟩ : ∃ n ∈ sp, x = .int (n : Nat) := by
        have := List.mem_of_getElem? hx
        unfold intsV at this
        obtain ⟨n, hn, rfl⟩ := List.mem_map.mp this
        exact ⟨n, hn, rfl⟩
      refine ⟨_, rfl, (by show 1 ≤ sizeLine; decide), fun T hT' => ?_⟩
      (generalize hG : L2.upd _ T _ = G2; have sT := same_of hG hT'; have eT := at_of hG; clear hG)
      exact ⟨T, n, rfl, .inl (.inl eT), h3 n hn, fun G3 s3 => k _ (sT.trans s3)⟩
    · intro G1 s1 eR
      refine ⟨R, (List.range (intsV sp).length).map fun _ => true, rfl, .inl (.inl (by rw [eR, List.map_map]; rfl)), _, rfl, ?_⟩
      rw [all_true]
      refine iteF ⟨_, rfl, qa, rfl, ⟨_, SqT.same s1 hq⟩, for_it walk_tup (fun k τ G' => (∃ (p : Nat) (u : Tm), (∃ x3 x4, τ = [some (.ref a), some (.ref qa), some (.int (p : Nat)), x3, x4]) ∧ At t p u ∧ fol (p, u) (sp.drop k) = some y) ∧ Same H G') ⟨⟨0, t, ⟨_, _, rfl⟩, .here t, hf⟩, s1⟩ (fun i τ G' _ p => SqT.same p.2 hq) ?_ ?_⟩
      · rintro k x τ G2 G3 hk ⟨⟨p, u, ⟨x3, x4, rfl⟩, hA, hfo⟩, s2⟩ ⟨rfl, hx⟩
        rw [lsp] at hk
        have hx' : x = .int (sp[k] : Nat) := by
          have h1 : (intsV sp)[k]? = some x := hx
          rw [ints_at (List.getElem?_eq_getElem hk)] at h1
          exact (Option.some.inj h1).symm
        subst hx'
        rw [List.drop_eq_getElem_cons hk] at hfo
        cases u with
        | mk sg ts =>
        cases hs : stepT (p, Tm.mk sg ts) sp[k] with
        | none => simp [fol, hs] at hfo
        | some z =>
          have hfo' : fol z (sp.drop (k + 1)) = some y := by simpa [fol, hs] using hfo
          have hlt := step_wf (pl := fun _ => none) hs
          refine ⟨_, rfl, a, dx, _, rfl, s2 _ _ e1, rfl, _, rfl, a, wa, t, p, sg, ts, rfl, hT.same s2, Nat.le_trans ht (by decide), hA, fun G4 l s4 hl' el => ?_⟩
          have lst : (intsV (ts.starts (p + 1))).length = ts.len := by unfold intsV; rw [List.length_map, Fs.starts_len]
          refine ⟨_, rfl, _, rfl, _, _, rfl, .inl ⟨_, .inl (.inl el), rfl⟩, _, _, rfl, rfl, _, rfl, iteF' (decide_eq_false (by rw [lst]; omega)) ?_⟩
          have hz1 : (ts.starts (p + 1))[sp[k]]? = some z.1 := by
            cases hl2 : ts.list[sp[k]]? with
            | none => simp [stepT, hl2] at hs
            | some v =>
              obtain ⟨q', h1, h2⟩ := hA.kids hl2
              have : z = (q', v) := by simpa [stepT, hl2, h1] using hs.symm
              rw [this]
              exact h1
          exact ⟨_, rfl, _, rfl, l, _, _, .int (z.1 : Nat), rfl, rfl, .inl (.inl el), atI_nat (ints_at hz1), ⟨z.1, z.2, ⟨_, _, rfl⟩, step_at hA hs, hfo'⟩, s2.trans s4⟩
      · rintro τ G2 ⟨⟨p, u, ⟨x3, x4, rfl⟩, hA, hfo⟩, s2⟩
        rw [lsp, List.drop_length] at hfo
        have hy : y = (p, u) := (Option.some.inj hfo).symm
        have := q G2 s2
        rw [hy] at this
        exact ⟨_, rfl, this⟩
theorem sc_Term_part_at : FnScope ["self", "spot"] ["self", "spot"] (defScope s_Term_part_at) := ⟨rfl, rfl, rfl, by decide +kernel, rfl, by decide +kernel, by decide +kernel⟩

theorem ok_Term_part_at (cl_Term : Cls K (tcls K)) (mm_Term_term_from : Meth K (tcls K) "term_from" (He.ma K (tcls K) "term_from")) (p_Term_term_from : PromA CX0 P w K mg base 6 (He.ma K (tcls K) "term_from") ["self", "at"] (spFrom K))
    (mm_Term_place_at : Meth K (tcls K) "place_at" (He.ma K (tcls K) "place_at")) (p_Term_place_at : PromA CX0 P w K mg base 3 (He.ma K (tcls K) "place_at") ["self", "spot"] (spPlaceAt K))
    (D : DefM K (He.ma K (tcls K) "part_at") "part_at" "Term.part_at" s_Term_part_at) : PromA CX0 P w K mg base 7 (He.ma K (tcls K) "part_at") ["self", "spot"] (spPartAt K) := by
  refine meth_mk D sc_Term_part_at (fun vs H Q E h => ?_) (fun _ _ _ _ _ _ us hl => match us, hl with | [_, _], _ => rfl) (fun cdv A outer s H vs Q E hr h => ?_)
  · obtain ⟨a, wa, qa, rows, t, sp, y, rfl, _⟩ := h
    rfl
  · obtain ⟨a, wa, qa, rows, t, sp, y, rfl, ok, hq, hl, hf, q⟩ := h
    obtain ⟨dx, sa, ea, e1, e2, e3⟩ := id ok.at_
    refine ⟨_, (pss_one (ps_ret (pe_pm cl_Term mm_Term_term_from p_Term_term_from (hr.mono (by decide)) (pv 0) (pa_cons (pe_pm cl_Term mm_Term_place_at p_Term_place_at (hr.mono (by decide)) (pv 0) (pa_cons (pv 1) pa_nil)) pa_nil)))), ?_⟩
    refine ⟨_, rfl, a, dx, _, rfl, e1, rfl, _, rfl, a, dx, _, rfl, e1, rfl, _, rfl, a, wa, qa, t, sp, y, rfl, ok.at_, ok.few, hq, hl, fol_small (pl4 ok.rp) ok.wf sp _ _ (.here t) hf, hf, fun G sG => ?_⟩
    exact ⟨a, wa, rows, t, y.1, y.2, rfl, ok.same sG, fol_at sp _ _ (.here t) hf, fun G2 b s2 hb ta => q G2 b (sG.trans s2) (sG.free hb) ta⟩
theorem sc_Term_head_at : FnScope ["self", "spot"] ["self", "spot"] (defScope s_Term_head_at) := ⟨rfl, rfl, rfl, by decide +kernel, rfl, by decide +kernel, by decide +kernel⟩

theorem ok_Term_head_at (cl_Term : Cls K (tcls K)) (nb : NoAttr K (tcls K) "all_signs") (mm_Term_place_at : Meth K (tcls K) "place_at" (He.ma K (tcls K) "place_at")) (p_Term_place_at : PromA CX0 P w K mg base 3 (He.ma K (tcls K) "place_at") ["self", "spot"] (spPlaceAt K))
    (D : DefM K (He.ma K (tcls K) "head_at") "head_at" "Term.head_at" s_Term_head_at) : PromA CX0 P w K mg base 4 (He.ma K (tcls K) "head_at") ["self", "spot"] (spHeadAt K) := by
  refine meth_mk D sc_Term_head_at (fun vs H Q E h => ?_) (fun _ _ _ _ _ _ us hl => match us, hl with | [_, _], _ => rfl) (fun cdv A outer s H vs Q E hr h => ?_)
  · obtain ⟨a, wa, qa, rows, t, sp, p, sg, ts, rfl, _⟩ := h
    rfl
  · obtain ⟨a, wa, qa, rows, t, sp, p, sg, ts, rfl, ok, hq, hl, hf, q⟩ := h
    obtain ⟨dx, sa, ea, e1, e2, e3⟩ := id ok.at_
    refine ⟨_, (pss_one (ps_ret (pe_ix (ix_tupK (K := K)) (pe_fld (pv 0) rfl) (pe_pm cl_Term mm_Term_place_at p_Term_place_at (hr.mono (by decide)) (pv 0) (pa_cons (pv 1) pa_nil)) (fun _ _ => rfl)))), ?_⟩
    have hA := fol_at sp _ _ (.here t) hf
    have hz := (hA.seg 0).flat 0 (Tm.size_pos _)
    refine ⟨_, rfl, a, _, dx, _, _, rfl, e1, cl_Term, nb, rfl, _, rfl, a, dx, _, rfl, e1, rfl, _, rfl, a, wa, qa, t, sp, _, rfl, ok.at_, ok.few, hq, hl, fol_small (pl4 ok.rp) ok.wf sp _ _ (.here t) hf, hf, fun G sG => ?_⟩
    refine ⟨sa, _, _, .str sg, rfl, rfl, SqT.same sG e2, atI_nat (by rw [List.getElem?_map]; have h1 : t.flat[p]? = some sg := hz; rw [h1]; rfl), q G sG⟩
end

end TS

namespace TS
open PySem PySem.Spec PyProof.Rows L2 TL

/-! ### Words.__eq__ -/
def itemsF (i : Nat) : List (Str × Int) → List PyData
  | [] => []
  | r :: rs => .tuple [.str r.1, .tuple [.int r.2, .int (i : Nat)]] :: itemsF (i + 1) rs
theorem items_eqv : ∀ (a b : List (Str × Int)) (i : Nat), PyData.eqvAll (itemsF i a) (itemsF i b) = decide (a = b)
  | [], [], i => rfl
  | [], b :: r, i => rfl
  | a :: r, [], i => rfl
  | (x, p) :: r, (y, q) :: s, i => by
    show ((x == y && (((p == q) && (((i : Int) == (i : Int)) && true)) && true)) && PyData.eqvAll (itemsF (i + 1) r) (itemsF (i + 1) s)) = _
    rw [items_eqv r s (i + 1)]
    by_cases h1 : x = y
    · by_cases h2 : p = q
      · subst h1 h2
        simp
      · have e : (p == q) = false := by simpa using h2
        rw [e]
        simp [h2]
    · have e : (x == y) = false := by simpa using h1
      rw [e]
      simp [h1]
theorem items_lay : ∀ (rows : List (Str × Int)) (i : Nat), (∀ r ∈ rows, nameS r.1 = true) → ∀ e ∈ itemsF i rows, e.canLay0 = true ∧ e.depth ≤ 30
  | [], i, _, e, he => by cases he
  | r :: rs, i, h, e, he => by
    rcases List.mem_cons.mp he with q | m
    · subst q
      have hz := h r (by simp)
      unfold nameS at hz
      obtain ⟨_, h3⟩ := Bool.and_eq_true_iff.mp hz
      have ok : PySem.PyData.strOk r.1 = true := by
        show r.1.cps.all (· < 0x110000) = true
        rw [← Array.all_toList, List.all_eq_true]
        intro c m
        exact decide_eq_true (Nat.lt_of_le_of_lt (of_decide_eq_true (Bool.and_eq_true_iff.mp (List.all_eq_true.mp h3 c m)).2) (by decide))
      constructor
      · show PyData.canLayAll0 [.str r.1, .tuple [.int r.2, .int (i : Nat)]] = true
        unfold PyData.canLayAll0
        rw [show (PyData.str r.1).canLay0 = true from ok]
        rfl
      · show max 0 (max (max 0 (max 0 0) + 1) 0) + 1 ≤ 30
        decide
    · exact items_lay rs (i + 1) (fun r hr => h r (List.mem_cons_of_mem _ hr)) e m
theorem items_dt {K : PySem.W.Frag} {G : Hp} : ∀ (rows : List (Str × Int)) (kvs : List (Key × V)) (ts : List Addr) (i : Nat), Paired (fun (t : Addr) (q : Key × V) => G t = some (.tup [kV q.1, q.2])) ts kvs →
    kvs.length = rows.length → (∀ (j : Nat) (r : Str × Int), rows[j]? = some r → ∃ t, kvs[j]? = some (Sum.inr r.1, .ref t) ∧ SqT K G t [.int r.2, .int ((i + j : Nat) : Int)]) → DtAll K G (ts.map V.ref) (itemsF i rows)
  | [], _, _, _, .nil, _, _ => .nil
  | [], _, _, _, .cons _ _, h, _ => by simp at h
  | r :: rs, _, _, _, .nil, h, _ => by simp at h
  | r :: rs, _, _, i, .cons h0 t, hl, ha => by
    obtain ⟨tt, h1, h2⟩ := ha 0 r rfl
    simp only [List.getElem?_cons_zero, Option.some.injEq] at h1
    subst h1
    refine .cons (.tup (.inl (.inl h0)) (.cons (.str _) (.cons (.tup h2 (.cons (.int _) (.cons (.int _) .nil))) .nil))) (items_dt rs _ _ (i + 1) t (by simpa using hl) fun j q hq => ?_)
    obtain ⟨t2, h3, h4⟩ := ha (j + 1) q (by simpa using hq)
    exact ⟨t2, by simpa using h3, by rw [show i + 1 + j = i + (j + 1) by omega]; exact h4⟩
def spWEq (K : PySem.W.Frag) : Sp := fun vs H Q _ => ∃ (a b : Addr) (rows more : List (Str × Int)), vs = [.ref a, .ref b] ∧ WordsAt K H a rows ∧ WordsAt K H b more ∧ RowsOk rows ∧ RowsOk more ∧ ∀ G, Same H G → Q (.bl (decide (rows = more))) G
section
variable {P : Program} {w : World} {K : PySem.W.Frag} {mg : Str → Option Value} {base : Heap}
theorem sc_Words___eq__ : FnScope ["self", "other"] ["self", "other"] (defScope s_Words___eq__) := ⟨rfl, rfl, rfl, by decide +kernel, rfl, by decide +kernel, by decide +kernel⟩

set_option maxHeartbeats 800000 in
theorem ok_Words_eq (bt : Bt mg) (T : IsC K (wcls K)) (nb : NoAttr K (wcls K) "by_name") (g_Words : mg "Words" = some (.ref (He.ga K "Words"))) (D : DefM K (He.ma K (wcls K) "__eq__") "__eq__" "Words.__eq__" s_Words___eq__) : PromA CX0 P w K mg base 1 (He.ma K (wcls K) "__eq__") ["self", "other"] (spWEq K) := by
  refine meth_mk D sc_Words___eq__ (fun vs H Q E h => ?_) (fun _ _ _ _ _ _ us hl => match us, hl with | [_, _], _ => rfl) (fun cdv A outer s H vs Q E hr h => ?_)
  · obtain ⟨a, b, rows, more, rfl, _⟩ := h
    rfl
  · obtain ⟨a, b, rows, more, rfl, ⟨dx, D1, kvs, e1, e2, e3⟩, ⟨dy, D2, kvt, f1, f2, f3⟩, ro, mo, q⟩ := h
    refine ⟨_, (pss_cons (ps_if (pt_not (pt_val (pe_callB (id := "isinstance") (isiK (K := K)) (by rfl) bt.isinstance_ (by decide +kernel) (pa_cons (pv 1) (pa_cons (pe_glob (v := .ref (He.ga K "Words")) rfl g_Words rfl) pa_nil))))) (pss_one (ps_ret pe_bl)) pss_nil)
      (pss_one (ps_ret (pe_cmpR (op_eqDK (K := K) hr.units) (LiI.pe_listItems rfl (pe_fld (pv 0) rfl) rfl bt.list_ (by decide +kernel)) (LiI.pe_listItems rfl (pe_fld (pv 1) rfl) rfl bt.list_ (by decide +kernel)) (nomark _))))), ?_⟩
    refine ⟨_, rfl, _, _, _, _, true, rfl, .own _, T.ty f1, T.yes, _, rfl, iteF ?_⟩
    refine ⟨_, rfl, a, _, dx, _, _, rfl, e1, T.cl, nb, rfl, D1, kvs, rfl, e2, fun G1 p1 t1 s1 hp1 ht1 np1 ep1 pr1 => ?_⟩
    have s1' : Same H G1 := s1
    refine ⟨_, rfl, b, _, dy, _, _, rfl, s1 _ _ f1, T.cl, nb, rfl, D2, kvt, rfl, s1 _ _ f2, fun G2 p2 t2 s2 hp2 ht2 np2 ep2 pr2 => ?_⟩
    have s2' : Same G1 G2 := s2
    have s12 := s1'.trans s2'
    have d1 : DtAll K G2 (t1.map V.ref) (itemsF 0 rows) := DtAll.same s2' (items_dt rows kvs t1 0 pr1 e3.len fun j r hr => let ⟨t, x, y⟩ := e3.at_ j r hr; ⟨t, x, by rw [Nat.zero_add]; exact SqT.same s1' y⟩)
    have d2 : DtAll K G2 (t2.map V.ref) (itemsF 0 more) := items_dt more kvt t2 0 pr2 f3.len fun j r hr => let ⟨t, x, y⟩ := f3.at_ j r hr; ⟨t, x, by rw [Nat.zero_add]; exact SqT.same s12 y⟩
    have l1 := items_lay rows 0 ro.names
    have l2 := items_lay more 0 mo.names
    refine ⟨.list (itemsF 0 rows), .list (itemsF 0 more), Dp.lst (.inl (.inl (s2 _ _ ep1))) (d1.dp (lay_all fun e he => (l1 e he).1)), Dp.lst (.inl (.inl ep2)) (d2.dp (lay_all fun e he => (l2 e he).1)), shaped_list l1, shaped_list l2, ?_⟩
    have e : PyData.eqv (.list (itemsF 0 rows)) (.list (itemsF 0 more)) = decide (rows = more) := by
      unfold PyData.eqv
      exact items_eqv rows more 0
    rw [e]
    exact q G2 s12
end

end TS

namespace TS
open PySem PySem.Spec PyProof.Rows L2 TL

/-! ### rows as a dict -/
def prV (r : Str × Int) : Key × V := (Sum.inr r.1, .int r.2)
theorem merge_new : ∀ {kvs acc : List (Key × V)}, ((acc ++ kvs).map (·.1)).Nodup → mergeK acc kvs = acc ++ kvs
  | [], acc, _ => by rw [List.append_nil]; rfl
  | kv :: r, acc, h => by
    have e : putK acc kv.1 kv.2 = acc ++ [kv] := by
      refine putK_new _ (valV_none fun x hx e => ?_)
      rw [List.map_append, List.nodup_append] at h
      exact h.2.2 x.1 (List.mem_map_of_mem hx) kv.1 (by simp) e
    show mergeK (putK acc kv.1 kv.2) r = _
    rw [e, merge_new (by rw [List.append_assoc]; exact h), List.append_assoc]
    rfl
theorem rows_pairs {K : PySem.W.Frag} {H : Hp} : ∀ {rows : List (Str × Int)} {xs : List V}, DtAll K H xs (rows.map rowPy) → ∃ ps : List Addr, xs = ps.map V.ref ∧ Paired (fun p kv => SqT K H p [kV kv.1, kv.2]) ps (rows.map prV)
  | [], _, h => by cases h; exact ⟨[], rfl, .nil⟩
  | r :: rs, _, h => by
    cases h with
    | cons h0 t =>
      obtain ⟨ps, rfl, hp⟩ := rows_pairs t
      obtain ⟨a, ys, rfl, hT, hA⟩ := h0.tup_inv
      cases hA with
      | cons y0 t1 => cases t1 with
      | cons y1 t2 => cases t2 with
      | nil =>
      cases y0
      cases y1
      exact ⟨a :: ps, rfl, .cons hT hp⟩
theorem pr_val : ∀ (rows : List (Str × Int)) (z : Str), valV (rows.map prV) (Sum.inr z) = if z ∈ rows.map (·.1) then some (.int (plR rows z)) else none
  | [], z => rfl
  | r :: rs, z => by
    unfold valV plR
    rw [List.map_cons, List.find?_cons, List.find?_cons]
    by_cases e : r.1 = z
    · have e1 : decide ((prV r).1 = (Sum.inr z : Key)) = true := decide_eq_true (congrArg Sum.inr e)
      rw [e1, decide_eq_true e, if_pos (by simp [e])]
      rfl
    · have e1 : decide ((prV r).1 = (Sum.inr z : Key)) = false := decide_eq_false fun h => e (Sum.inr.inj h)
      have e2 : (z ∈ (r :: rs).map (·.1)) ↔ z ∈ rs.map (·.1) := by
        rw [List.map_cons, List.mem_cons]
        exact ⟨fun h => h.elim (fun h => absurd h.symm e) id, .inr⟩
      have ih := pr_val rs z
      unfold valV plR at ih
      rw [e1, decide_eq_false e]
      simp only [e2]
      exact ih
theorem name_small {z : Str} (h : nameS z = true) : letterL (tl z) = false := by
  unfold nameS at h
  obtain ⟨h1, h2⟩ := Bool.and_eq_true_iff.mp h
  cases er : tl z with
  | nil => rfl
  | cons c r =>
    have hc := List.all_eq_true.mp h2 c (by show c ∈ tl z; rw [er]; simp)
    obtain ⟨h3, h4⟩ := Bool.and_eq_true_iff.mp hc
    have h3 := of_decide_eq_true h3
    show (capL c && _) = false
    unfold capL
    rw [decide_eq_false (show ¬ c ≤ 90 by omega), Bool.and_false, Bool.false_and]
theorem no_letter {rows : List (Str × Int)} (ro : RowsOk rows) {z : Str} (h : z ∈ rows.map (·.1)) : letterL (tl z) = false := by
  obtain ⟨r, hr, rfl⟩ := List.mem_map.mp h
  exact name_small (ro.names r hr)
theorem plS_none {rows : List (Str × Int)} {z : Str} : (plS rows z).isNone = (!decide (z ∈ rows.map (·.1)) && !letterL (tl z)) := by
  unfold plS
  by_cases hL : letterL (tl z) = true
  · rw [if_pos hL, hL, Bool.not_true, Bool.and_false]; rfl
  · rw [if_neg hL, Bool.eq_false_iff.mpr hL]
    by_cases hm : z ∈ rows.map (·.1)
    · rw [if_pos hm, decide_eq_true hm]; rfl
    · rw [if_neg hm, decide_eq_false hm]; rfl
theorem get_plN {rows : List (Str × Int)} (ro : RowsOk rows) (z : Str) : (valV (rows.map prV) (Sum.inr z)).getD (.int 0) = .int (plN rows z : Nat) := by
  rw [pr_val]
  unfold plN plS
  by_cases hm : z ∈ rows.map (·.1)
  · have := plR_in ⟨ro.lo, ro.hi⟩ z
    rw [if_pos hm, no_letter ro hm, if_neg Bool.false_ne_true, if_pos hm]
    show V.int (plR rows z) = V.int ((plR rows z).toNat : Nat)
    rw [show (((plR rows z).toNat : Nat) : Int) = plR rows z by omega]
  · rw [if_neg hm]
    split
    · rfl
    · rfl
/-! ### the law's own parts -/
/-- the signs of u stand from p on -/
def SegL (zs : List Str) (p : Nat) (r : Fs) : Prop := p + r.size ≤ zs.length ∧ ∀ j, j < r.size → zs[p + j]? = r.flat[j]?
theorem SegL.step {zs : List Str} {p : Nat} {s : Str} {ts q : Fs} (h : SegL zs p (.cons (.mk s ts) q)) : zs[p]? = some s ∧ SegL zs (p + 1) (ts.app q) := by
  obtain ⟨h1, h2⟩ := h
  have h1' : p + (ts.size + 1 + q.size) ≤ zs.length := h1
  refine ⟨?_, by rw [Fs.app_size]; omega, fun j hj => ?_⟩
  · have := h2 0 (by show 0 < ts.size + 1 + q.size; omega)
    exact this
  · rw [Fs.app_size] at hj
    have := h2 (j + 1) (by show j + 1 < ts.size + 1 + q.size; omega)
    rw [show p + 1 + j = p + (j + 1) by omega, this, Fs.flat_app]
    show ((s :: ts.flat) ++ q.flat)[j + 1]? = _
    rfl
theorem SegL.left {zs : List Str} {p : Nat} {u : Tm} {q : Fs} (h : SegL zs p (.cons u q)) : SegL zs p (.cons u .nil) ∧ SegL zs (p + u.size) q := by
  obtain ⟨h1, h2⟩ := h
  have h1' : p + (u.size + q.size) ≤ zs.length := h1
  refine ⟨⟨by show p + (u.size + 0) ≤ _; omega, fun j hj => ?_⟩, by omega, fun j hj => ?_⟩
  · have hj' : j < u.size + 0 := hj
    rw [h2 j (by show j < u.size + q.size; omega)]
    show (u.flat ++ q.flat)[j]? = (u.flat ++ [])[j]?
    rw [List.append_nil, List.getElem?_append_left (by rw [Tm.flat_len]; omega)]
  · have := h2 (u.size + j) (by show u.size + j < u.size + q.size; omega)
    rw [show p + u.size + j = p + (u.size + j) by omega, this]
    show (u.flat ++ q.flat)[u.size + j]? = _
    rw [List.getElem?_append_right (by rw [Tm.flat_len]; omega), Tm.flat_len, show u.size + j - u.size = j by omega]
theorem SegL.cut {zs : List Str} {p : Nat} {u : Tm} (h : SegL zs p (.cons u .nil)) : (zs.drop p).take u.size = u.flat := by
  refine take_eq (Tm.flat_len u) (by have := h.1; have h1 : p + (u.size + 0) ≤ zs.length := this; omega) fun j hj => ?_
  rw [h.2 j (by show j < u.size + 0; omega)]
  show (u.flat ++ [])[j]? = _
  rw [List.append_nil]
def spEnd (K : PySem.W.Frag) : Sp := fun vs H Q _ => ∃ (rw_ mk : Addr) (rows : List (Str × Int)) (zs : List Str) (p : Nat) (u : Tm), vs = [.ref rw_, .ref mk, .int (p : Nat)] ∧ RowsOk rows ∧ Dt K H (.ref rw_) (.list (rows.map rowPy)) ∧ SqL K H mk (zs.map V.str) ∧ u.wf (plS rows) ∧ SegL zs p (.cons u .nil) ∧
  ∀ G, Same H G → Q (.int ((p + u.size : Nat) : Int)) G
section
variable {P : Program} {w : World} {K : PySem.W.Frag} {mg : Str → Option Value} {base : Heap}
theorem sc__law_end : FnScope ["_law_rows_here", "_law_marks", "_law_at_here", "_law_lacking", "_law_places"] ["_law_rows_here", "_law_marks", "_law_at_here"] (defScope s__law_end) := ⟨rfl, rfl, rfl, by decide +kernel, rfl, by decide +kernel, by decide +kernel⟩

set_option maxHeartbeats 800000 in
theorem ok_law_end (bt : Bt mg) (D : Def K mg "_law_end" s__law_end) : Prom P w K mg base 1 "_law_end" ["_law_rows_here", "_law_marks", "_law_at_here"] (spEnd K) := by
  refine prom_mk D sc__law_end (fun vs H Q E h => ?_) (fun _ _ _ _ _ _ us hl => match us, hl with | [_, _, _], _ => rfl) (fun f cdv A outer s H vs Q E hr h => ?_)
  · obtain ⟨rw_, mk, rows, zs, p, u, rfl, _⟩ := h
    rfl
  · obtain ⟨rw_, mk, rows, zs, p, u, rfl, ro, hrw, hS, hw, hseg, q⟩ := h
    refine ⟨_, (pss_cons (ps_set (i := 3) sc__law_end.nd rfl (Or.inl rfl) pe_int)
      (pss_cons (ps_set (i := 4) sc__law_end.nd rfl (Or.inl rfl) (pe_callTy (T := "dict") (call_dictP rfl) (by rfl) bt.dict_ (by decide +kernel) (pa_cons (pv 0) pa_nil)))
      (pss_cons (ps_while PassesOwn.never (pt_cmpR op_gt (pv 3) pe_int (nomark _)) (pss_cons (ps_set (i := 3) sc__law_end.nd rfl (Or.inl rfl) (pe_op op_add (pe_op op_sub (pv 3) pe_int) (pe_dget2 (units1 hr) (pv 4) (pe_ix (ix_listK (K := K)) (pv 1) (pv 2) (fun _ _ => rfl)) pe_int ⟨rfl, rfl, rfl, rfl⟩)))
      (pss_one (ps_set (i := 2) sc__law_end.nd rfl (Or.inl rfl) (pe_op op_add (pv 2) pe_int)))))
      (pss_one (ps_ret (pv 2)))))), ?_⟩
    obtain ⟨_, xr, er, hrL, hrA⟩ := hrw.list_inv
    cases er
    obtain ⟨ps, eps, hps⟩ := rows_pairs hrA
    refine ⟨_, rfl, rw_, ps, _, rfl, by rw [← eps]; exact hrL, hps, fun PD hPD => ?_⟩
    rw [merge_new (acc := []) (by
      rw [List.nil_append, List.map_map]
      exact List.pairwise_map.mpr ((List.pairwise_map.mp ro.nd).imp fun z e => z (Sum.inr.inj e))), List.nil_append]
    (generalize hG : L2.upd _ PD _ = H1; have sP := same_of hG hPD; have eP := at_of hG; clear hG)
    refine ⟨fun m τ G => ∃ (r : Fs) (at_ : Nat), m = r.size ∧ τ = [some (.ref rw_), some (.ref mk), some (.int (at_ : Nat)), some (.int (r.len : Nat)), some (.ref PD)] ∧ Same H1 G ∧ r.wf (plS rows) ∧ SegL zs at_ r ∧ at_ + r.size = p + u.size,
      ⟨_, .cons u .nil, p, rfl, rfl, Same.refl _, ⟨hw, by simp [Fs.wf]⟩, hseg, by show p + (u.size + 0) = _; omega⟩, ?_⟩
    rintro m τ G ⟨r, at_, rfl, rfl, sG, hrw', hsg, htot⟩
    refine ⟨_, rfl, _, _, rfl, rfl, _, rfl, ?_⟩
    cases r with
    | nil =>
      have e : at_ = p + u.size := by
        have h1 : at_ + 0 = p + u.size := htot
        omega
      refine iteF ⟨_, rfl, ?_⟩
      rw [e]
      exact q G (sP.trans sG)
    | cons t r2 =>
      cases t with
      | mk sg ts =>
      obtain ⟨hz, hsg2⟩ := hsg.step
      have wf2 : (plS rows sg = some ts.len ∧ ts.wf (plS rows)) ∧ r2.wf (plS rows) := hrw'
      have eP' := sG _ _ eP
      refine iteT' (decide_eq_true (by show (0 : Int) < ((r2.len + 1 : Nat) : Int); omega)) ⟨_, fun τ' G' h => h, ?_⟩
      refine ⟨_, rfl, _, _, rfl, rfl, _, rfl, PD, rfl, .inl ⟨_, .inl eP'⟩, _, rfl, _, rfl, mk, _, _, .str sg, rfl, rfl, (sP.trans sG).seq hS, atI_nat (by rw [List.getElem?_map, hz]; rfl), _, DGet.k (k := Sum.inr sg) eP', ?_⟩
      rw [get_plN ro, show plN rows sg = ts.len by unfold plN; rw [wf2.1.1]; rfl]
      refine ⟨_, _, rfl, rfl, _, rfl, _, _, rfl, rfl, ?_⟩
      refine ⟨_, ?_, ts.app r2, at_ + 1, rfl, ?_, sG, Fs.app_wf wf2.1.2 wf2.2, hsg2, ?_⟩
      · rw [Fs.app_size]
        show ts.size + r2.size < ts.size + 1 + r2.size
        omega
      · have e1 : (((r2.len + 1 : Nat) : Int) - 1 + ((ts.len : Nat) : Int)) = (((ts.app r2).len : Nat) : Int) := by rw [Fs.app_len]; omega
        have e2 : ((at_ : Nat) : Int) + 1 = ((at_ + 1 : Nat) : Int) := by omega
        rw [← e1, ← e2]
        rfl
      · rw [Fs.app_size]
        have h1 : at_ + (ts.size + 1 + r2.size) = p + u.size := htot
        omega
end

end TS

namespace TS
open PySem PySem.Spec PyProof.Rows L2 TL

def partD (u : Tm) : PyData := .list (u.flat.map .str)
def spLParts (K : PySem.W.Frag) : Sp := fun vs H Q _ => ∃ (rw_ mk : Addr) (rows : List (Str × Int)) (s : Str) (ts : Fs), vs = [.ref rw_, .ref mk] ∧ RowsOk rows ∧ Dt K H (.ref rw_) (.list (rows.map rowPy)) ∧ SqL K H mk ((Tm.mk s ts).flat.map V.str) ∧ (Tm.mk s ts).wf (plS rows) ∧ (Tm.mk s ts).size ≤ 9999 ∧
  ∀ G l ys, Same H G → H l = none → G l = some (.lst ys) → DtAll K (hide G l) ys (ts.list.map partD) → Q (.ref l) G
def spLSpots (K : PySem.W.Frag) (n : Nat) : Sp := fun vs H Q _ => ∃ (rw_ mk : Addr) (rows : List (Str × Int)) (t : Tm), vs = [.ref rw_, .ref mk] ∧ RowsOk rows ∧ Dt K H (.ref rw_) (.list (rows.map rowPy)) ∧ SqL K H mk (t.flat.map V.str) ∧ t.wf (plS rows) ∧ t.size ≤ 9999 ∧ t.deep < n ∧
  ∀ G l ys, Same H G → H l = none → G l = some (.lst ys) → DtAll K G ys (t.spotsS.map spotD) → Q (.ref l) G
def spLAt (K : PySem.W.Frag) : Sp := fun vs H Q _ => ∃ (rw_ mk q : Addr) (rows : List (Str × Int)) (t : Tm) (sp : List Nat) (p : Nat) (u : Tm), vs = [.ref rw_, .ref mk, .ref q] ∧ RowsOk rows ∧ Dt K H (.ref rw_) (.list (rows.map rowPy)) ∧ SqL K H mk (t.flat.map V.str) ∧ t.wf (plS rows) ∧ t.size ≤ 9999 ∧
  SqT K H q (intsV sp) ∧ fol (0, t) sp = some (p, u) ∧ ∀ G l, Same H G → SqL K G l (u.flat.map V.str) → Q (.ref l) G
theorem part_of {K : PySem.W.Frag} {H : Hp} {v : V} {u : Tm} (h : Dt K H v (partD u)) : ∃ l, v = .ref l ∧ SqL K H l (u.flat.map V.str) := by
  obtain ⟨l, xs, rfl, hl, hA⟩ := h.list_inv
  rw [dtAll_strs hA] at hl
  exact ⟨l, rfl, hl⟩
section
variable {P : Program} {w : World} {K : PySem.W.Frag} {mg : Str → Option Value} {base : Heap}
theorem sc__law_parts : FnScope ["_law_rows_here", "_law_marks", "_law_found", "_law_at_here", "_law_stop"] ["_law_rows_here", "_law_marks"] (defScope s__law_parts) := ⟨rfl, rfl, rfl, by decide +kernel, rfl, by decide +kernel, by decide +kernel⟩

set_option maxHeartbeats 800000 in
theorem ok_law_parts (bt : Bt mg) (p__law_end : Prom P w K mg base 1 "_law_end" ["_law_rows_here", "_law_marks", "_law_at_here"] (spEnd K)) (D : Def K mg "_law_parts" s__law_parts) : Prom P w K mg base 2 "_law_parts" ["_law_rows_here", "_law_marks"] (spLParts K) := by
  refine prom_mk D sc__law_parts (fun vs H Q E h => ?_) (fun _ _ _ _ _ _ us hl => match us, hl with | [_, _], _ => rfl) (fun f cdv A outer s H vs Q E hr h => ?_)
  · obtain ⟨rw_, mk, rows, sg, ts, rfl, _⟩ := h
    rfl
  · obtain ⟨rw_, mk, rows, sg, ts, rfl, ro, hrw, hS, hw, ht, q⟩ := h
    have hw' : plS rows sg = some ts.len ∧ ts.wf (plS rows) := hw
    have lz : ((Tm.mk sg ts).flat.map V.str).length = ts.size + 1 := by rw [List.length_map, Tm.flat_len]; rfl
    have ht' : ts.size + 1 ≤ 9999 := ht
    refine ⟨_, (pss_cons (ps_set (i := 2) sc__law_parts.nd rfl (Or.inl rfl) (pe_lst pa_nil))
      (pss_cons (ps_set (i := 3) sc__law_parts.nd rfl (Or.inl rfl) pe_int)
      (pss_cons (ps_while PassesOwn.never (pt_cmpR op_lt (pv 3) (pe_callB (id := "len") (lenK (K := K)) (by rfl) bt.len_ (by decide +kernel) (pa_cons (pv 1) pa_nil)) (nomark _)) (pss_cons (ps_set (i := 4) sc__law_parts.nd rfl (Or.inl rfl) (pe_pc p__law_end (hr.mono (by decide)) rfl (pa_cons (pv 0) (pa_cons (pv 1) (pa_cons (pv 3) pa_nil)))))
      (pss_cons (ps_expr (pe_appendK (K := K) rfl (pv 2) (pe_slice (sl_listK (K := K)) (pv 1) (po_some (pv 3)) (po_some (pv 4)))))
      (pss_one (ps_set (i := 3) sc__law_parts.nd rfl (Or.inl rfl) (pv 4))))))
      (pss_one (ps_ret (pv 2)))))), ?_⟩
    refine ⟨(by show 0 ≤ sizeLine; decide), fun F hF => ?_⟩
    (generalize hG : L2.upd _ F _ = H1; have sF := same_of hG hF; have eF := at_of hG; clear hG)
    refine ⟨fun m τ G => ∃ (c d : Fs) (at_ : Nat) (fv : List V), m = d.len ∧ (∃ x4, τ = [some (.ref rw_), some (.ref mk), some (.ref F), some (.int (at_ : Nat)), x4]) ∧ Same H G ∧ c.app d = ts ∧ at_ = 1 + c.size ∧ d.wf (plS rows) ∧ SegL (Tm.mk sg ts).flat at_ d ∧ G F = some (.lst fv) ∧ DtAll K (hide G F) fv (c.list.map partD),
      ⟨_, .nil, ts, 1, [], rfl, ⟨_, rfl⟩, sF, rfl, rfl, hw'.2, ⟨by rw [Tm.flat_len]; show 1 + ts.size ≤ ts.size + 1; omega, fun j hj => by show (sg :: ts.flat)[1 + j]? = _; rw [Nat.add_comm, List.getElem?_cons_succ]⟩, eF, .nil⟩, ?_⟩
    rintro m τ G ⟨c, d, at_, fv, rfl, ⟨x4, rfl⟩, sG, ecd, eat, hwd, hseg, eG, hfv⟩
    have hsz : ts.size = c.size + d.size := by rw [← ecd, Fs.app_size]
    refine ⟨_, rfl, _, rfl, _, _, rfl, .inl ⟨_, sG.seq hS, rfl⟩, _, _, rfl, rfl, _, rfl, ?_⟩
    cases d with
    | nil =>
      rw [Fs.app_nil] at ecd
      subst ecd
      have h0 : (Fs.nil).size = 0 := rfl
      exact iteF' (decide_eq_false (by rw [lz]; omega)) ⟨_, rfl, q G F fv sG hF eG hfv⟩
    | cons u r =>
      have hd : (Fs.cons u r).size = u.size + r.size := rfl
      have up := u.size_pos
      have wd : u.wf (plS rows) ∧ r.wf (plS rows) := hwd
      obtain ⟨hs1, hs2⟩ := hseg.left
      have lc := Fs.len_size c
      have lfv : fv.length = c.len := by rw [hfv.length, List.length_map, Fs.list_len]
      refine iteT' (decide_eq_true (by rw [lz]; omega)) ⟨_, fun τ' G' h => h, ?_⟩
      refine ⟨_, rfl, _, rfl, _, rfl, rw_, mk, rows, _, at_, u, rfl, ro, Dt.same sG hrw, sG.seq hS, wd.1, hs1, fun G2 s2 => ?_⟩
      have eG2 := s2 _ _ eG
      have sH2 := sG.trans s2
      refine ⟨_, rfl, .inl ⟨rfl, _, .inl (.inl eG2)⟩, _, rfl, _, rfl, _, rfl, _, rfl, _, rfl, mk, _, rfl, sH2.seq hS, fun L hL => ?_⟩
      have ec : cutV ((Tm.mk sg ts).flat.map V.str) (some ((at_ : Nat) : Int)) (some ((at_ + u.size : Nat) : Int)) = u.flat.map V.str := by
        rw [cut_at (by omega) (by rw [lz]; omega), ← List.map_drop, ← List.map_take, show at_ + u.size - at_ = u.size by omega, hs1.cut]
      rw [ec]
      (generalize hG : L2.upd _ L _ = G3; have sL := same_of hG hL; have eL := at_of hG; clear hG)
      refine ⟨F, _, _, rfl, rfl, sL _ _ eG2, sz5' (by omega), _, rfl, ?_⟩
      have nLF : L ≠ F := fun e => by rw [e, eG2] at hL; cases hL
      refine ⟨r.len, by show r.len < r.len + 1; omega, c.app (.cons u .nil), r, at_ + u.size, fv ++ [.ref L], rfl, ⟨_, rfl⟩, fun b o e => by rw [upd_ne (ne_of_none e hF)]; exact sL _ _ (sH2 _ _ e), by rw [Fs.app_assoc]; exact ecd, by rw [Fs.app_size, eat]; show _ = 1 + (c.size + (u.size + 0)); omega, wd.2, hs2, upd_same .., ?_⟩
      rw [Fs.list_app, List.map_append]
      have hid : Same (hide G3 F) (hide (L2.upd G3 F (.lst (fv ++ [.ref L]))) F) := fun b o e => by
        have hb : b ≠ F := fun z => by rw [z, hide_self] at e; cases e
        rw [hide_ne hb] at e ⊢
        rw [upd_ne hb]
        exact e
      refine DtAll.append (DtAll.same ((Fx.of (s2.trans sL)).hide.trans hid) hfv) (.cons (.lst (.inl (.inl ?_)) (dt_strs _)) .nil)
      rw [hide_ne nLF, upd_ne nLF]
      exact eL
end

end TS

namespace TS
open PySem PySem.Spec PyProof.Rows L2 TL

theorem spots_all {K : PySem.W.Frag} {G : Hp} {fv : List V} {sps : List (List Nat)} (h : DtAll K G fv (sps.map spotD)) {i : Nat} {v : V} (hv : fv[i]? = some v) : ∃ sp q, sps[i]? = some sp ∧ v = .ref q ∧ SqT K G q (intsV sp) := by
  obtain ⟨d, h1, h2⟩ := h.get hv
  rw [List.getElem?_map] at h1
  cases hq : sps[i]? with
  | none => rw [hq] at h1; cases h1
  | some sp =>
    rw [hq] at h1
    cases h1
    obtain ⟨q, rfl, h3⟩ := spot_of h2
    exact ⟨sp, q, rfl, rfl, h3⟩
section
variable {P : Program} {w : World} {K : PySem.W.Frag} {mg : Str → Option Value} {base : Heap}
theorem sc__law_spots : FnScope ["_law_rows_here", "_law_marks", "_law_found", "_law_number", "_law_part", "_law_spot"] ["_law_rows_here", "_law_marks"] (defScope s__law_spots) := ⟨rfl, rfl, rfl, by decide +kernel, rfl, by decide +kernel, by decide +kernel⟩

set_option maxHeartbeats 1600000 in
theorem ok_law_spots (bt : Bt mg) (p__law_parts : Prom P w K mg base 2 "_law_parts" ["_law_rows_here", "_law_marks"] (spLParts K)) (D : Def K mg "_law_spots" s__law_spots) : ∀ n : Nat, Prom P w K mg base (n + 3) "_law_spots" ["_law_rows_here", "_law_marks"] (spLSpots K n) := by
  intro n
  induction n with
  | zero =>
    refine prom_mk D sc__law_spots (fun vs H Q E h => ?_) (fun _ _ _ _ _ _ us hl => match us, hl with | [_, _], _ => rfl) (fun f cdv A outer s H vs Q E hr h => ?_)
    · obtain ⟨rw_, mk, rows, t, rfl, _⟩ := h
      rfl
    · obtain ⟨rw_, mk, rows, t, rfl, _, _, _, _, _, hd, _⟩ := h
      exact absurd hd (Nat.not_lt_zero _)
  | succ n ih =>
  have p__law_spots := ih
  refine prom_mk D sc__law_spots (fun vs H Q E h => ?_) (fun _ _ _ _ _ _ us hl => match us, hl with | [_, _], _ => rfl) (fun f cdv A outer s H vs Q E hr h => ?_)
  · obtain ⟨rw_, mk, rows, t, rfl, _⟩ := h
    rfl
  · obtain ⟨rw_, mk, rows, t, rfl, ro, hrw, hS, hw, ht, hd, q⟩ := h
    cases t with
    | mk sg ts =>
    have hd' : ts.deep < n + 1 := hd
    have ht' : ts.size + 1 ≤ 9999 := ht
    have hw' : plS rows sg = some ts.len ∧ ts.wf (plS rows) := hw
    refine ⟨_, (pss_cons (ps_set (i := 2) sc__law_spots.nd rfl (Or.inl rfl) (pe_lst (pa_cons (pe_tup pa_nil) pa_nil)))
      (pss_cons (ps_for PassesOwn.never rfl (pi_enumK (K := K) rfl rfl bt.enumerate_ (pa_cons (pe_pc p__law_parts (hr.mono (by omega)) rfl (pa_cons (pv 0) (pa_cons (pv 1) pa_nil))) pa_nil)) (pg_tupK (K := K) (n := 2) rfl rfl (pgs_cons (pg_name (i := 3) sc__law_spots.nd rfl (Or.inr rfl)) (pgs_cons (pg_name (i := 4) sc__law_spots.nd rfl (Or.inl rfl)) pgs_nil))) (pss_one (ps_set (i := 2) sc__law_spots.nd rfl (Or.inl rfl) (pe_op op_cat (pv 2) (pe_lc (own := [("_law_spot", 5)]) (g := gName 5) rfl sc__law_spots.nd (pi_listK (K := K) rfl (pe_pc p__law_spots (hr.mono (by omega)) rfl (pa_cons (pv 0) (pa_cons (pv 4) pa_nil)))) (blkOk_by (N := ["_law_rows_here", "_law_marks", "_law_found", "_law_number", "_law_part", "_law_spot"]) (sc := defScope s__law_spots) (by decide +kernel)) (fun _ _ _ _ _ => (pg_name (i := 5) sc__law_spots.nd rfl (Or.inl rfl))) (fun _ _ _ _ _ => pts_nil) (fun _ _ _ _ _ => (pe_op (op_catAK (K := K)) (pe_tup (pa_cons (pv 3) pa_nil)) (pv 5))))))))
      (pss_one (ps_ret (pv 2))))), ?_⟩
    refine ⟨(by show 0 ≤ sizeLine; decide), fun T0 hT0 => ?_⟩
    (generalize hG : L2.upd _ T0 _ = H1; have sT0 := same_of hG hT0; have eT0 := at_of hG; clear hG)
    refine ⟨(by show 1 ≤ sizeLine; decide), fun F0 hF0 => ?_⟩
    (generalize hG : L2.upd _ F0 _ = H2; have sF0 := same_of hG hF0; have eF0 := at_of hG; clear hG)
    have s02 := sT0.trans sF0
    refine ⟨_, rfl, _, rfl, rw_, mk, rows, sg, ts, rfl, ro, Dt.same s02 hrw, s02.seq hS, hw, ht, fun G l ys sG hl el hys => ?_⟩
    have ly : ys.length = ts.len := by rw [hys.length, List.length_map, Fs.list_len]
    refine ⟨l, _, rfl, .inl (.inl el), for_it walk_enum (fun i τ G' => (∃ (F : Addr) (fv : List V) (c d : Fs), (∃ x3 x4 x5, τ = [some (.ref rw_), some (.ref mk), some (.ref F), x3, x4, x5]) ∧ H F = none ∧ G' F = some (.lst fv) ∧ DtAll K G' fv (([] :: c.spotsS 0).map spotD) ∧ c.app d = ts ∧ c.len = i) ∧ Same H G' ∧ Same G G')
      ⟨⟨F0, [.ref T0], .nil, ts, ⟨_, _, _, rfl⟩, sT0.free hF0, sG _ _ eF0, .cons (.tup (.inl (.inl (sG _ _ (sF0 _ _ eT0)))) .nil) .nil, rfl, rfl⟩, s02.trans sG, Same.refl _⟩ (fun i τ G' _ p => .inl (.inl (p.2.2 _ _ el))) ?_ ?_⟩
    · rintro i v τ G1 G2 hi ⟨⟨F, fv, c, d, ⟨x3, x4, x5, rfl⟩, hF, eF, hfv, ecd, elc⟩, sH1, sG1⟩ ⟨Tp, y, x, rfl, hTp, rfl, ey, hx⟩
      cases ey
      rw [ly] at hi
      cases d with
      | nil =>
        rw [Fs.app_nil] at ecd
        subst ecd
        omega
      | cons u r =>
      have hul : ts.list[i]? = some u := by rw [← ecd, Fs.list_app, List.getElem?_append_right (by rw [Fs.list_len]; omega), Fs.list_len, elc, Nat.sub_self]; rfl
      obtain ⟨di, hdi, hx2⟩ := hys.get hx
      rw [List.getElem?_map, hul] at hdi
      cases hdi
      obtain ⟨lu, rfl, hlu⟩ := part_of hx2
      have hul2 := List.mem_of_getElem? hul
      have hud := Fs.deep_mem ts u hul2
      have hsz : ts.size = c.size + (u.size + r.size) := by rw [← ecd, Fs.app_size]; rfl
      have hAu : At (Tm.mk sg ts) (c.size + 1) u := .kid (by rw [← ecd]; exact Fs.app_at c u r)
      (generalize hG : L2.upd _ Tp _ = G3; have sTp := same_of hG hTp; have eTp := at_of hG; clear hG)
      have sG3 := sG1.trans sTp
      have sH3 := sH1.trans sTp
      have lfv : fv.length = c.size + 1 := by rw [hfv.length, List.length_map, List.length_cons, Fs.spotsS_len]
      refine ⟨Tp, _, rfl, .inl (.inl eTp), rfl, _, _, rfl, _, _, rfl, rfl, ?_⟩
      refine ⟨_, rfl, _, rfl, _, rfl, rw_, lu, rows, u, rfl, ro, Dt.same sH3 hrw, (hide_same.trans sG3).seq hlu, hAu.wf hw, by omega, by omega, fun G4 m zs s4 hm em hzs => ?_⟩
      have lzs : zs.length = u.size := by rw [hzs.length, List.length_map, Tm.spotsS_len]
      refine ⟨m, rfl, ⟨_, .inl (.inl em)⟩, fun R hR => lc_prop (walk_at walk_list) (fun k G' v => ∃ sp, u.spotsS[k]? = some sp ∧ Dt K G' v (spotD (i :: sp))) (fun k A B v s h => let ⟨sp, x, y⟩ := h; ⟨sp, x, Dt.same s y⟩) (fun G' s => .inl (.inl (s _ _ em))) (by omega) hR (fun _ => rfl) (fun k G5 C hk s5 hD5 kk => ?_) (fun G5 ws s5 lw hws eR => ?_)⟩
      · have hkz : k < zs.length := hk
        obtain ⟨sp, qa, hsp, ev, hq⟩ := spots_all hzs (List.getElem?_eq_getElem hkz)
        have eg : zs.getD k .non = .ref qa := by rw [List.getD_eq_getElem?_getD, List.getElem?_eq_getElem hkz, ev]; rfl
        rw [eg]
        obtain ⟨lD, eD⟩ := hD5
        refine ⟨_, rfl, (by show 1 ≤ sizeLine; decide), fun U hU => ?_⟩
        (generalize hG : L2.upd _ U _ = G6; have sU := same_of hG hU; have eU := at_of hG; clear hG)
        have lsp : sp.length ≤ u.deep := Tm.spotsS_deep u sp (List.mem_of_getElem? hsp)
        have uds := Tm.deep_size u
        have nUR : U ≠ R := fun e => by rw [e, eD] at hU; cases hU
        refine ⟨_, rfl, U, qa, _, intsV sp, rfl, rfl, .inl (.inl eU), SqT.same (s5.trans sU) hq, ?_, fun h => (by cases h), fun _ h0 => ?_, fun _ h0 Cc hCc => ?_⟩
        · unfold intsV
          rw [List.length_map]
          exact sz5 (by show 1 + sp.length ≤ 100000; omega)
        · have e1' : sp = [] := by
            unfold intsV at h0
            exact List.map_eq_nil_iff.mp h0
          subst e1'
          exact kk _ _ sU ⟨[], hsp, .tup (.inl (.inl (by rw [hide_ne nUR]; exact eU))) (.cons (.int _) .nil)⟩
        · (generalize hG : L2.upd _ Cc _ = G7; have sC := same_of hG hCc; have eC := at_of hG; clear hG)
          have nCR : Cc ≠ R := fun e => by rw [e, sU _ _ eD] at hCc; cases hCc
          exact kk _ _ (sU.trans sC) ⟨sp, hsp, .tup (.inl (.inl (by rw [hide_ne nCR]; exact eC))) (dt_ints (i :: sp))⟩
      · have lw' : ws.length = u.size := by rw [lw]; exact lzs
        have s45 := s4.trans s5
        refine ⟨F, R, _, _, rfl, rfl, s45 _ _ (sTp _ _ eF), eR, sz5 (by omega), fun N hN => ?_⟩
        (generalize hG : L2.upd _ N _ = G6; have sN := same_of hG hN; have eN := at_of hG; clear hG)
        have s16 := (sTp.trans s45).trans sN
        refine ⟨⟨N, _, c.app (.cons u .nil), r, ⟨_, _, _, rfl⟩, (sH1.trans (sTp.trans s45)).free hN, eN, ?_, by rw [Fs.app_assoc]; exact ecd, by rw [Fs.app_len, elc]; rfl⟩, sH1.trans s16, sG1.trans s16⟩
        rw [Fs.spotsS_app, ← List.cons_append, List.map_append]
        refine DtAll.append (DtAll.same s16 hfv) ?_
        have eu : (Fs.cons u .nil).spotsS (0 + c.len) = u.spotsS.map (fun sp => i :: sp) := by
          show u.spotsS.map (fun sp => (0 + c.len) :: sp) ++ [] = _
          rw [List.append_nil, Nat.zero_add, elc]
        rw [eu, List.map_map]
        refine DtAll.of (by rw [List.length_map, Tm.spotsS_len]; exact lw') fun k x d hxk hdk => ?_
        obtain ⟨sp, h1, h2⟩ := hws k x hxk
        rw [List.getElem?_map, h1] at hdk
        cases hdk
        exact Dt.same (hide_same.trans sN) h2
    · rintro τ G1 ⟨⟨F, fv, c, d, ⟨x3, x4, x5, rfl⟩, hF, eF, hfv, ecd, elc⟩, sH1, sG1⟩
      have hd0 : d.len = 0 := by
        have : ts.len = c.len + d.len := by rw [← ecd, Fs.app_len]
        rw [ly] at elc
        omega
      have : d = .nil := by
        cases d with
        | nil => rfl
        | cons _ _ => cases hd0
      subst this
      rw [Fs.app_nil] at ecd
      subst ecd
      exact ⟨_, rfl, q G1 F fv sH1 hF eF hfv⟩
end

end TS

namespace TS
open PySem PySem.Spec PyProof.Rows L2 TL

/-! ### the law's part at a spot; its letters -/
def SgOk (zs : List Str) : Prop := ∀ z ∈ zs, ∃ c r, tl z = c :: r ∧ capL c = letterL (tl z) ∧ z.length ≤ 100000
theorem sg_ok {rows : List (Str × Int)} (ro : RowsOk rows) {z : Str} (h : (plS rows z).isNone = false) : ∃ c r, tl z = c :: r ∧ capL c = letterL (tl z) := by
  rw [plS_none] at h
  by_cases hL : letterL (tl z) = true
  · cases er : tl z with
    | nil => rw [er] at hL; cases hL
    | cons c r =>
      rw [er] at hL
      have : (capL c && _) = true := hL
      exact ⟨c, r, rfl, by rw [(Bool.and_eq_true_iff.mp this).1, hL]⟩
  · have hL' : letterL (tl z) = false := Bool.eq_false_iff.mpr hL
    have hm : z ∈ rows.map (·.1) := by
      rw [hL'] at h
      by_cases hm : z ∈ rows.map (·.1)
      · exact hm
      · rw [decide_eq_false hm] at h; cases h
    obtain ⟨r, hr, rfl⟩ := List.mem_map.mp hm
    have hn := ro.names r hr
    unfold nameS at hn
    obtain ⟨h1, h3⟩ := Bool.and_eq_true_iff.mp hn
    obtain ⟨h2, _⟩ := Bool.and_eq_true_iff.mp h1
    have h2 := of_decide_eq_true h2
    cases er : tl r.1 with
    | nil => rw [len_tl, er] at h2; cases h2
    | cons c q =>
      refine ⟨c, q, rfl, ?_⟩
      rw [← er, hL']
      have hc := List.all_eq_true.mp h3 c (by show c ∈ tl r.1; rw [er]; simp)
      have h97 := of_decide_eq_true (Bool.and_eq_true_iff.mp hc).1
      unfold capL
      rw [decide_eq_false (show ¬ c ≤ 90 by omega), Bool.and_false]
theorem wf_sg {rows : List (Str × Int)} (ro : RowsOk rows) {t : Tm} (h : t.wf (plS rows)) (hz : Short t.flat) : SgOk t.flat := fun z m => by
  obtain ⟨c, r, h1, h2⟩ := sg_ok ro ((lacks_out t.flat 1 0 (Tm.lacks h)).1 z m)
  exact ⟨c, r, h1, h2, hz z m⟩
theorem cap_cmp (c : Nat) : (!decide ([c] < [65])) = true ∧ (!decide ([90] < [c])) = true ↔ capL c = true := by
  unfold capL
  simp only [Bool.not_eq_true', decide_eq_false_iff_not, Bool.and_eq_true, decide_eq_true_eq, List.cons_lt_cons_iff, List.lt_irrefl, and_false, or_false]
  omega
theorem inV_strs {z : Str} {l : List Str} : inV (.str z) (l.map V.str) = decide (z ∈ l) := by
  unfold inV
  rw [List.any_map]
  induction l with
  | nil => rfl
  | cons y r ih =>
    rw [List.any_cons, ih]
    show ((y == z) || decide (z ∈ r)) = _
    by_cases h : y = z
    · subst h; simp
    · have h' : ¬ z = y := fun e => h e.symm
      have e : (y == z) = false := by simpa using h
      rw [e]
      simp [h']
theorem letsF_skip {acc : List Str} {z : Str} (h : letterL (tl z) = false) : letsF acc z = acc := by unfold letsF; rw [h]; rfl
theorem letsF_in {acc : List Str} {z : Str} (h : z ∈ acc) : letsF acc z = acc := by unfold letsF; rw [decide_eq_true h, Bool.not_true, Bool.and_false]; rfl
theorem letsF_new {acc : List Str} {z : Str} (h : letterL (tl z) = true) (hm : z ∉ acc) : letsF acc z = acc ++ [z] := by unfold letsF; rw [decide_eq_false hm, h]; rfl
def spUnl (K : PySem.W.Frag) : Sp := fun vs H Q _ => ∃ (mk : Addr) (zs : List Str), vs = [.ref mk] ∧ SqL K H mk (zs.map V.str) ∧ SgOk zs ∧ zs.length ≤ 9999 ∧ ∀ G l, Same H G → H l = none → G l = some (.lst ((letsOf zs).map V.str)) → Q (.ref l) G
section
variable {P : Program} {w : World} {K : PySem.W.Frag} {mg : Str → Option Value} {base : Heap}
theorem sc__law_at : FnScope ["_law_rows_here", "_law_marks", "_law_spot", "_law_number"] ["_law_rows_here", "_law_marks", "_law_spot"] (defScope s__law_at) := ⟨rfl, rfl, rfl, by decide +kernel, rfl, by decide +kernel, by decide +kernel⟩

set_option maxHeartbeats 800000 in
theorem ok_law_at (p__law_parts : Prom P w K mg base 2 "_law_parts" ["_law_rows_here", "_law_marks"] (spLParts K)) (D : Def K mg "_law_at" s__law_at) : Prom P w K mg base 3 "_law_at" ["_law_rows_here", "_law_marks", "_law_spot"] (spLAt K) := by
  refine prom_mk D sc__law_at (fun vs H Q E h => ?_) (fun _ _ _ _ _ _ us hl => match us, hl with | [_, _, _], _ => rfl) (fun f cdv A outer s H vs Q E hr h => ?_)
  · obtain ⟨rw_, mk, qa, rows, t, sp, p, u, rfl, _⟩ := h
    rfl
  · obtain ⟨rw_, mk, qa, rows, t, sp, p, u, rfl, ro, hrw, hS, hw, ht, hq, hf, q⟩ := h
    have lsp : (intsV sp).length = sp.length := by unfold intsV; rw [List.length_map]
    refine ⟨_, (pss_cons (ps_for PassesOwn.never rfl (pi_tupK (K := K) rfl (pv 2)) (pg_name (i := 3) sc__law_at.nd rfl (Or.inl rfl)) (pss_one (ps_set (i := 1) sc__law_at.nd rfl (Or.inl rfl) (pe_ix (ix_listK (K := K)) (pe_pc p__law_parts (hr.mono (by decide)) rfl (pa_cons (pv 0) (pa_cons (pv 1) pa_nil))) (pv 3) (fun _ _ => rfl)))))
      (pss_one (ps_ret (pv 1)))), ?_⟩
    refine ⟨_, rfl, qa, rfl, ⟨_, hq⟩, for_it walk_tup (fun k τ G' => (∃ (mk' : Addr) (x : Nat × Tm) (x3 : Option V), τ = [some (.ref rw_), some (.ref mk'), some (.ref qa), x3] ∧ SqL K G' mk' (x.2.flat.map V.str) ∧ At t x.1 x.2 ∧ fol x (sp.drop k) = some (p, u)) ∧ Same H G') ⟨⟨mk, (0, t), _, rfl, hS, .here t, hf⟩, Same.refl _⟩ (fun i τ G' _ p => SqT.same p.2 hq) ?_ ?_⟩
    · rintro k x τ G2 G3 hk ⟨⟨mk', ⟨p', u'⟩, x3, rfl, hS', hA, hfo⟩, s2⟩ ⟨rfl, hx⟩
      rw [lsp] at hk
      have hx' : x = .int (sp[k] : Nat) := by
        have h1 : (intsV sp)[k]? = some x := hx
        rw [ints_at (List.getElem?_eq_getElem hk)] at h1
        exact (Option.some.inj h1).symm
      subst hx'
      rw [List.drop_eq_getElem_cons hk] at hfo
      cases u' with
      | mk sg ts =>
      cases hs : stepT (p', Tm.mk sg ts) sp[k] with
      | none => simp [fol, hs] at hfo
      | some z =>
        have hfo' : fol z (sp.drop (k + 1)) = some (p, u) := by simpa [fol, hs] using hfo
        have hl : ts.list[sp[k]]? = some z.2 := by
          cases hl2 : ts.list[sp[k]]? with
          | none => simp [stepT, hl2] at hs
          | some v =>
            obtain ⟨q', h1, h2⟩ := hA.kids hl2
            have : z = (q', v) := by simpa [stepT, hl2, h1] using hs.symm
            rw [this]
        have gl : p' + (Tm.mk sg ts).size ≤ t.flat.length := (hA.seg 0).le
        rw [Tm.flat_len] at gl
        refine ⟨_, rfl, _, rfl, rw_, mk', rows, sg, ts, rfl, ro, Dt.same s2 hrw, hS', hA.wf hw, by omega, fun G4 l ys s4 hl4 el hys => ?_⟩
        have lys : ys.length = ts.len := by rw [hys.length, List.length_map, Fs.list_len]
        have hkl := step_wf (pl := fun _ => none) hs
        have hyl : sp[k] < ys.length := by omega
        obtain ⟨di, hdi, hx2⟩ := hys.get (List.getElem?_eq_getElem hyl)
        rw [List.getElem?_map, hl] at hdi
        cases hdi
        obtain ⟨lu, ev, hlu⟩ := part_of hx2
        exact ⟨_, rfl, l, _, _, .ref lu, rfl, rfl, .inl (.inl el), atI_nat (by rw [List.getElem?_eq_getElem hyl, ev]), ⟨lu, z, _, rfl, hide_same.seq hlu, step_at hA hs, hfo'⟩, s2.trans s4⟩
    · rintro τ G2 ⟨⟨mk', ⟨p', u'⟩, x3, rfl, hS', hA, hfo⟩, s2⟩
      rw [lsp, List.drop_length] at hfo
      cases hfo
      exact ⟨_, rfl, q G2 mk' s2 hS'⟩
theorem sc__law_unlike_letters : FnScope ["_law_marks", "_law_found", "_law_sign"] ["_law_marks"] (defScope s__law_unlike_letters) := ⟨rfl, rfl, rfl, by decide +kernel, rfl, by decide +kernel, by decide +kernel⟩

set_option maxHeartbeats 800000 in
theorem ok_law_unl (D : Def K mg "_law_unlike_letters" s__law_unlike_letters) : Prom P w K mg base 1 "_law_unlike_letters" ["_law_marks"] (spUnl K) := by
  refine prom_mk D sc__law_unlike_letters (fun vs H Q E h => ?_) (fun _ _ _ _ _ _ us hl => match us, hl with | [_], _ => rfl) (fun f cdv A outer s H vs Q E hr h => ?_)
  · obtain ⟨mk, zs, rfl, _⟩ := h
    rfl
  · obtain ⟨mk, zs, rfl, hS, hz, hl, q⟩ := h
    have lz : (zs.map V.str).length = zs.length := List.length_map ..
    refine ⟨_, (pss_cons (ps_set (i := 1) sc__law_unlike_letters.nd rfl (Or.inl rfl) (pe_lst pa_nil))
      (pss_cons (ps_for PassesOwn.never rfl (pi_listK (K := K) rfl (pv 0)) (pg_name (i := 2) sc__law_unlike_letters.nd rfl (Or.inl rfl)) (pss_one (ps_if (PW.pt (pw_and (pt_chain op_le_str op_le_str pe_str (pe_ix ix_str (pv 2) pe_int (fun _ _ => rfl)) pe_str) (pw_and1 (pt_cmpR (op_notInK (K := K)) (pv 2) (pv 1) rfl)))) (pss_one (ps_expr (pe_appendK (K := K) rfl (pv 1) (pv 2)))) pss_nil)))
      (pss_one (ps_ret (pv 1))))), ?_⟩
    refine ⟨(by show 0 ≤ sizeLine; decide), fun F hF => ?_⟩
    (generalize hG : L2.upd _ F _ = H1; have sF := same_of hG hF; have eF := at_of hG; clear hG)
    refine ⟨_, rfl, mk, rfl, ⟨_, sF.seq hS⟩, for_it walk_list (fun i τ G' => (∃ x2, τ = [some (.ref mk), some (.ref F), x2]) ∧ Same H G' ∧ G' F = some (.lst (((zs.take i).foldl letsF []).map V.str)) ∧ ((zs.take i).foldl letsF []).length ≤ i) ⟨⟨_, rfl⟩, sF, eF, Nat.le_refl _⟩ (fun i τ G' _ p => p.2.1.seq hS) ?_ ?_⟩
    · rintro i x τ G2 G3 hi ⟨⟨x2, rfl⟩, s2, e2, la⟩ ⟨rfl, hx⟩
      obtain ⟨z, hzi, rfl⟩ : ∃ z, zs[i]? = some z ∧ x = .str z := by
        rw [List.getElem?_map] at hx
        cases hq : zs[i]? with
        | none => rw [hq] at hx; cases hx
        | some z => rw [hq] at hx; cases hx; exact ⟨z, rfl, rfl⟩
      obtain ⟨c, r, er, hc, hzl⟩ := hz z (List.mem_of_getElem? hzi)
      have et : (zs.take (i + 1)).foldl letsF [] = letsF ((zs.take i).foldl letsF []) z := by
        rw [List.take_add_one, hzi, List.foldl_append]
        rfl
      have ll := letsF_len ((zs.take i).foldl letsF []) z
      have eA : ("A" : Str).cps.toList = [65] := by decide +kernel
      have eZ : ("Z" : Str).cps.toList = [90] := by decide +kernel
      have skip : letterL (tl z) = false → letsF ((zs.take i).foldl letsF []) z = (zs.take i).foldl letsF [] := fun h => letsF_skip h
      refine ⟨_, rfl, z, _, c, rfl, rfl, sz5 hzl, atI_nat (j := 0) (by show (tl z)[0]? = _; rw [er]; rfl), _, _, rfl, rfl, _, rfl, ?_⟩
      rw [eA]
      show if (!decide ([c] < [65])) = true then _ else _
      by_cases h1 : (!decide ([c] < [65])) = true
      · rw [if_pos h1]
        refine ⟨_, _, rfl, rfl, _, rfl, ?_⟩
        rw [eZ]
        show if (!decide ([90] < [c])) = true then _ else _
        by_cases h2 : (!decide ([90] < [c])) = true
        · rw [if_pos h2]
          have hL : letterL (tl z) = true := by rw [← hc]; exact (cap_cmp c).mp ⟨h1, h2⟩
          refine ⟨_, rfl, _, rfl, F, _, rfl, .inl (.inl (.inl e2)), rfl, ?_, _, rfl, ?_⟩
          · rw [List.all_eq_true]
            intro v hv
            obtain ⟨y, _, rfl⟩ := List.mem_map.mp hv
            rfl
          · show if (if true = true then !inV (.str z) (((zs.take i).foldl letsF []).map V.str) else _) = true then _ else _
            rw [if_pos rfl, inV_strs]
            by_cases hm : z ∈ (zs.take i).foldl letsF []
            · rw [decide_eq_true hm]
              have e0 : letsF ((zs.take i).foldl letsF []) z = (zs.take i).foldl letsF [] := letsF_in hm
              exact iteF ⟨⟨_, rfl⟩, s2, by rw [et, e0]; exact e2, by rw [et, e0]; omega⟩
            · rw [decide_eq_false hm]
              have e0 : letsF ((zs.take i).foldl letsF []) z = (zs.take i).foldl letsF [] ++ [z] := letsF_new hL hm
              refine iteT ⟨_, rfl, .inl ⟨rfl, _, .inl (.inl e2)⟩, _, rfl, F, _, _, rfl, rfl, e2, sz5' (by rw [List.length_map]; omega), ⟨_, rfl⟩, Same.keep' s2 hF, ?_, by rw [et]; omega⟩
              rw [upd_same, et, e0, List.map_append]
              rfl
        · rw [if_neg h2]
          have hL : letterL (tl z) = false := by
            cases h : letterL (tl z) with
            | false => rfl
            | true => rw [← hc] at h; exact absurd ((cap_cmp c).mpr h).2 h2
          exact iteF ⟨⟨_, rfl⟩, s2, by rw [et, skip hL]; exact e2, by rw [et, skip hL]; omega⟩
      · rw [if_neg h1]
        have hL : letterL (tl z) = false := by
          cases h : letterL (tl z) with
          | false => rfl
          | true => rw [← hc] at h; exact absurd ((cap_cmp c).mpr h).1 h1
        exact ⟨_, rfl, iteF (iteF ⟨⟨_, rfl⟩, s2, by rw [et, skip hL]; exact e2, by rw [et, skip hL]; omega⟩)⟩
    · rintro τ G2 ⟨⟨x2, rfl⟩, s2, e2, la⟩
      rw [lz, List.take_length] at e2
      exact ⟨_, rfl, q G2 F s2 hF e2⟩
end

end TS

namespace TS
open PySem PySem.Spec PyProof.Rows L2 TL

/-! ### told right -/
def Tiny (zs : List Str) : Prop := ∀ z ∈ zs, Sm 0 8 (.str z)
def Fit (t : Tm) : Prop := t.size ≤ 1400 ∧ t.size * (4 * t.deep + 30) ≤ 250000
theorem Sm.nat {i k : Nat} (h : i ≤ 2000) : Sm k 20 (.int (i : Int)) := by
  have all : ∀ j ∈ List.range 2001, smB 0 20 (.int (j : Int)) = true := by decide +kernel
  exact Sm.mono (k := 0) (all i (List.mem_range.mpr (by omega))) (Nat.zero_le _) (Nat.le_refl _)
theorem Sm.three {k a b c : Nat} {x y z : PyData} (hx : Sm k a x) (hy : Sm k b y) (hz : Sm k c z) : Sm (k + 1) (a + b + c + 3) (.list [x, y, z]) := by
  obtain ⟨x1, x2, x3, x4⟩ := hx.to
  obtain ⟨y1, y2, y3, y4⟩ := hy.to
  obtain ⟨z1, z2, z3, z4⟩ := hz.to
  refine .of ?_ ?_ ?_ ?_
  · show PyData.showableAll [x, y, z] = true
    unfold PyData.showableAll PyData.showableAll PyData.showableAll PyData.showableAll
    rw [x1, y1, z1]
    rfl
  · show PyData.depthAll [x, y, z] + 1 ≤ k + 1
    have := all_deep (k := k) (ds := [x, y, z]) fun d hd => by
      simp only [List.mem_cons, List.not_mem_nil, or_false] at hd
      rcases hd with rfl | rfl | rfl <;> assumption
    omega
  · show PyData.leavesShortAll 40 [x, y, z] = true
    exact all_short fun d hd => by
      simp only [List.mem_cons, List.not_mem_nil, or_false] at hd
      rcases hd with rfl | rfl | rfl <;> assumption
  · show PyData.weightAll [x, y, z] ≤ _
    unfold PyData.weightAll PyData.weightAll PyData.weightAll PyData.weightAll
    omega
theorem sm_marks {zs : List Str} {n : Nat} (h : Tiny zs) (hl : zs.length ≤ n) : Sm 1 (n * 9) (.list (zs.map .str)) := Sm.list (k := 0) (n := 8) (m := n) (fun d hd => by
  obtain ⟨z, hz, rfl⟩ := List.mem_map.mp hd
  exact h z hz) (by rw [List.length_map]; exact hl)
theorem sm_spots {t : Tm} {B : Nat} (hB : ∀ sp ∈ t.spotsS, ∀ i ∈ sp, i ≤ 3) : Sm 2 (t.size * (4 * t.deep + 1)) (.list (t.spotsS.map spotD)) := by
  refine Sm.list (k := 1) (n := 4 * t.deep) (m := t.size) (fun d hd => ?_) (by rw [List.length_map, Tm.spotsS_len]; exact Nat.le_refl _)
  obtain ⟨sp, hsp, rfl⟩ := List.mem_map.mp hd
  have := Sm.tuple (k := 0) (n := 3) (m := t.deep) (ds := sp.map fun n => PyData.int (n : Nat)) (fun d hd => by
    obtain ⟨i, hi, rfl⟩ := List.mem_map.mp hd
    have h3 := hB sp hsp i hi
    have all : ∀ j ∈ List.range 4, smB 0 3 (.int (j : Int)) = true := by decide +kernel
    exact all i (List.mem_range.mpr (by omega))) (by rw [List.length_map]; exact Tm.spotsS_deep t sp hsp)
  exact this.mono (Nat.le_refl _) (by omega)
theorem lets_mem (zs : List Str) : ∀ (acc : List Str), (∀ z ∈ zs.foldl letsF acc, z ∈ acc ∨ z ∈ zs) ∧ (zs.foldl letsF acc).length ≤ acc.length + zs.length := by
  induction zs with
  | nil => intro acc; exact ⟨fun z h => .inl h, Nat.le_refl _⟩
  | cons y r ih =>
    intro acc
    obtain ⟨h1, h2⟩ := ih (letsF acc y)
    have hm : ∀ z ∈ letsF acc y, z ∈ acc ∨ z = y := fun z hz => by
      unfold letsF at hz
      split at hz
      · rcases List.mem_append.mp hz with m | m
        · exact .inl m
        · exact .inr (List.mem_singleton.mp m)
      · exact .inl hz
    refine ⟨fun z hz => ?_, ?_⟩
    · rcases h1 z hz with m | m
      · rcases hm z m with m | m
        · exact .inl m
        · exact .inr (by rw [m]; simp)
      · exact .inr (List.mem_cons_of_mem _ m)
    · have := letsF_len acc y
      rw [List.length_cons]
      show (r.foldl letsF (letsF acc y)).length ≤ _
      omega
theorem spot_small {rows : List (Str × Int)} (hP : RowsP rows) {t : Tm} (hw : t.wf (plS rows)) : ∀ sp ∈ t.spotsS, ∀ i ∈ sp, i ≤ 3 := fun sp hsp => by
  rw [← Tm.spots_eq] at hsp
  obtain ⟨w, hw1, rfl⟩ := List.mem_map.mp hsp
  obtain ⟨sp1, v, h1, h2⟩ := Tm.spots_fol t [] 0 w hw1
  rw [List.nil_append] at h1
  rw [h1]
  exact fol_small (pl4 hP) hw sp1 _ _ (.here t) h2
theorem spotsOf_eq (t : Tm) : spotsOf t = t.spotsS := Tm.spots_eq t
def spTR (K : PySem.W.Frag) (n : Nat) : Sp := fun vs H Q _ => ∃ (tm wk rw_ mk wa : Addr) (rows : List (Str × Int)) (t : Tm), vs = [.ref tm, .ref wk, .ref rw_, .ref mk] ∧ RowsOk rows ∧ TermOk K H tm wa rows t ∧ WordsAt K H wk rows ∧ Dt K H (.ref rw_) (.list (rows.map rowPy)) ∧ SqL K H mk (t.flat.map V.str) ∧ Tiny t.flat ∧ Fit t ∧ t.deep < n ∧
  ∀ G, Same H G → Q (.bl true) G
section
variable {P : Program} {w : World} {K : PySem.W.Frag} {mg : Str → Option Value} {base : Heap}
theorem sc__law_told_right : FnScope ["_law_term", "_law_known", "_law_rows_here", "_law_marks", "_law_spots_here", "_law_parts_here", "_law_turn", "_law_told", "_law_some", "_law_found", "_law_one", "_law_spot"] ["_law_term", "_law_known", "_law_rows_here", "_law_marks"] (defScope s__law_told_right) := ⟨rfl, rfl, rfl, by decide +kernel, rfl, by decide +kernel, by decide +kernel⟩

set_option maxHeartbeats 1600000 in
theorem ok_told_right (Y : Sys K) (bt : Bt mg) (cl_Term : Cls K (tcls K)) (IT : IsC K (tcls K)) (g_Term : mg "Term" = some (.ref (He.ga K "Term"))) {n : Nat} (p__law_spots : Prom P w K mg base (n + 3) "_law_spots" ["_law_rows_here", "_law_marks"] (spLSpots K n)) (p__law_parts : Prom P w K mg base 2 "_law_parts" ["_law_rows_here", "_law_marks"] (spLParts K)) (p__law_unlike_letters : Prom P w K mg base 1 "_law_unlike_letters" ["_law_marks"] (spUnl K))
    (mm_Term_signs : Meth K (tcls K) "signs" (He.ma K (tcls K) "signs")) (p_Term_signs : PromA CX0 P w K mg base 1 (He.ma K (tcls K) "signs") ["self"] (spTSigns K)) (mm_Term_spots : Meth K (tcls K) "spots" (He.ma K (tcls K) "spots")) (p_Term_spots : PromA CX0 P w K mg base 3 (He.ma K (tcls K) "spots") ["self"] (spSpots K))
    (mm_Term_letters : Meth K (tcls K) "letters" (He.ma K (tcls K) "letters")) (p_Term_letters : PromA CX0 P w K mg base 3 (He.ma K (tcls K) "letters") ["self"] (spLets K)) (mm_Term_parts : Meth K (tcls K) "parts" (He.ma K (tcls K) "parts")) (p_Term_parts : PromA CX0 P w K mg base 8 (He.ma K (tcls K) "parts") ["self"] (spParts K))
    (mm_Term_head : Meth K (tcls K) "head" (He.ma K (tcls K) "head")) (p_Term_head : PromA CX0 P w K mg base 1 (He.ma K (tcls K) "head") ["self"] (spHead K)) (ml_Term : Meth K (tcls K) "__len__" (He.ma K (tcls K) "__len__")) (p_Term___len__ : PromA CX0 P w K mg base 1 (He.ma K (tcls K) "__len__") ["self"] (spTLen K))
    (mm_Term_deep : Meth K (tcls K) "deep" (He.ma K (tcls K) "deep")) (p_Term_deep : PromA CX0 P w K mg base 4 (He.ma K (tcls K) "deep") ["self"] (spDeep K)) (mm_Term_words : Meth K (tcls K) "words" (He.ma K (tcls K) "words")) (p_Term_words : PromA CX0 P w K mg base 1 (He.ma K (tcls K) "words") ["self"] (spTWords K))
    (mq_Words : Meth K (wcls K) "__eq__" (He.ma K (wcls K) "__eq__")) (p_Words___eq__ : PromA CX0 P w K mg base 1 (He.ma K (wcls K) "__eq__") ["self", "other"] (spWEq K)) (D : Def K mg "_law_told_right" s__law_told_right) :
    PromG P w K mg base (n + 12) "_law_told_right" ["_law_term", "_law_known", "_law_rows_here", "_law_marks"] (spTR K n) := by
  refine promG_mk D sc__law_told_right (fun vs H Q E h => ?_) (fun _ _ _ _ _ _ us hl => match us, hl with | [_, _, _, _], _ => rfl) (fun f cdv A outer s H vs Q E hgd hr h => ?_)
  · obtain ⟨tm, wk, rw_, mk, wa, rows, t, rfl, _⟩ := h
    rfl
  · obtain ⟨tm, wk, rw_, mk, wa, rows, t, rfl, ro, ok, hWk, hrw, hS, tiny, fit, hdp, q⟩ := h
    obtain ⟨dx, sa, ea, e1, e2, e3⟩ := id ok.at_
    refine ⟨_, (pss_cons (ps_set (i := 4) sc__law_told_right.nd rfl (Or.inl rfl) (pe_pc p__law_spots (hr.mono (by omega)) rfl (pa_cons (pv 2) (pa_cons (pv 3) pa_nil))))
      (pss_cons (ps_set (i := 5) sc__law_told_right.nd rfl (Or.inl rfl) (pe_pc p__law_parts (hr.mono (by omega)) rfl (pa_cons (pv 2) (pa_cons (pv 3) pa_nil))))
      (pss_cons (ps_for PassesOwn.never rfl (pi_range1 rfl bt.range_ (pa_cons pe_int pa_nil)) (pg_name (i := 6) sc__law_told_right.nd rfl (Or.inl rfl)) (pss_cons (ps_set (i := 7) sc__law_told_right.nd rfl (Or.inl rfl) (pe_lst (pa_cons (pe_pm0 cl_Term mm_Term_signs p_Term_signs (hr.mono (by omega)) (pv 0)) (pa_cons (pe_pm0 cl_Term mm_Term_spots p_Term_spots (hr.mono (by omega)) (pv 0)) (pa_cons (pe_pm0 cl_Term mm_Term_letters p_Term_letters (hr.mono (by omega)) (pv 0)) pa_nil)))))
      (pss_cons (ps_if (pt_cmpR op_ne (pe_callB (id := "repr") (reprK (K := K) Y hgd hr.units) (by rfl) bt.repr_ (by decide +kernel) (pa_cons (pv 7) pa_nil)) (pe_callB (id := "repr") (reprK (K := K) Y hgd hr.units) (by rfl) bt.repr_ (by decide +kernel) (pa_cons (pe_lst (pa_cons (pv 3) (pa_cons (pv 4) (pa_cons (pe_pc p__law_unlike_letters (hr.mono (by omega)) rfl (pa_cons (pv 3) pa_nil)) pa_nil)))) pa_nil)) (nomark _)) (pss_one (ps_ret pe_bl)) pss_nil)
      (pss_cons (ps_for PassesOwn.never rfl (pi_listK (K := K) rfl (pv 7)) (pg_name (i := 8) sc__law_told_right.nd rfl (Or.inl rfl)) (pss_cons (ps_expr (pe_appendK (K := K) rfl (pv 8) pe_str))
      (pss_one (ps_expr (pe_bm0 PySem.F.plainAttrs_list PySem.F.slot_list_reverse PySem.F.type_list_reverse mt_reverse (pv 8))))))
      (pss_cons (ps_set (i := 9) sc__law_told_right.nd rfl (Or.inl rfl) (pe_pm0 cl_Term mm_Term_parts p_Term_parts (hr.mono (by omega)) (pv 0)))
      (pss_cons (ps_if (PW.pt (pw_or (pt_not (pt_val (pe_callB (id := "isinstance") (isiK (K := K)) (by rfl) bt.isinstance_ (by decide +kernel) (pa_cons (pv 9) (pa_cons (pe_bltn (v := .ty "list") rfl bt.list_ (by decide +kernel) rfl) pa_nil))))) (pw_or1 (pt_cmpR op_ne (pe_callB (id := "repr") (reprK (K := K) Y hgd hr.units) (by rfl) bt.repr_ (by decide +kernel) (pa_cons (pe_lc (own := [("_law_one", 10)]) (g := gName 10) rfl sc__law_told_right.nd (pi_listK (K := K) rfl (pv 9)) (blkOk_by (N := ["_law_term", "_law_known", "_law_rows_here", "_law_marks", "_law_spots_here", "_law_parts_here", "_law_turn", "_law_told", "_law_some", "_law_found", "_law_one", "_law_spot"]) (sc := defScope s__law_told_right) (by decide +kernel)) (fun _ _ _ _ _ => (pg_name (i := 10) sc__law_told_right.nd rfl (Or.inl rfl))) (fun _ _ _ _ _ => pts_nil) (fun _ _ _ _ _ => (pe_pm0 cl_Term mm_Term_signs p_Term_signs (hr.mono (by omega)) (pv 10)))) pa_nil)) (pe_callB (id := "repr") (reprK (K := K) Y hgd hr.units) (by rfl) bt.repr_ (by decide +kernel) (pa_cons (pv 5) pa_nil)) (nomark _))))) (pss_one (ps_ret pe_bl)) pss_nil)
      (pss_one (ps_expr (pe_bm0 PySem.F.plainAttrs_list PySem.F.slot_list_clear PySem.F.type_list_clear mt_clear (pv 9))))))))))
      (pss_cons (ps_if (pt_cmpR op_ne (pe_callB (id := "repr") (reprK (K := K) Y hgd hr.units) (by rfl) bt.repr_ (by decide +kernel) (pa_cons (pe_lst (pa_cons (pe_pm0 cl_Term mm_Term_head p_Term_head (hr.mono (by omega)) (pv 0)) (pa_cons (pe_callB (id := "len") (len_own ml_Term p_Term___len__ (hr.mono (by omega))) (by rfl) bt.len_ (by decide +kernel) (pa_cons (pv 0) pa_nil)) (pa_cons (pe_pm0 cl_Term mm_Term_deep p_Term_deep (hr.mono (by omega)) (pv 0)) pa_nil)))) pa_nil)) (pe_callB (id := "repr") (reprK (K := K) Y hgd hr.units) (by rfl) bt.repr_ (by decide +kernel) (pa_cons (pe_lst (pa_cons (pe_ix (ix_listK (K := K)) (pv 3) pe_int (fun _ _ => rfl)) (pa_cons (pe_callB (id := "len") (lenK (K := K)) (by rfl) bt.len_ (by decide +kernel) (pa_cons (pv 3) pa_nil)) (pa_cons (pe_callB (id := "max") (cr_max rfl) (by rfl) bt.max_ (by decide +kernel) (pa_cons (pe_lc (own := [("_law_spot", 11)]) (g := gName 11) rfl sc__law_told_right.nd (pi_listK (K := K) rfl (pv 4)) (blkOk_by (N := ["_law_term", "_law_known", "_law_rows_here", "_law_marks", "_law_spots_here", "_law_parts_here", "_law_turn", "_law_told", "_law_some", "_law_found", "_law_one", "_law_spot"]) (sc := defScope s__law_told_right) (by decide +kernel)) (fun _ _ _ _ _ => (pg_name (i := 11) sc__law_told_right.nd rfl (Or.inl rfl))) (fun _ _ _ _ _ => pts_nil) (fun _ _ _ _ _ => (pe_callB (id := "len") (lenK (K := K)) (by rfl) bt.len_ (by decide +kernel) (pa_cons (pv 11) pa_nil)))) pa_nil)) pa_nil)))) pa_nil)) (nomark _)) (pss_one (ps_ret pe_bl)) pss_nil)
      (pss_one (ps_ret (pe_and (pe_cmpR (op_eqOwn mq_Words p_Words___eq__ (hr.mono (by omega))) (pe_pm0 cl_Term mm_Term_words p_Term_words (hr.mono (by omega)) (pv 0)) (pv 1) (nomark _)) (pe_one (pe_callB (id := "isinstance") (isiK (K := K)) (by rfl) bt.isinstance_ (by decide +kernel) (pa_cons (pv 0) (pa_cons (pe_glob (v := .ref (He.ga K "Term")) rfl g_Term rfl) pa_nil))))))))))), ?_⟩
    refine ⟨_, rfl, _, rfl, rw_, mk, rows, t, rfl, ro, hrw, hS, ok.wf, ok.few, hdp, fun G1 l1 ys1 s1 hl1 el1 hys1 => ?_⟩
    cases t with
    | mk sg ts =>
    refine ⟨_, rfl, _, rfl, rw_, mk, rows, sg, ts, rfl, ro, Dt.same s1 hrw, s1.seq hS, ok.wf, ok.few, fun G2 l2 ys2 s2 hl2 el2 hys2 => ?_⟩
    have s02 := s1.trans s2
    have h3 := spot_small ok.rp ok.wf
    refine ⟨_, rfl, by decide, by decide, for_it walk_range (fun j τ G => (∃ x6 x7 x8 x9 x10 x11, τ = [some (.ref tm), some (.ref wk), some (.ref rw_), some (.ref mk), some (.ref l1), some (.ref l2), x6, x7, x8, x9, x10, x11]) ∧ Same G2 G) ⟨⟨_, _, _, _, _, _, rfl⟩, Same.refl _⟩ (fun _ _ _ _ _ => trivial) ?_ ?_⟩
    · rintro j x τ Gg G hj ⟨⟨x6, x7, x8, x9, x10, x11, rfl⟩, sG⟩ ⟨rfl, rfl⟩
      have s0G := s02.trans sG
      refine ⟨_, rfl, tm, dx, _, rfl, s0G _ _ e1, rfl, tm, wa, _, _, rfl, ok.at_.same s0G, fun La hLa => ?_⟩
      (generalize hG : L2.upd _ La _ = A1; have sLa := same_of hG hLa; have eLa := at_of hG; clear hG)
      have s0A1 := s0G.trans sLa
      refine ⟨_, rfl, tm, dx, _, rfl, s0A1 _ _ e1, rfl, tm, wa, _, rfl, ok.at_.same s0A1, ok.few, fun A2 Lb yb sb hLb eLb hyb => ?_⟩
      have s0A2 := s0A1.trans sb
      refine ⟨_, rfl, tm, dx, _, rfl, s0A2 _ _ e1, rfl, tm, wa, _, rfl, ok.at_.same s0A2, ok.few, ok.short, fun A3 Lc sc hLc eLc => ?_⟩
      refine ⟨(by show 3 ≤ sizeLine; decide), fun TL hTL => ?_⟩
      (generalize hG : L2.upd _ TL _ = A4; have sTL := same_of hG hTL; have eTL := at_of hG; clear hG)
      have fl := Tm.flat_len (Tm.mk sg ts)
      obtain ⟨d1, ed1⟩ : ∃ d, d = PyData.list ((Tm.mk sg ts).flat.map .str) := ⟨_, rfl⟩
      obtain ⟨d2, ed2⟩ : ∃ d, d = PyData.list ((Tm.mk sg ts).spotsS.map spotD) := ⟨_, rfl⟩
      obtain ⟨d3, ed3⟩ : ∃ d, d = PyData.list ((letsOf (Tm.mk sg ts).flat).map .str) := ⟨_, rfl⟩
      have q1 : Dt K A4 (.ref La) d1 := by rw [ed1]; exact .lst (.inl (.inl (sTL _ _ (sc _ _ (sb _ _ eLa))))) (dt_strs _)
      have q2 : Dt K A4 (.ref Lb) d2 := by
        rw [ed2, ← spotsOf_eq]
        exact .lst (.inl (.inl (sTL _ _ (sc _ _ eLb)))) (DtAll.same (hide_same.trans (sc.trans sTL)) hyb)
      have q3 : Dt K A4 (.ref Lc) d3 := by rw [ed3]; exact .lst (.inl (.inl (sTL _ _ eLc))) (dt_strs _)
      have lm := lets_mem (Tm.mk sg ts).flat []
      have m1 : Sm 2 ((Tm.mk sg ts).size * 9) d1 := by rw [ed1]; exact (sm_marks tiny (Nat.le_of_eq fl)).mono (by decide) (Nat.le_refl _)
      have m2 : Sm 2 ((Tm.mk sg ts).size * (4 * (Tm.mk sg ts).deep + 1)) d2 := by rw [ed2]; exact sm_spots (B := 0) h3
      have m3 : Sm 2 ((Tm.mk sg ts).size * 9) d3 := by
        rw [ed3]
        refine (sm_marks (fun z hz => tiny z ((lm.1 z hz).elim (fun h => by cases h) id)) ?_).mono (by decide) (Nat.le_refl _)
        have h2 := lm.2
        rw [fl, List.length_nil, Nat.zero_add] at h2
        exact h2
      have m : Sm 3 250100 (.list [d1, d2, d3]) := by
        refine (Sm.three m1 m2 m3).mono (Nat.le_refl _) ?_
        have hf := fit.2
        rw [Nat.mul_add] at hf ⊢
        omega
      have sh := m.shows (by decide) (by decide)
      clear m m1 m2 m3
      refine ⟨_, rfl, .ref TL, .list [d1, d2, d3], rfl, .lst (.inl (.inl eTL)) (.cons q1 (.cons q2 (.cons q3 .nil))), sh.ok, sh.deep, sh.size, ?_⟩
      have s0A4 := s0A2.trans (sc.trans sTL)
      have sGA4 := ((sLa.trans sb).trans sc).trans sTL
      refine ⟨_, rfl, _, rfl, _, rfl, mk, _, rfl, s0A4.seq hS, wf_sg ro ok.wf ok.short, by rw [fl]; exact ok.few, fun A5 Ld sd hLd eLd => ?_⟩
      refine ⟨(by show 3 ≤ sizeLine; decide), fun TM hTM => ?_⟩
      (generalize hG : L2.upd _ TM _ = A6; have sTM := same_of hG hTM; have eTM := at_of hG; clear hG)
      have sGA6 := sGA4.trans (sd.trans sTM)
      have r1 : Dt K A6 (.ref mk) d1 := by rw [ed1]; exact .lst ((s0A4.trans (sd.trans sTM)).seq hS) (dt_strs _)
      have r2 : Dt K A6 (.ref l1) d2 := by rw [ed2]; exact .lst (.inl (.inl (sGA6 _ _ (sG _ _ (s2 _ _ el1))))) (DtAll.same (s2.trans (sG.trans sGA6)) hys1)
      have r3 : Dt K A6 (.ref Ld) d3 := by rw [ed3]; exact .lst (.inl (.inl (sTM _ _ eLd))) (dt_strs _)
      refine ⟨.ref TM, .list [d1, d2, d3], rfl, .lst (.inl (.inl eTM)) (.cons r1 (.cons r2 (.cons r3 .nil))), sh.ok, sh.deep, sh.size, rfl, _, rfl, iteF' (by simp) ?_⟩
      clear q1 q2 q3 r1 r2 r3 sh
      have fa : G La = none := hLa
      have fb : G Lb = none := sLa.free hLb
      have fc : G Lc = none := sLa.free (sb.free hLc)
      have s46 := sd.trans sTM
      have tla : TL ≠ La ∧ TL ≠ Lb ∧ TL ≠ Lc := ⟨fun e => (by rw [e, sc _ _ (sb _ _ eLa)] at hTL; cases hTL), fun e => (by rw [e, sc _ _ eLb] at hTL; cases hTL), fun e => (by rw [e, eLc] at hTL; cases hTL)⟩
      have fs14 : (Tm.mk sg ts).size ≤ 1400 := fit.1
      refine ⟨_, rfl, TL, rfl, ⟨_, .inl (.inl (s46 _ _ eTL))⟩, for_it walk_list (fun i τ G' => (∃ x6 x8 x9 x10 x11, τ = [some (.ref tm), some (.ref wk), some (.ref rw_), some (.ref mk), some (.ref l1), some (.ref l2), x6, some (.ref TL), x8, x9, x10, x11]) ∧ (∀ b o, b ≠ La → b ≠ Lb → b ≠ Lc → A6 b = some o → G' b = some o) ∧ (∀ L, L = La ∨ L = Lb ∨ L = Lc → ∃ xs, G' L = some (.lst xs) ∧ xs.length ≤ 2000 + i))
        ⟨⟨_, _, _, _, _, rfl⟩, fun b o _ _ _ e => e, ?_⟩ (fun i τ G' _ p => .inl (.inl (p.2.1 TL _ tla.1 tla.2.1 tla.2.2 (s46 _ _ eTL)))) ?_ ?_⟩
      · rintro L (rfl | rfl | rfl)
        · exact ⟨_, s46 _ _ (sTL _ _ (sc _ _ (sb _ _ eLa))), by rw [List.length_map, fl]; omega⟩
        · exact ⟨_, s46 _ _ (sTL _ _ (sc _ _ eLb)), by rw [hyb.length, List.length_map, spotsOf_len]; omega⟩
        · refine ⟨_, s46 _ _ (sTL _ _ eLc), ?_⟩
          have h2 := lm.2
          rw [fl, List.length_nil, Nat.zero_add] at h2
          rw [List.length_map]
          show ((Tm.mk sg ts).flat.foldl letsF []).length ≤ _
          omega
      · rintro i x τ C1 C2 hi ⟨⟨y6, y8, y9, y10, y11, rfl⟩, kp, ls⟩ ⟨rfl, hx⟩
        have hx' : ∃ L, x = .ref L ∧ (L = La ∨ L = Lb ∨ L = Lc) := by
          have := List.mem_of_getElem? hx
          simp only [List.mem_cons, List.not_mem_nil, or_false] at this
          rcases this with rfl | rfl | rfl
          · exact ⟨_, rfl, .inl rfl⟩
          · exact ⟨_, rfl, .inr (.inl rfl)⟩
          · exact ⟨_, rfl, .inr (.inr rfl)⟩
        obtain ⟨L, rfl, hL⟩ := hx'
        obtain ⟨xs, eL, lx⟩ := ls L hL
        have hi3 : i < 3 := hi
        refine ⟨_, rfl, .inl ⟨rfl, _, .inl (.inl eL)⟩, L, xs, _, rfl, rfl, eL, sz5' (by omega), ?_⟩
        have eL2 : L2.upd C2 L (.lst (xs ++ [.str "late"])) L = some (.lst (xs ++ [.str "late"])) := upd_same ..
        refine ⟨_, rfl, .inl ⟨rfl, _, .inl (.inl eL2)⟩, L, _, rfl, rfl, eL2, ⟨_, _, _, _, _, rfl⟩, fun b o h1 h2 h3 e => ?_, fun M hM => ?_⟩
        · have hb : b ≠ L := fun z => by rcases hL with e | e | e <;> rw [z, e] at h1 h2 h3 <;> first | exact h1 rfl | exact h2 rfl | exact h3 rfl
          rw [upd_ne hb, upd_ne hb]
          exact kp b o h1 h2 h3 e
        · by_cases hML : M = L
          · rw [hML, upd_same]
            exact ⟨_, rfl, by rw [List.length_reverse, List.length_append]; show xs.length + 1 ≤ _; omega⟩
          · obtain ⟨ms, h1, h2⟩ := ls M hM
            exact ⟨ms, by rw [upd_ne hML, upd_ne hML]; exact h1, by omega⟩
      · rintro τ C1 ⟨⟨y6, y8, y9, y10, y11, rfl⟩, kp, _⟩
        have sGC : Same G C1 := fun b o e => kp b o (ne_of_none e fa) (ne_of_none e fb) (ne_of_none e fc) (sGA6 _ _ e)
        have s0C := s0G.trans sGC
        refine ⟨_, rfl, tm, dx, _, rfl, s0C _ _ e1, rfl, tm, wa, rows, sg, ts, rfl, ok.same s0C, fun B1 PL yp sB hPL ePL hyp => ?_⟩
        refine ⟨_, rfl, _, _, _, _, true, rfl, .ty "list", .base (.lst ePL), kit_ty (show kitB "list" "list" = some true by decide +kernel), _, rfl, iteF ?_⟩
        obtain ⟨lyp, hyp⟩ := hyp
        have tl4 : ts.len ≤ 4 := pl4 ok.rp sg _ (show plS rows sg = some ts.len ∧ ts.wf (plS rows) from ok.wf).1
        rw [Fs.list_len] at lyp
        refine ⟨_, rfl, PL, rfl, ⟨_, .inl (.inl ePL)⟩, fun R hR => lc_prop (walk_at walk_list) (fun i G' v => ∃ u, ts.list[i]? = some u ∧ Dt K G' v (partD u)) (fun k A B v s h => let ⟨u, x, y⟩ := h; ⟨u, x, Dt.same s y⟩) (fun G' s => .inl (.inl (s _ _ ePL))) (by omega) hR (fun _ => rfl) (fun k B2 C hk s2' hD kk => ?_) (fun B2 ws s2' lw hws eR => ?_)⟩
        · have hk' : k < yp.length := hk
          obtain ⟨b, u, ev, hu, hta⟩ := hyp k _ (List.getElem?_eq_getElem hk')
          have eg : yp.getD k .non = .ref b := by rw [List.getD_eq_getElem?_getD, List.getElem?_eq_getElem hk', ev]; rfl
          rw [eg]
          have hta2 := hta.same (hide_same.trans s2')
          obtain ⟨dxb, sab, eab, b1, b2, b3⟩ := id hta2
          obtain ⟨lD, eD⟩ := hD
          refine ⟨_, rfl, b, dxb, _, rfl, b1, rfl, b, wa, _, _, rfl, hta2, fun l hl => ?_⟩
          (generalize hG : L2.upd _ l _ = B3; have sl := same_of hG hl; have el := at_of hG; clear hG)
          have nlR : l ≠ R := fun e => by rw [e, eD] at hl; cases hl
          exact kk _ _ sl ⟨u, hu, .lst (.inl (.inl (by rw [hide_ne nlR]; exact el))) (dt_strs _)⟩
        · have sh2 : Shows (.list (ts.list.map partD)) := by
            refine (Sm.list (k := 1) (n := 1400 * 9) (m := 4) (fun d hd => ?_) (by rw [List.length_map, Fs.list_len]; exact tl4)).shows (by decide) (by decide)
            obtain ⟨u, hu, rfl⟩ := List.mem_map.mp hd
            obtain ⟨k, hk⟩ := List.mem_iff_getElem?.mp hu
            obtain ⟨qk, _, hA⟩ := At.kids (.here (Tm.mk sg ts)) hk
            have gl := (hA.seg 0).le
            rw [Tm.flat_len] at gl
            exact sm_marks (fun z hz => tiny z (hA.mem z hz)) (by rw [Tm.flat_len]; omega)
          have lw' : ws.length = ts.len := by rw [lw]; exact lyp
          have dR : Dt K B2 (.ref R) (.list (ts.list.map partD)) := .lst (.inl (.inl eR)) (DtAll.of (by rw [List.length_map, Fs.list_len]; exact lw') fun k x d hxk hdk => by
            obtain ⟨u, h1, h2⟩ := hws k x hxk
            rw [List.getElem?_map, h1] at hdk
            cases hdk
            exact Dt.same hide_same h2)
          have sGB := sGC.trans (sB.trans s2')
          have dP : Dt K B2 (.ref l2) (.list (ts.list.map partD)) := .lst (.inl (.inl (sGB _ _ (sG _ _ el2)))) (DtAll.same (hide_same.trans (sG.trans sGB)) hys2)
          obtain ⟨dd, edd⟩ : ∃ d, d = PyData.list (ts.list.map partD) := ⟨_, rfl⟩
          rw [← edd] at sh2 dR dP
          refine ⟨.ref R, dd, rfl, dR, sh2.ok, sh2.deep, sh2.size, _, rfl, .ref l2, dd, rfl, dP, sh2.ok, sh2.deep, sh2.size, rfl, _, rfl, iteF' (by simp) ?_⟩
          have eP2 := s2' _ _ ePL
          refine ⟨_, rfl, .inl ⟨rfl, _, .inl (.inl eP2)⟩, PL, _, rfl, rfl, eP2, ⟨_, _, _, _, _, _, rfl⟩, fun b o e => ?_⟩
          have e' := sGC _ _ (sG _ _ e)
          rw [upd_ne (ne_of_none e' hPL)]
          exact s2' _ _ (sB _ _ e')
    · rintro τ G ⟨⟨x6, x7, x8, x9, x10, x11, rfl⟩, sG⟩
      have s0G := s02.trans sG
      have fs14 : (Tm.mk sg ts).size ≤ 1400 := fit.1
      have fl := Tm.flat_len (Tm.mk sg ts)
      have p40 : (2 : Nat) ^ 40 = 1099511627776 := by decide
      refine ⟨_, rfl, tm, dx, _, rfl, s0G _ _ e1, rfl, tm, wa, sg, ts, rfl, ok.at_.same s0G, ?_⟩
      refine ⟨_, rfl, tm, dx, _, rfl, s0G _ _ e1, tm, wa, _, rfl, ok.at_.same s0G, _, rfl, by omega, ?_⟩
      refine ⟨_, rfl, tm, dx, _, rfl, s0G _ _ e1, rfl, tm, wa, _, rfl, ok.at_.same s0G, ok.few, fun B1 m sB hm => ?_⟩
      have hmd : m ≤ 1400 := by
        obtain ⟨sp, hsp, e⟩ := List.mem_map.mp hm.1
        rw [spotsOf_eq] at hsp
        have h1 := Tm.spotsS_deep _ sp hsp
        have h2 := Tm.deep_size (Tm.mk sg ts)
        rw [← e]
        omega
      refine ⟨(by show 3 ≤ sizeLine; decide), fun T1 hT1 => ?_⟩
      (generalize hG : L2.upd _ T1 _ = B2; have sT1 := same_of hG hT1; have eT1 := at_of hG; clear hG)
      have sh : Shows (.list [.str sg, .int ((Tm.mk sg ts).size : Nat), .int (m : Nat)]) := (Sm.three (k := 0) (tiny sg (by show sg ∈ sg :: ts.flat; simp)) (Sm.nat (by omega)) (Sm.nat (by omega))).shows (by decide) (by decide)
      refine ⟨.ref T1, .list [.str sg, .int ((Tm.mk sg ts).size : Nat), .int (m : Nat)], rfl, .lst (.inl (.inl eT1)) (.cons (.str _) (.cons (.int _) (.cons (.int _) .nil))), sh.ok, sh.deep, sh.size, ?_⟩
      have s0B := s0G.trans (sB.trans sT1)
      have ly1 : ys1.length = (Tm.mk sg ts).size := by rw [hys1.length, List.length_map, Tm.spotsS_len]
      have el1B := (sB.trans sT1) _ _ (sG _ _ (s2 _ _ el1))
      refine ⟨_, rfl, mk, _, _, .str sg, rfl, rfl, s0B.seq hS, atI_nat (j := 0) rfl, _, rfl, _, _, rfl, .inl ⟨_, s0B.seq hS, rfl⟩, _, rfl, l1, rfl, ⟨_, .inl (.inl el1B)⟩, fun R hR => lc_same walk_list (fun G' s => .inl (.inl (s _ _ el1B))) (by omega) (Same.refl _) hR (fun i => .int ((((Tm.mk sg ts).spotsS).getD i []).length : Nat)) (fun _ => rfl) ?_ ?_⟩
      · intro i x C1 C hx sC k
        obtain ⟨sp, qa, hsp, rfl, hq1⟩ := spots_all hys1 hx
        have e : (((Tm.mk sg ts).spotsS).getD i []).length = (intsV sp).length := by
          rw [List.getD_eq_getElem?_getD, hsp]
          unfold intsV
          rw [List.length_map]
          rfl
        have := k _ (Same.refl _)
        rw [e] at this
        exact ⟨_, rfl, _, _, rfl, .inr ⟨_, SqT.same (s2.trans (sG.trans ((sB.trans sT1).trans sC))) hq1, rfl⟩, this⟩
      · intro C1 sC eR
        have em : (List.range ys1.length).map (fun i => V.int ((((Tm.mk sg ts).spotsS).getD i []).length : Nat)) = ((((Tm.mk sg ts).spotsS).map (·.length)).map fun n : Nat => (n : Int)).map V.int := by
          rw [ly1, ← Tm.spotsS_len, List.map_map, List.map_map]
          apply List.ext_getElem?
          intro i
          rw [List.getElem?_map, List.getElem?_map]
          rcases Nat.lt_or_ge i ((Tm.mk sg ts).spotsS).length with z | z
          · rw [List.getElem?_range z, List.getElem?_eq_getElem z]
            simp [List.getD_eq_getElem?_getD, List.getElem?_eq_getElem z]
          · rw [List.getElem?_eq_none (by simpa using z), List.getElem?_eq_none z]
            rfl
        rw [em] at eR
        refine ⟨R, _, rfl, .inl (.inl eR), by rw [List.length_map, List.length_map, Tm.spotsS_len]; exact Tm.size_pos _, fun m' hm' hmax => ?_⟩
        have emm : m' = ((m : Nat) : Int) := by
          obtain ⟨n', hn', rfl⟩ := List.mem_map.mp hm'
          have h1 := hmax (m : Int) (List.mem_map_of_mem (by rw [← spotsOf_eq]; exact hm.1))
          have h2 := hm.2 n' (by rw [spotsOf_eq]; exact hn')
          omega
        subst emm
        refine ⟨(by show 3 ≤ sizeLine; decide), fun T2 hT2 => ?_⟩
        (generalize hG : L2.upd _ T2 _ = C2; have sT2 := same_of hG hT2; have eT2 := at_of hG; clear hG)
        rw [List.length_map, fl] at eT2
        refine ⟨.ref T2, .list [.str sg, .int ((Tm.mk sg ts).size : Nat), .int (m : Nat)], rfl, .lst (.inl (.inl eT2)) (.cons (.str _) (.cons (.int _) (.cons (.int _) .nil))), sh.ok, sh.deep, sh.size, rfl, _, rfl, iteF' (by simp) ?_⟩
        have s0C := s0B.trans (sC.trans sT2)
        obtain ⟨dxa, Da, kva, w1, w2, w3⟩ := id (ok.wd.same s0C)
        obtain ⟨dxb, Db, kvb, v1, v2, v3⟩ := id (hWk.same s0C)
        refine ⟨_, rfl, tm, dx, _, rfl, s0C _ _ e1, rfl, tm, wa, _, rfl, ok.at_.same s0C, _, rfl, wa, wk, dxa, dxb, _, _, rfl, rfl, w1, v1, wa, wk, rows, rows, rfl, ok.wd.same s0C, hWk.same s0C, ro, ro, fun C3 s3 => ⟨_, rfl, _, rfl, ?_⟩⟩
        refine iteT' (by simp) ⟨_, rfl, _, _, _, _, true, rfl, .own _, IT.ty (s3 _ _ (s0C _ _ e1)), IT.yes, q C3 (s0C.trans s3)⟩
end

end TS

namespace TS
open PySem PySem.Spec PyProof.Rows L2 TL
/-! ### right -/
def Lay (zs : List Str) : Prop := ∀ z ∈ zs, (PyData.str z).canLay0 = true
theorem strs_lay {zs : List Str} (h : Lay zs) : ∀ e ∈ zs.map PyData.str, e.canLay0 = true ∧ e.depth ≤ 30 := fun e he => by
  obtain ⟨z, hz, rfl⟩ := List.mem_map.mp he
  exact ⟨h z hz, Nat.zero_le _⟩
theorem eqv_strs : ∀ zs : List Str, PyData.eqvAll (zs.map PyData.str) (zs.map PyData.str) = true
  | [] => rfl
  | z :: r => by
    show ((z == z) && PyData.eqvAll (r.map PyData.str) (r.map PyData.str)) = true
    rw [eqv_strs r]
    simp
mutual
theorem At.deep : ∀ {t : Tm} {p : Nat} {u : Tm}, At t p u → u.deep ≤ t.deep
  | _, _, _, .here _ => Nat.le_refl _
  | .mk s ts, _, _, .kid h => FsAt.deep h
theorem FsAt.deep : ∀ {r : Fs} {p : Nat} {u : Tm}, FsAt r p u → u.deep ≤ r.deep
  | .cons t r, _, u, .first h => by
    have := At.deep h
    show u.deep ≤ max (t.deep + 1) r.deep
    omega
  | .cons t r, _, u, .rest h => by
    have := FsAt.deep h
    show u.deep ≤ max (t.deep + 1) r.deep
    omega
end
theorem At.size {t u : Tm} {p : Nat} (h : At t p u) : u.size ≤ t.size := by
  have := (h.seg 0).le
  rw [Tm.flat_len] at this
  omega
theorem Fit.sub {t u : Tm} {p : Nat} (f : Fit t) (h : At t p u) : Fit u := by
  have h1 := h.size
  have h2 := h.deep
  exact ⟨Nat.le_trans h1 f.1, Nat.le_trans (Nat.mul_le_mul h1 (by omega)) f.2⟩
/-- all that is asked of a term and its signs -/
structure GoodT (K : PySem.W.Frag) (H : Hp) (tm wa rw_ wk mk : Addr) (rows : List (Str × Int)) (t : Tm) : Prop where
  ro : RowsOk rows
  ok : TermOk K H tm wa rows t
  wk : WordsAt K H wk rows
  rw_ : Dt K H (.ref rw_) (.list (rows.map rowPy))
  mk_ : SqL K H mk (t.flat.map V.str)
  tiny : Tiny t.flat
  lay : Lay t.flat
  fit : Fit t
theorem GoodT.same {K : PySem.W.Frag} {H G : Hp} {tm wa rw_ wk mk : Addr} {rows : List (Str × Int)} {t : Tm} (g : GoodT K H tm wa rw_ wk mk rows t) (s : Same H G) : GoodT K G tm wa rw_ wk mk rows t := ⟨g.ro, g.ok.same s, g.wk.same s, Dt.same s g.rw_, s.seq g.mk_, g.tiny, g.lay, g.fit⟩
def spR7 (K : PySem.W.Frag) (n : Nat) : Sp := fun vs H Q _ => ∃ (b wk rw_ mk tm wa : Addr) (rows : List (Str × Int)) (t : Tm) (m : Nat), vs = [.ref b, .ref wk, .ref rw_, .ref mk, .ref tm] ∧ (∃ o, H b = some o ∧ Bag (m + 8) o) ∧ GoodT K (hide H b) tm wa rw_ wk mk rows t ∧ t.deep < n ∧ ∀ G, Dr b m H G → Q (.bl true) G
section
variable {P : Program} {w : World} {K : PySem.W.Frag} {mg : Str → Option Value} {base : Heap}
theorem sc__law_right : FnScope ["_law_box_here", "_law_known", "_law_rows_here", "_law_marks", "_law_term", "_law_part", "_law_some", "_law_spots_here", "_law_turn", "_law_spot", "_law_due"] ["_law_box_here", "_law_known", "_law_rows_here", "_law_marks", "_law_term"] (defScope s__law_right) := ⟨rfl, rfl, rfl, by decide +kernel, rfl, by decide +kernel, by decide +kernel⟩

set_option maxHeartbeats 1600000 in
theorem ok_right7 (bt : Bt mg) (cl_Term : Cls K (tcls K)) {n : Nat} (p__law_told_right : PromG P w K mg base (n + 12) "_law_told_right" ["_law_term", "_law_known", "_law_rows_here", "_law_marks"] (spTR K n)) (p__law_spots : Prom P w K mg base (n + 3) "_law_spots" ["_law_rows_here", "_law_marks"] (spLSpots K n)) (p__law_parts : Prom P w K mg base 2 "_law_parts" ["_law_rows_here", "_law_marks"] (spLParts K))
    (p__law_at : Prom P w K mg base 3 "_law_at" ["_law_rows_here", "_law_marks", "_law_spot"] (spLAt K)) (p__law_take : Prom P w K mg base 1 "_law_take" ["_law_box_here", "_law_many"] spTake) (mm_Term_signs : Meth K (tcls K) "signs" (He.ma K (tcls K) "signs")) (p_Term_signs : PromA CX0 P w K mg base 1 (He.ma K (tcls K) "signs") ["self"] (spTSigns K))
    (mm_Term_parts : Meth K (tcls K) "parts" (He.ma K (tcls K) "parts")) (p_Term_parts : PromA CX0 P w K mg base 8 (He.ma K (tcls K) "parts") ["self"] (spParts K)) (mm_Term_part_at : Meth K (tcls K) "part_at" (He.ma K (tcls K) "part_at")) (p_Term_part_at : PromA CX0 P w K mg base 7 (He.ma K (tcls K) "part_at") ["self", "spot"] (spPartAt K))
    (mm_Term_head_at : Meth K (tcls K) "head_at" (He.ma K (tcls K) "head_at")) (p_Term_head_at : PromA CX0 P w K mg base 4 (He.ma K (tcls K) "head_at") ["self", "spot"] (spHeadAt K)) (D : Def K mg "_law_right" s__law_right) : PromG P w K mg base (n + 13) "_law_right" ["_law_box_here", "_law_known", "_law_rows_here", "_law_marks", "_law_term"] (spR7 K n) := by
  refine promG_mk D sc__law_right (fun vs H Q E h => ?_) (fun _ _ _ _ _ _ us hl => match us, hl with | [_, _, _, _, _], _ => rfl) (fun f cdv A outer s H vs Q E hgd hr h => ?_)
  · obtain ⟨b, wk, rw_, mk, tm, wa, rows, t, m, rfl, _⟩ := h
    rfl
  · obtain ⟨b, wk, rw_, mk, tm, wa, rows, t, m, rfl, hb, g0, hdp, q⟩ := h
    refine ⟨_, (pss_cons (ps_if (pt_not (pt_val (pe_pcG p__law_told_right hgd (hr.mono (by omega)) rfl (pa_cons (pv 4) (pa_cons (pv 1) (pa_cons (pv 2) (pa_cons (pv 3) pa_nil))))))) (pss_one (ps_ret pe_bl)) pss_nil)
      (pss_cons (ps_for PassesOwn.never rfl (pi_zipK (K := K) rfl rfl bt.zip_ (pa_cons (pe_pm0 cl_Term mm_Term_parts p_Term_parts (hr.mono (by omega)) (pv 4)) (pa_cons (pe_pc p__law_parts (hr.mono (by omega)) rfl (pa_cons (pv 2) (pa_cons (pv 3) pa_nil))) pa_nil))) (pg_tupK (K := K) (n := 2) rfl rfl (pgs_cons (pg_name (i := 5) sc__law_right.nd rfl (Or.inl rfl)) (pgs_cons (pg_name (i := 6) sc__law_right.nd rfl (Or.inl rfl)) pgs_nil))) (pss_one (ps_if (pt_not (pt_val (pe_pcG p__law_told_right hgd (hr.mono (by omega)) rfl (pa_cons (pv 5) (pa_cons (pv 1) (pa_cons (pv 2) (pa_cons (pv 6) pa_nil))))))) (pss_one (ps_ret pe_bl)) pss_nil)))
      (pss_cons (ps_set (i := 7) sc__law_right.nd rfl (Or.inl rfl) (pe_pc p__law_spots (hr.mono (by omega)) rfl (pa_cons (pv 2) (pa_cons (pv 3) pa_nil))))
      (pss_cons (ps_for PassesOwn.never rfl (pi_range1 rfl bt.range_ (pa_cons pe_int pa_nil)) (pg_name (i := 8) sc__law_right.nd rfl (Or.inl rfl)) (pss_cons (ps_set (i := 9) sc__law_right.nd rfl (Or.inl rfl) (pe_ix (ix_listK (K := K)) (pv 7) (pe_pc p__law_take (hr.mono (by omega)) rfl (pa_cons (pv 0) (pa_cons (pe_callB (id := "len") (lenK (K := K)) (by rfl) bt.len_ (by decide +kernel) (pa_cons (pv 7) pa_nil)) pa_nil))) (fun _ _ => rfl)))
      (pss_cons (ps_set (i := 10) sc__law_right.nd rfl (Or.inl rfl) (pe_pc p__law_at (hr.mono (by omega)) rfl (pa_cons (pv 2) (pa_cons (pv 3) (pa_cons (pv 9) pa_nil)))))
      (pss_one (ps_if (PW.pt (pw_or (pt_cmpR (op_neDK (K := K) hr.units) (pe_pm0 cl_Term mm_Term_signs p_Term_signs (hr.mono (by omega)) (pe_pm cl_Term mm_Term_part_at p_Term_part_at (hr.mono (by omega)) (pv 4) (pa_cons (pv 9) pa_nil))) (pv 10) (nomark _)) (pw_or1 (pt_cmpR op_ne (pe_pm cl_Term mm_Term_head_at p_Term_head_at (hr.mono (by omega)) (pv 4) (pa_cons (pv 9) pa_nil)) (pe_ix (ix_listK (K := K)) (pv 10) pe_int (fun _ _ => rfl)) (nomark _))))) (pss_one (ps_ret pe_bl)) pss_nil)))))
      (pss_one (ps_ret (pe_pcG p__law_told_right hgd (hr.mono (by omega)) rfl (pa_cons (pv 4) (pa_cons (pv 1) (pa_cons (pv 2) (pa_cons (pv 3) pa_nil))))))))))), ?_⟩
    have gH := g0.same hide_same
    refine ⟨_, rfl, _, rfl, _, rfl, _, rfl, tm, wk, rw_, mk, wa, rows, t, rfl, gH.ro, gH.ok, gH.wk, gH.rw_, gH.mk_, gH.tiny, gH.fit, hdp, fun G1 s1 => ⟨_, rfl, iteF ?_⟩⟩
    cases t with
    | mk sg ts =>
    have g1 := gH.same s1
    obtain ⟨dx, sa, ea, e1, e2, e3⟩ := id g1.ok.at_
    refine ⟨_, rfl, tm, dx, _, rfl, e1, rfl, tm, wa, rows, sg, ts, rfl, g1.ok, fun G2 lp yp s2 hlp elp hyp => ?_⟩
    have g2 := g1.same s2
    refine ⟨_, rfl, _, rfl, rw_, mk, rows, sg, ts, rfl, g2.ro, g2.rw_, g2.mk_, g2.ok.wf, g2.ok.few, fun G3 lq yq s3 hlq elq hyq => ?_⟩
    have ly1 : yp.length = ts.len := by rw [hyp.1, Fs.list_len]
    have ly2 : yq.length = ts.len := by rw [hyq.length, List.length_map, Fs.list_len]
    have s13 := (s1.trans s2).trans s3
    refine ⟨lp, lq, yp, yq, rfl, .inl (.inl (s3 _ _ elp)), .inl (.inl elq), for_it (walk_zip (n := ts.len) (by rw [ly1, ly2, Nat.min_self])) (fun i τ G' => (∃ x5 x6 x7 x8 x9 x10, τ = [some (.ref b), some (.ref wk), some (.ref rw_), some (.ref mk), some (.ref tm), x5, x6, x7, x8, x9, x10]) ∧ Same G3 G') ⟨⟨_, _, _, _, _, _, rfl⟩, Same.refl _⟩ (fun i τ G' _ p => ⟨.inl (.inl (p.2 _ _ (s3 _ _ elp))), .inl (.inl (p.2 _ _ elq))⟩) ?_ ?_⟩
    · rintro i v τ E1 E2 hi ⟨⟨x5, x6, x7, x8, x9, x10, rfl⟩, sE⟩ ⟨T, x, y, rfl, hT, rfl, h1, h2⟩
      obtain ⟨b', u, rfl, hu, hta⟩ := hyp.2 i x h1
      obtain ⟨di, hdi, hy2⟩ := hyq.get h2
      rw [List.getElem?_map, hu] at hdi
      cases hdi
      obtain ⟨lu, rfl, hlu⟩ := part_of hy2
      obtain ⟨qk, _, hA⟩ := At.kids (.here (Tm.mk sg ts)) hu
      (generalize hG : L2.upd _ T _ = E3; have sT := same_of hG hT; have eT := at_of hG; clear hG)
      have sE3 := sE.trans sT
      have g3 := g2.same (s3.trans sE3)
      refine ⟨T, _, rfl, .inl (.inl eT), rfl, _, _, rfl, _, _, rfl, rfl, ?_⟩
      exact ⟨_, rfl, _, rfl, _, rfl, _, rfl, b', wk, rw_, lu, wa, rows, u, rfl, g3.ro, ⟨hta.same (hide_same.trans (s3.trans sE3)), g3.ok.wd, g3.ok.rp, hA.wf g3.ok.wf, Nat.le_trans hA.size g3.ok.few, g3.ok.short.sub hA.mem⟩, g3.wk, g3.rw_, (hide_same.trans sE3).seq hlu, fun z hz => g3.tiny z (hA.mem z hz), g3.fit.sub hA, Nat.lt_of_le_of_lt hA.deep hdp, fun G' s' => ⟨_, rfl, iteF ⟨⟨_, _, _, _, _, _, rfl⟩, sE3.trans s'⟩⟩⟩
    · rintro τ E1 ⟨⟨x5, x6, x7, x8, x9, x10, rfl⟩, sE⟩
      have sH1 := s13.trans sE
      have gE := gH.same sH1
      refine ⟨_, rfl, _, rfl, rw_, mk, rows, _, rfl, gE.ro, gE.rw_, gE.mk_, gE.ok.wf, gE.ok.few, hdp, fun E2 ls yl s2' hls els hyl => ?_⟩
      have sH2 := sH1.trans s2'
      have D2 : Dr b (m + 8) H E2 := Dr.same sH2 hb
      have gS : GoodT K (hide E2 b) tm wa rw_ wk mk rows (.mk sg ts) := g0.same D2.hide
      have nls : ls ≠ b := (Dr.same sH1 hb).ne hls
      have elsS : hide E2 b ls = some (.lst yl) := by rw [hide_ne nls]; exact els
      have lyl : yl.length = (Tm.mk sg ts).size := by rw [hyl.length, List.length_map, Tm.spotsS_len]
      have few := gS.ok.few
      have tp := Tm.size_pos (Tm.mk sg ts)
      have sqS : ∀ {k : Nat} {v : V}, yl[k]? = some v → ∃ sp qa, sp ∈ (Tm.mk sg ts).spotsS ∧ v = .ref qa ∧ SqT K (hide E2 b) qa (intsV sp) := fun {k v} hk => by
        obtain ⟨sp, qa, h1, h2, h3⟩ := spots_all hyl hk
        obtain ⟨o, e, g⟩ := D2.bag
        obtain ⟨xs, rfl⟩ := g.is
        exact ⟨sp, qa, List.mem_of_getElem? h1, h2, SqT.hide e h3⟩
      refine ⟨_, rfl, by decide, by decide, for_it walk_range (fun j τ G => (∃ x5 x6 x8 x9 x10, τ = [some (.ref b), some (.ref wk), some (.ref rw_), some (.ref mk), some (.ref tm), x5, x6, some (.ref ls), x8, x9, x10]) ∧ Dr b (m + 8 - j) E2 G) ⟨⟨_, _, _, _, _, rfl⟩, Dr.refl D2.bag⟩ (fun _ _ _ _ _ => trivial) ?_ ?_⟩
      · rintro j x τ Gg G hj ⟨⟨y5, y6, y8, y9, y10, rfl⟩, dG⟩ ⟨rfl, rfl⟩
        have hj8 : j < 8 := hj
        have hbG : ∃ o, G b = some o ∧ Bag (m + 7 - j + 1) o := let ⟨o, e, g⟩ := dG.bag; ⟨o, e, g.mono (by omega)⟩
        have elsG := hide_same _ _ (dG.hide _ _ elsS)
        have big : (2 : Int) ^ 200 > 100000 := by decide +kernel
        refine ⟨_, rfl, _, rfl, _, rfl, _, _, rfl, .inl ⟨_, .inl (.inl elsG), rfl⟩, b, _, m + 7 - j, (yl.length : Int), rfl, hbG.choose_spec.1, hbG.choose_spec.2, by omega, by omega, fun xx o x0 x1 gg => ?_⟩
        (generalize hG : L2.upd _ b _ = G1; have dd := dr_of hG gg; clear hG)
        have dG1 := dG.trans dd
        obtain ⟨v, hv, hvm⟩ := atI_in (xs := yl) x0 x1
        obtain ⟨k, hk⟩ := List.mem_iff_getElem?.mp hvm
        obtain ⟨sp, qa, hsp, rfl, hq⟩ := sqS hk
        have elsG1 := hide_same _ _ (dG1.hide _ _ elsS)
        refine ⟨ls, _, _, .ref qa, rfl, rfl, .inl (.inl elsG1), hv, ?_⟩
        obtain ⟨p, u, hf⟩ : ∃ p u, fol (0, Tm.mk sg ts) sp = some (p, u) := by
          rw [← Tm.spots_eq] at hsp
          obtain ⟨w, hw1, rfl⟩ := List.mem_map.mp hsp
          obtain ⟨sp1, v, h1, h2⟩ := Tm.spots_fol _ [] 0 w hw1
          rw [List.nil_append] at h1
          rw [h1]
          exact ⟨_, _, h2⟩
        have lsp : sp.length ≤ 9999 := by
          have h1 := Tm.spotsS_deep _ sp hsp
          have h2 := Tm.deep_size (Tm.mk sg ts)
          omega
        have gG := (gS.same dG1.hide).same hide_same
        have hqG := SqT.same (dG1.hide.trans hide_same) hq
        refine ⟨_, rfl, _, rfl, _, rfl, rw_, mk, qa, rows, _, sp, p, u, rfl, gG.ro, gG.rw_, gG.mk_, gG.ok.wf, gG.ok.few, hqG, hf, fun G2 ld s2'' hld => ?_⟩
        have g2' := gG.same s2''
        obtain ⟨dx2, sa2, ea2, t1, t2, t3⟩ := id g2'.ok.at_
        have hA := fol_at sp _ _ (.here _) hf
        cases u with
        | mk sg2 ts2 =>
        have lay2 : Lay (Tm.mk sg2 ts2).flat := fun z hz => gS.lay z (hA.mem z hz)
        refine ⟨_, rfl, tm, dx2, _, rfl, t1, rfl, _, rfl, tm, wa, qa, rows, _, sp, _, rfl, g2'.ok, SqT.same s2'' hqG, lsp, hf, fun G3 bp s3' hbp tap => ?_⟩
        obtain ⟨dx3, sa3, ea3, u1, u2, u3⟩ := id tap
        refine ⟨bp, dx3, _, rfl, u1, rfl, bp, wa, _, _, rfl, tap, fun l hl => ?_⟩
        (generalize hG : L2.upd _ l _ = G4; have sl := same_of hG hl; have el := at_of hG; clear hG)
        have s24 := s3'.trans sl
        refine ⟨_, rfl, .list ((Tm.mk sg2 ts2).flat.map .str), .list ((Tm.mk sg2 ts2).flat.map .str), Dp.lst (.inl (.inl el)) ((dt_strs _).dp (lay_all fun e he => (strs_lay lay2 e he).1)), Dp.lst (s24.seq hld) ((dt_strs _).dp (lay_all fun e he => (strs_lay lay2 e he).1)), shaped_list (strs_lay lay2), shaped_list (strs_lay lay2), _, rfl, ?_⟩
        rw [show PyData.eqv (.list ((Tm.mk sg2 ts2).flat.map .str)) (.list ((Tm.mk sg2 ts2).flat.map .str)) = true by unfold PyData.eqv; exact eqv_strs _]
        have g4 := g2'.same s24
        refine iteF ⟨_, rfl, tm, dx2, _, rfl, s24 _ _ t1, rfl, _, rfl, tm, wa, qa, rows, _, sp, p, sg2, ts2, rfl, g4.ok, SqT.same (s2''.trans s24) hqG, lsp, hf, fun G5 s5 => ?_⟩
        refine ⟨_, rfl, ld, _, _, .str sg2, rfl, rfl, (s24.trans s5).seq hld, atI_nat (j := 0) rfl, rfl, _, rfl, iteF' (by simp) ⟨⟨_, _, _, _, _, rfl⟩, (dG1.trans (Dr.same (s2''.trans (s24.trans s5)) dG1.bag)).mono (by omega)⟩⟩
      · rintro τ G ⟨⟨y5, y6, y8, y9, y10, rfl⟩, dG⟩
        have gG := (gS.same dG.hide).same hide_same
        exact ⟨_, rfl, _, rfl, _, rfl, _, rfl, tm, wk, rw_, mk, wa, rows, _, rfl, gG.ro, gG.ok, gG.wk, gG.rw_, gG.mk_, gG.tiny, gG.fit, hdp, fun G' s' => q G' ((D2.trans (dG.trans (Dr.same s' dG.bag))).mono (by show m ≤ m + 8 - 8; omega))⟩
end

end TS

namespace TS
open PySem PySem.Spec PyProof.Rows L2 TL

/-! ### letters, drawn -/
def lokB (z : Str) : Bool := letterL (tl z) && (smB 0 8 (.str z) && (PyData.str z).canLay0)
def LtrsOk (ls : List Str) : Prop := (1 ≤ ls.length ∧ ls.length ≤ 100) ∧ ∀ z ∈ ls, lokB z = true
def capsL : List Nat := ("ABCDEFGHIJKLMNOPQRSTUVWXYZ" : Str).cps.toList
theorem lok_one : ∀ c ∈ capsL, (lokB ⟨#[c]⟩ && (lokB (⟨#[c]⟩ ++ "0") && (lokB (⟨#[c]⟩ ++ "9") && (lokB (⟨#[c]⟩ ++ "10") && lokB (⟨#[c]⟩ ++ "99"))))) = true := by decide +kernel
theorem lok_n : ∀ z ∈ (["N0", "N1", "N2", "N10", "N"] : List Str), lokB z = true := by decide +kernel
theorem lok_num : ∀ c ∈ capsL, ∀ k ∈ List.range 100, (lokB (⟨#[c]⟩ ++ (toString (k : Int) : String)) && lokB (⟨#[c]⟩ ++ "")) = true := by decide +kernel
theorem lok_suf : ∀ c ∈ capsL, ∀ z ∈ (["", "9", "10", "99"] : List Str), lokB (⟨#[c]⟩ ++ z) = true := by decide +kernel
theorem every_at {x : Int} (h0 : 0 ≤ x) (h1 : x < 26) : ∃ c, atI ("ABCDEFGHIJKLMNOPQRSTUVWXYZ" : Str).cps.toList x = some c ∧ c ∈ capsL := atI_in (xs := ("ABCDEFGHIJKLMNOPQRSTUVWXYZ" : Str).cps.toList) h0 (by
  have : (("ABCDEFGHIJKLMNOPQRSTUVWXYZ" : Str).cps.toList.length : Int) = 26 := by decide +kernel
  omega)
theorem one_len {c : Nat} {z : Str} (h : z.length ≤ 1000) : (⟨#[c]⟩ : Str).length + z.length ≤ sizeLine := by
  show 1 + z.length ≤ sizeLine
  exact sz5 (by omega)
def spLtrs (K : PySem.W.Frag) : Sp := fun vs H Q _ => ∃ (b : Addr) (n : Nat), vs = [.ref b] ∧ (∃ o, H b = some o ∧ Bag (n + 17) o) ∧
  ∀ H' p ls, Dr b n H H' → LtrsOk ls → H p = none → p ≠ b → H' p = some (.lst (ls.map V.str)) → Q (.ref p) H'
theorem lstrs_of : ∀ (xs : List V), (∀ (i : Nat) (v : V), xs[i]? = some v → ∃ z, v = .str z ∧ lokB z = true) → ∃ ls : List Str, xs = ls.map V.str ∧ ∀ z ∈ ls, lokB z = true
  | [], _ => ⟨[], rfl, by simp⟩
  | x :: r, h => by
    obtain ⟨z, rfl, hz⟩ := h 0 x rfl
    obtain ⟨ls, e, a⟩ := lstrs_of r fun i v hv => h (i + 1) v (by simpa using hv)
    exact ⟨z :: ls, by rw [e]; rfl, fun y hy => (List.mem_cons.mp hy).elim (fun e => by rw [e]; exact hz) (a y)⟩
section
variable {P : Program} {w : World} {K : PySem.W.Frag} {mg : Str → Option Value} {base : Heap}
theorem sc__law_letters : FnScope ["_law_box_here", "_law_every", "_law_way", "_law_one", "_law_k"] ["_law_box_here"] (defScope s__law_letters) := ⟨rfl, rfl, rfl, by decide +kernel, rfl, by decide +kernel, by decide +kernel⟩

set_option maxHeartbeats 800000 in
theorem ok_ltrs (bt : Bt mg) (p__law_take : Prom P w K mg base 1 "_law_take" ["_law_box_here", "_law_many"] spTake) (D : Def K mg "_law_letters" s__law_letters) : Prom P w K mg base 2 "_law_letters" ["_law_box_here"] (spLtrs K) := by
  refine prom_mk D sc__law_letters (fun vs H Q E h => ?_) (fun _ _ _ _ _ _ us hl => match us, hl with | [_], _ => rfl) (fun f cdv A outer s H vs Q E hr h => ?_)
  · obtain ⟨b, n, rfl, _⟩ := h
    rfl
  · obtain ⟨b, n, rfl, hb, q⟩ := h
    refine ⟨_, (pss_cons (ps_set (i := 1) sc__law_letters.nd rfl (Or.inr rfl) pe_str)
      (pss_cons (ps_set (i := 2) sc__law_letters.nd rfl (Or.inl rfl) (pe_pc p__law_take (hr.mono (by decide)) rfl (pa_cons (pv 0) (pa_cons pe_int pa_nil))))
      (pss_cons (ps_set (i := 3) sc__law_letters.nd rfl (Or.inl rfl) (pe_ix ix_str (pv 1) (pe_pc p__law_take (hr.mono (by decide)) rfl (pa_cons (pv 0) (pa_cons pe_int pa_nil))) (fun _ _ => rfl)))
      (pss_cons (ps_if (pt_cmpR op_eq (pv 2) pe_int (nomark _)) (pss_one (ps_ret (pe_lc (own := [("_law_k", 4)]) (g := gName 4) rfl sc__law_letters.nd (pi_range1 rfl bt.range_ (pa_cons pe_int pa_nil)) (blkOk_by (N := ["_law_box_here", "_law_every", "_law_way", "_law_one", "_law_k"]) (sc := defScope s__law_letters) (by decide +kernel)) (fun _ _ _ _ _ => (pg_name (i := 4) sc__law_letters.nd rfl (Or.inl rfl))) (fun _ _ _ _ _ => pts_nil) (fun _ _ _ _ _ => (pe_op op_add_str (pe_ix ix_str (pv 1) (pe_op op_mod (pe_op op_mul pe_int (pv 4)) pe_int) (fun _ _ => rfl)) (pe_ix (ix_listK (K := K)) (pe_lst (pa_cons pe_str (pa_cons pe_str (pa_cons pe_str (pa_cons pe_str pa_nil))))) (pe_op op_fdivW (pv 4) pe_int) (fun _ _ => rfl))))))) pss_nil)
      (pss_cons (ps_if (pt_cmpR op_eq (pv 2) pe_int (nomark _)) (pss_one (ps_ret (pe_lst (pa_cons (pv 3) (pa_cons (pe_op op_add_str (pv 3) pe_str) (pa_cons (pe_op op_add_str (pv 3) pe_str) (pa_cons (pe_op op_add_str (pv 3) pe_str) (pa_cons (pe_op op_add_str (pv 3) pe_str) pa_nil)))))))) pss_nil)
      (pss_cons (ps_if (pt_cmpR op_eq (pv 2) pe_int (nomark _)) (pss_one (ps_ret (pe_lst (pa_cons pe_str (pa_cons pe_str (pa_cons pe_str (pa_cons pe_str (pa_cons pe_str pa_nil)))))))) pss_nil)
      (pss_one (ps_ret (pe_lc (own := [("_law_k", 4)]) (g := gName 4) rfl sc__law_letters.nd (pi_range1 rfl bt.range_ (pa_cons pe_int pa_nil)) (blkOk_by (N := ["_law_box_here", "_law_every", "_law_way", "_law_one", "_law_k"]) (sc := defScope s__law_letters) (by decide +kernel)) (fun _ _ _ _ _ => (pg_name (i := 4) sc__law_letters.nd rfl (Or.inl rfl))) (fun _ _ _ _ _ => pts_nil) (fun _ _ _ _ _ => (pe_op op_add_str (pe_ix ix_str (pv 1) (pe_pc p__law_take (hr.mono (by decide)) rfl (pa_cons (pv 0) (pa_cons pe_int pa_nil))) (fun _ _ => rfl)) (pe_ix (ix_listK (K := K)) (pe_lst (pa_cons pe_str (pa_cons (pe_callTy (T := "str") call_str_int (by rfl) bt.str_ (by decide +kernel) (pa_cons (pe_pc p__law_take (hr.mono (by decide)) rfl (pa_cons (pv 0) (pa_cons pe_int pa_nil))) pa_nil)) pa_nil))) (pe_pc p__law_take (hr.mono (by decide)) rfl (pa_cons (pv 0) (pa_cons pe_int pa_nil))) (fun _ _ => rfl))))))))))))), ?_⟩
    refine ⟨_, rfl, b, _, n + 16, 4, rfl, hb.choose_spec.1, hb.choose_spec.2, by decide, by decide +kernel, fun way o1 w0 w3 g1 => ?_⟩
    (generalize hG : L2.upd _ b _ = H1; have d1 := dr_of hG g1; clear hG)
    refine ⟨_, rfl, _, rfl, b, _, n + 15, 26, rfl, d1.bag.choose_spec.1, d1.bag.choose_spec.2, by decide, by decide +kernel, fun x o2 x0 x26 g2 => ?_⟩
    (generalize hG : L2.upd _ b _ = H2; have d2 := dr_of hG g2; clear hG)
    obtain ⟨c, hc, hcm⟩ := every_at x0 x26
    have D2 := (d1.trans d2).mono (n := n) (by omega)
    have hone := lok_one c hcm
    simp only [Bool.and_eq_true] at hone
    refine ⟨_, _, c, rfl, rfl, by decide +kernel, hc, ?_⟩
    refine ⟨_, rfl, rfl, _, rfl, ite2 (fun cw => ?_) (fun cw => ?_)⟩
    · refine ⟨_, rfl, by decide, by decide, fun R hR => lc_prop walk_range (fun i G v => ∃ z, v = .str z ∧ lokB z = true) (fun i G G' v s h => h) (fun _ _ => trivial) (by decide) hR (fun _ => rfl) (fun i G C hi sG hD kk => ?_) (fun G xs sG hlx hx eR => ?_)⟩
      · have hi' : i < 100 := hi
        obtain ⟨c5, hc5, hcm5⟩ := every_at (x := 7 * (0 + (i : Int)) % 26) (Int.emod_nonneg _ (by decide)) (Int.emod_lt_of_pos _ (by decide))
        refine ⟨_, rfl, _, rfl, _, _, rfl, rfl, .inl ⟨by decide, by decide⟩, _, _, rfl, rfl, (by show (0 : Int) < 26; decide), _, _, c5, rfl, rfl, by decide +kernel, hc5, ?_⟩
        refine ⟨(by show 4 ≤ sizeLine; decide), fun L hL => ?_⟩
        (generalize hG : L2.upd _ L _ = G1; have sL := same_of hG hL; have eL := at_of hG; clear hG)
        obtain ⟨v, hv, hvm⟩ := atI_in (xs := [V.str "", .str "9", .str "10", .str "99"]) (i := (0 + (i : Int)) / 26) (by omega) (by show (0 + (i : Int)) / 26 < 4; omega)
        obtain ⟨z, hz, rfl⟩ : ∃ z ∈ (["", "9", "10", "99"] : List Str), v = .str z := by
          simp only [List.mem_cons, List.not_mem_nil, or_false] at hvm
          rcases hvm with rfl | rfl | rfl | rfl
          · exact ⟨"", by simp, rfl⟩
          · exact ⟨"9", by simp, rfl⟩
          · exact ⟨"10", by simp, rfl⟩
          · exact ⟨"99", by simp, rfl⟩
        refine ⟨_, rfl, _, _, rfl, rfl, wide_div (b := 10) (by decide) (by decide) (by decide) (by decide), L, _, _, .str z, rfl, rfl, .inl (.inl eL), hv, _, _, rfl, rfl, one_len ((by decide +kernel : ∀ z ∈ (["", "9", "10", "99"] : List Str), z.length ≤ 1000) z hz), kk _ _ sL ⟨_, rfl, lok_suf c5 hcm5 z hz⟩⟩
      · obtain ⟨ls, rfl, hls⟩ := lstrs_of xs hx
        rw [List.length_map] at hlx
        have hn : ls.length = 100 := hlx
        have dG := D2.trans (Dr.same sG D2.bag)
        exact q G R ls dG ⟨⟨by omega, by omega⟩, hls⟩ (D2.free hR) (D2.ne hR) eR
    refine ⟨_, rfl, rfl, _, rfl, ite2 (fun c0 => ?_) (fun c0 => ?_)⟩
    · refine ⟨_, rfl, _, rfl, _, _, rfl, rfl, one_len (by decide +kernel), _, rfl, _, _, rfl, rfl, one_len (by decide +kernel), _, rfl, _, _, rfl, rfl, one_len (by decide +kernel), _, rfl, _, _, rfl, rfl, one_len (by decide +kernel), (by show 5 ≤ sizeLine; decide), fun p hp => ?_⟩
      exact q _ p [⟨#[c]⟩, ⟨#[c]⟩ ++ "0", ⟨#[c]⟩ ++ "9", ⟨#[c]⟩ ++ "10", ⟨#[c]⟩ ++ "99"] (D2.new hp) ⟨⟨(by show 1 ≤ 5; decide), (by show 5 ≤ 100; decide)⟩, fun z hz => by
        simp only [List.mem_cons, List.not_mem_nil, or_false] at hz
        rcases hz with rfl | rfl | rfl | rfl | rfl
        · exact hone.1
        · exact hone.2.1
        · exact hone.2.2.1
        · exact hone.2.2.2.1
        · exact hone.2.2.2.2⟩ (D2.free hp) (D2.ne hp) (upd_same ..)
    · refine ⟨_, rfl, rfl, _, rfl, ite2 (fun c1 => ?_) (fun c1 => ?_)⟩
      · exact ⟨(by show 5 ≤ sizeLine; decide), fun p hp => q _ p ["N0", "N1", "N2", "N10", "N"] (D2.new hp) ⟨(by decide), lok_n⟩ (D2.free hp) (D2.ne hp) (upd_same ..)⟩
      · refine ⟨_, rfl, by decide, by decide, fun R hR => lc_draw (k := 3) (N := n) walk_range (fun i G v => ∃ z, v = .str z ∧ lokB z = true) (fun i G G' v s h => h) (fun _ _ => trivial) (by decide) hR (d2.bag) (fun _ => rfl) (fun i k G C hi fx hb3 hD3 kk => ?_) (fun G xs dG hlx hx eR neR => ?_)⟩
        · refine ⟨_, rfl, _, rfl, b, _, k + 2, 26, rfl, hb3.choose_spec.1, hb3.choose_spec.2, by decide, by decide +kernel, fun x3 o3 y0 y26 g3 => ?_⟩
          (generalize hG : L2.upd _ b _ = G3; have e3 := dr_of hG g3; clear hG)
          obtain ⟨c3, hc3, hcm3⟩ := every_at y0 y26
          refine ⟨_, _, c3, rfl, rfl, by decide +kernel, hc3, ?_⟩
          refine ⟨_, rfl, b, _, k + 1, 100, rfl, e3.bag.choose_spec.1, e3.bag.choose_spec.2, by decide, by decide +kernel, fun x4 o4 z0 z100 g4 => ?_⟩
          (generalize hG : L2.upd _ b _ = G4; have e4 := dr_of hG g4; clear hG)
          obtain ⟨m, hm, hm100⟩ : ∃ m : Nat, x4 = (m : Int) ∧ m < 100 := ⟨x4.toNat, by omega, by omega⟩
          subst hm
          refine ⟨_, rfl, (by decide +kernel : ∀ m : Nat, m < 100 → ((m : Int)).natAbs.log2 < 1920) m hm100, (by show 2 ≤ sizeLine; decide), fun L hL => ?_⟩
          have E4 := e3.trans e4
          have nL := E4.ne hL
          have e5 : Dr b (k + 1) G4 (L2.upd G4 L (.lst [.str "", .str (toString (m : Int) : String)])) := (Dr.refl e4.bag).new hL
          have eL : L2.upd G4 L (.lst [.str "", .str (toString (m : Int) : String)]) L = some (.lst [.str "", .str (toString (m : Int) : String)]) := upd_same ..
          generalize L2.upd G4 L (.lst [.str "", .str (toString (m : Int) : String)]) = G5 at e5 eL ⊢
          refine ⟨_, rfl, b, _, k, 2, rfl, e5.bag.choose_spec.1, e5.bag.choose_spec.2, by decide, by decide +kernel, fun x6 o6 u0 u2 g6 => ?_⟩
          (generalize hG : L2.upd _ b _ = G6; have e6 := dr_of hG g6; clear hG)
          obtain ⟨v, hv, hvm⟩ := atI_in (xs := [V.str "", .str (toString (m : Int) : String)]) u0 u2
          have hnum := Bool.and_eq_true_iff.mp (lok_num c3 hcm3 m (List.mem_range.mpr hm100))
          have E6 := (E4.trans e5).trans e6
          have hlen : ∀ m : Nat, m < 100 → ((toString (m : Int) : String) : Str).length ≤ 1000 := by decide +kernel
          simp only [List.mem_cons, List.not_mem_nil, or_false] at hvm
          rcases hvm with rfl | rfl
          · exact ⟨L, _, _, _, rfl, rfl, .inl (.inl (e6.at nL eL)), hv, _, _, rfl, rfl, one_len (by decide +kernel), kk _ _ ⟨_, rfl, hnum.2⟩ E6⟩
          · exact ⟨L, _, _, _, rfl, rfl, .inl (.inl (e6.at nL eL)), hv, _, _, rfl, rfl, one_len (hlen m hm100), kk _ _ ⟨_, rfl, hnum.1⟩ E6⟩
        · obtain ⟨ls, rfl, hls⟩ := lstrs_of xs hx
          rw [List.length_map] at hlx
          exact q G R ls ((d1.trans d2).trans dG) ⟨⟨(by have h : ls.length = 5 := hlx; omega), (by have h : ls.length = 5 := hlx; omega)⟩, hls⟩ ((d1.trans d2).free hR) neR eR
end

end TS

namespace TS
open PySem PySem.Spec PyProof.Rows L2 TL

/-! ### signs, drawn -/
theorem lacks_app {pl : Str → Option Nat} : ∀ (zs : List Str) (k j : Nat) (z : Str) (p : Nat), lacks pl k zs = some (j + 1) → pl z = some p → lacks pl k (zs ++ [z]) = some (j + p)
  | [], k, j, z, p, h, hp => by
    have e : k = j + 1 := by simpa [lacks] using h
    subst e
    show (pl z).bind (fun p => lacks pl (j + p) []) = _
    rw [hp]
    rfl
  | y :: r, 0, j, z, p, h, _ => by simp [lacks] at h
  | y :: r, k + 1, j, z, p, h, hp => by
    cases hq : pl y with
    | none => simp [lacks, hq] at h
    | some m =>
      have h' : lacks pl (k + m) r = some (j + 1) := by simpa [lacks, hq] using h
      show (pl y).bind (fun q => lacks pl (k + q) (r ++ [z])) = _
      rw [hq]
      exact lacks_app r (k + m) j z p h' hp
def SignsOk (rows : List (Str × Int)) (ls : List Str) (upto : Nat) (zs : List Str) : Prop := 1 ≤ zs.length ∧ zs.length ≤ upto ∧ (∀ z ∈ zs, z ∈ rows.map (·.1) ∨ z ∈ ls) ∧ lacks (plS rows) 1 zs = some 0
def spSigns (K : PySem.W.Frag) : Sp := fun vs H Q _ => ∃ (b : Addr) (n : Nat) (rw_ lt : Addr) (upto : Nat) (rows : List (Str × Int)) (ls : List Str), vs = [.ref b, .ref rw_, .ref lt, .int upto] ∧ 1 ≤ upto ∧ upto ≤ 300 ∧ (∃ o, H b = some o ∧ Bag (n + 2 * upto) o) ∧ RowsOk rows ∧ LtrsOk ls ∧
  Dt K (hide H b) (.ref rw_) (.list (rows.map rowPy)) ∧ hide H b lt = some (.lst (ls.map V.str)) ∧ ∀ H' p zs, Dr b n H H' → SignsOk rows ls upto zs → H p = none → p ≠ b → H' p = some (.lst (zs.map V.str)) → Q (.ref p) H'
theorem plS_letter {rows : List (Str × Int)} {z : Str} (h : lokB z = true) : plS rows z = some 0 := by
  unfold plS
  rw [(Bool.and_eq_true_iff.mp h).1]
  rfl
theorem plR_row {rows : List (Str × Int)} (nd : (rows.map (·.1)).Nodup) {r : Str × Int} (h : r ∈ rows) : plR rows r.1 = r.2 := by
  unfold plR
  have : rows.find? (fun x => decide (x.1 = r.1)) = some r := by
    induction rows with
    | nil => cases h
    | cons x xs ih =>
      rw [List.find?_cons]
      rw [List.map_cons, List.nodup_cons] at nd
      rcases List.mem_cons.mp h with e | m
      · subst e
        simp
      · have ne : x.1 ≠ r.1 := fun e => nd.1 (by rw [e]; exact List.mem_map_of_mem m)
        rw [decide_eq_false ne]
        exact ih nd.2 m
  rw [this]
  rfl
theorem plS_row {rows : List (Str × Int)} (ro : RowsOk rows) {r : Str × Int} (h : r ∈ rows) : plS rows r.1 = some r.2.toNat := by
  have hm : r.1 ∈ rows.map (·.1) := List.mem_map_of_mem h
  unfold plS
  rw [no_letter ro hm, if_neg Bool.false_ne_true, if_pos hm, plR_row ro.nd h]
section
variable {P : Program} {w : World} {K : PySem.W.Frag} {mg : Str → Option Value} {base : Heap}
theorem sc__law_signs : FnScope ["_law_box_here", "_law_rows_here", "_law_letters_here", "_law_upto", "_law_found", "_law_lacking", "_law_room", "_law_some", "_law_name", "_law_places", "_law_row"] ["_law_box_here", "_law_rows_here", "_law_letters_here", "_law_upto"] (defScope s__law_signs) := ⟨rfl, rfl, rfl, by decide +kernel, rfl, by decide +kernel, by decide +kernel⟩

set_option maxHeartbeats 800000 in
theorem ok_signs (bt : Bt mg) (p__law_take : Prom P w K mg base 1 "_law_take" ["_law_box_here", "_law_many"] spTake) (D : Def K mg "_law_signs" s__law_signs) : Prom P w K mg base 2 "_law_signs" ["_law_box_here", "_law_rows_here", "_law_letters_here", "_law_upto"] (spSigns K) := by
  refine prom_mk D sc__law_signs (fun vs H Q E h => ?_) (fun _ _ _ _ _ _ us hl => match us, hl with | [_, _, _, _], _ => rfl) (fun f cdv A outer s H vs Q E hr h => ?_)
  · obtain ⟨b, n, rw_, lt, upto, rows, ls, rfl, _⟩ := h
    rfl
  · obtain ⟨b, n, rw_, lt, upto, rows, ls, rfl, u1, u2, hb, ro, hls, hrw, hlt, q⟩ := h
    refine ⟨_, (pss_cons (ps_set (i := 4) sc__law_signs.nd rfl (Or.inl rfl) (pe_lst pa_nil))
      (pss_cons (ps_set (i := 5) sc__law_signs.nd rfl (Or.inl rfl) pe_int)
      (pss_cons (ps_while PassesOwn.never (pt_cmpR op_gt (pv 5) pe_int (nomark _)) (pss_cons (ps_set (i := 6) sc__law_signs.nd rfl (Or.inr rfl) (pe_op op_sub (pe_op op_sub (pv 3) (pe_callB (id := "len") (lenK (K := K)) (by rfl) bt.len_ (by decide +kernel) (pa_cons (pv 4) pa_nil))) (pv 5)))
      (pss_cons (ps_setLc (i := 7) (own := [("_law_row", 10)]) (g := gName 10) rfl sc__law_signs.nd rfl rfl (sw_true rfl rfl rfl (by decide +kernel)) (pi_listK (K := K) rfl (pv 1)) (blkOk_by (N := ["_law_box_here", "_law_rows_here", "_law_letters_here", "_law_upto", "_law_found", "_law_lacking", "_law_room", "_law_some", "_law_name", "_law_places", "_law_row"]) (sc := defScope s__law_signs) (by decide +kernel)) (fun _ _ _ _ _ => (pg_name (i := 10) sc__law_signs.nd rfl (Or.inl rfl))) (fun _ _ _ _ _ => (pts_one (pt_cmpR op_le (pe_ix (ix_tupK (K := K)) (pv 10) pe_int (fun _ _ => rfl)) (pv 6) (nomark _)))) (fun _ _ _ _ _ => (pv 10)))
      (pss_one (ps_if (PW.pt (pw_or (pt_cmpR (op_eqNil (K := K) hr.units) (pv 7) (pe_lst pa_nil) (nomark _)) (pw_or1 (pt_cmpR op_eq (pe_pc p__law_take (hr.mono (by decide)) rfl (pa_cons (pv 0) (pa_cons pe_int pa_nil))) pe_int (nomark _))))) (pss_cons (ps_expr (pe_appendK (K := K) rfl (pv 4) (pe_ix (ix_listK (K := K)) (pv 2) (pe_pc p__law_take (hr.mono (by decide)) rfl (pa_cons (pv 0) (pa_cons (pe_callB (id := "len") (lenK (K := K)) (by rfl) bt.len_ (by decide +kernel) (pa_cons (pv 2) pa_nil)) pa_nil))) (fun _ _ => rfl))))
      (pss_one (ps_set (i := 5) sc__law_signs.nd rfl (Or.inl rfl) (pe_op op_sub (pv 5) pe_int)))) (pss_cons (ps_asg (pe_ix (ix_listK (K := K)) (pv 7) (pe_pc p__law_take (hr.mono (by decide)) rfl (pa_cons (pv 0) (pa_cons (pe_callB (id := "len") (lenK (K := K)) (by rfl) bt.len_ (by decide +kernel) (pa_cons (pv 7) pa_nil)) pa_nil))) (fun _ _ => rfl)) (pg_tupK (K := K) (n := 2) rfl rfl (pgs_cons (pg_name (i := 8) sc__law_signs.nd rfl (Or.inl rfl)) (pgs_cons (pg_name (i := 9) sc__law_signs.nd rfl (Or.inl rfl)) pgs_nil))))
      (pss_cons (ps_expr (pe_appendK (K := K) rfl (pv 4) (pv 8)))
      (pss_one (ps_set (i := 5) sc__law_signs.nd rfl (Or.inl rfl) (pe_op op_sub (pe_op op_add (pv 5) (pv 9)) pe_int))))))))))
      (pss_one (ps_ret (pv 4)))))), ?_⟩
    refine ⟨(by show 0 ≤ sizeLine; decide), fun F hF => ?_⟩
    have nF : F ≠ b := (Dr.refl hb).ne hF
    have d0 : Dr b (n + 2 * upto) H (L2.upd H F (.lst [])) := (Dr.refl hb).new hF
    have eF : L2.upd H F (.lst []) F = some (.lst []) := upd_same ..
    generalize L2.upd H F (.lst []) = H1 at d0 eF ⊢
    refine ⟨fun m τ G => ∃ (zs : List Str) (k : Nat), m = upto - zs.length ∧ (∃ x6 x7 x8 x9 x10, τ = [some (.ref b), some (.ref rw_), some (.ref lt), some (.int upto), some (.ref F), some (.int k), x6, x7, x8, x9, x10]) ∧ zs.length + k ≤ upto ∧ G F = some (.lst (zs.map V.str)) ∧ (∀ a o, a ≠ b → a ≠ F → H a = some o → G a = some o) ∧
      (∃ o, G b = some o ∧ Bag (n + 2 * (upto - zs.length)) o) ∧ (∀ z ∈ zs, z ∈ rows.map (·.1) ∨ z ∈ ls) ∧ lacks (plS rows) 1 zs = some k, ⟨_, [], 1, rfl, ⟨_, _, _, _, _, rfl⟩, u1, eF, fun a o h1 _ e => d0.fx a o h1 e, d0.bag, by simp, rfl⟩, ?_⟩
    rintro m τ G ⟨zs, k, rfl, ⟨x6, x7, x8, x9, x10, rfl⟩, hk, eG, keep, hbG, hin, hlk⟩
    refine ⟨_, rfl, _, _, rfl, rfl, _, rfl, ?_⟩
    cases k with
    | zero =>
      refine iteF ⟨_, rfl, ?_⟩
      have l1 : 1 ≤ zs.length := by
        cases zs with
        | nil => cases hlk
        | cons _ _ => simp
      refine q G F zs ⟨fun a o ha e => ?_, let ⟨o, e, g⟩ := hbG; ⟨o, e, g.mono (by omega)⟩⟩ ⟨l1, by omega, hin, hlk⟩ hF nF eG
      exact keep a o ha (ne_of_none e hF) e
    | succ k =>
      refine iteT' (decide_eq_true (by omega)) ⟨fun τ G => ∃ (zs' : List Str) (k' : Nat), zs'.length = zs.length + 1 ∧ (∃ x6 x7 x8 x9 x10, τ = [some (.ref b), some (.ref rw_), some (.ref lt), some (.int upto), some (.ref F), some (.int k'), x6, x7, x8, x9, x10]) ∧ zs'.length + k' ≤ upto ∧ G F = some (.lst (zs'.map V.str)) ∧ (∀ a o, a ≠ b → a ≠ F → H a = some o → G a = some o) ∧
        (∃ o, G b = some o ∧ Bag (n + 2 * (upto - zs'.length)) o) ∧ (∀ z ∈ zs', z ∈ rows.map (·.1) ∨ z ∈ ls) ∧ lacks (plS rows) 1 zs' = some k', fun τ G' ⟨zs', k', h1, h2, h3⟩ => ⟨upto - zs'.length, by omega, zs', k', rfl, h2, h3⟩, ?_⟩
      refine ⟨_, rfl, _, rfl, _, _, rfl, .inl ⟨_, .inl (.inl eG), rfl⟩, _, _, rfl, rfl, _, rfl, _, _, rfl, rfl, ?_⟩
      have hG0 : Same (hide H b) G := fun a o e => by
        have ha : a ≠ b := fun z => by rw [z, hide_self] at e; cases e
        rw [hide_ne ha] at e
        exact keep a o ha (ne_of_none e hF) e
      obtain ⟨_, xr, er, hrL, hrA⟩ := hrw.list_inv
      cases er
      have ll : 1 ≤ (ls.map V.str).length ∧ (ls.map V.str).length ≤ 100 := by rw [List.length_map]; exact hls.1
      have big : (2 : Int) ^ 200 > 1000 := by decide +kernel
      have nlt : lt ≠ b := fun z => by rw [z, hide_self] at hlt; cases hlt
      have hxl := hrA.length
      rw [List.length_map] at hxl
      have hfew := ro.few
      obtain ⟨room, eroom⟩ : ∃ r : Int, r = (upto : Int) - ((zs.map V.str).length : Nat) - ((k + 1 : Nat) : Int) := ⟨_, rfl⟩
      refine ⟨_, rfl, rw_, rfl, ⟨_, hG0.seq hrL⟩, fun R hR => lc_it walk_list (fun i G' => Same G G' ∧ ∃ sub : List (Addr × (Str × Int)), G' R = some (.lst (sub.map fun s => V.ref s.1)) ∧ sub.length ≤ i ∧ ∀ s ∈ sub, s.2 ∈ rows ∧ s.2.2 ≤ room ∧ SqT K (hide H b) s.1 [.str s.2.1, .int s.2.2])
        ⟨Same.new (Same.refl _) hR, [], upd_same .., Nat.le_refl _, by simp⟩ (fun i G' _ p => p.1.seq (hG0.seq hrL)) ?_ ?_⟩
      · rintro i x G1 G2 hi ⟨s1, sub, eR, lsub, hsub⟩ ⟨rfl, hx⟩
        obtain ⟨di, hdi, hx2⟩ := hrA.get hx
        obtain ⟨r, hr1, rfl⟩ : ∃ r ∈ rows, di = rowPy r := by
          rw [List.getElem?_map] at hdi
          cases hri : rows[i]? with
          | none => rw [hri] at hdi; cases hdi
          | some r => rw [hri] at hdi; cases hdi; exact ⟨r, List.mem_of_getElem? hri, rfl⟩
        obtain ⟨a, ys, rfl, hT, hA⟩ := hx2.tup_inv
        cases hA with
        | cons y0 t1 => cases t1 with
        | cons y1 t2 => cases t2 with
        | nil =>
        cases y0
        cases y1
        refine ⟨rfl, _, rfl, a, _, _, .int r.2, rfl, rfl, SqT.same (hG0.trans s1) hT, rfl, _, rfl, _, _, rfl, rfl, _, rfl, ite2 (fun c => ?_) (fun c => ?_)⟩
        · refine ⟨_, rfl, _, eR, ?_, Same.keep s1 hR, sub ++ [(a, r)], by rw [upd_same, List.map_append]; rfl, by rw [List.length_append]; exact Nat.add_le_add_right lsub 1, fun s hs => ?_⟩
          · rw [List.length_map]; exact sz5' (by omega)
          · rcases List.mem_append.mp hs with m | m
            · exact hsub s m
            · rw [List.mem_singleton.mp m]; exact ⟨hr1, by rw [eroom]; exact of_decide_eq_true c, hT⟩
        · exact ⟨s1, sub, eR, Nat.le_succ_of_le lsub, hsub⟩
      · rintro G2 ⟨s1, sub, eR, lsub, hsub⟩
        refine ⟨_, rfl, (by show 0 ≤ sizeLine; decide), fun N hN => ?_⟩
        (generalize hG : L2.upd _ N _ = G4; have sN := same_of hG hN; have eN := at_of hG; clear hG)
        have s4 := s1.trans sN
        have eF4 := s4 _ _ eG
        have kG4 := hG0.trans s4
        have keep4 : ∀ a o, a ≠ b → a ≠ F → H a = some o → G4 a = some o := fun a o h1 h2 e => s4 _ _ (keep a o h1 h2 e)
        have nR : R ≠ b := fun z => by
          obtain ⟨o, e, _⟩ := hbG
          rw [z, e] at hR
          cases hR
        have eR4 := sN _ _ eR
        have hb4 : ∃ o, G4 b = some o ∧ Bag (n + 2 * (upto - (zs.length + 1)) + 1 + 1) o := by
          obtain ⟨o, e, g⟩ := hbG
          exact ⟨o, s4 _ _ e, g.mono (by omega)⟩
        refine ⟨R, N, _, rfl, rfl, .inl (.inl eR4), .inl (.inl eN), _, rfl, ?_⟩
        cases sub with
        | nil =>
          refine iteT (iteT ?_)
          obtain ⟨G5, eG5⟩ : ∃ G5, G5 = G4 := ⟨_, rfl⟩
          have d5 : Dr b (n + 2 * (upto - (zs.length + 1)) + 1) G4 G5 := by rw [eG5]; exact (Dr.refl hb4).mono (Nat.le_succ _)
          rw [← eG5]
          -- a letter
          have eF5 : G5 F = some (.lst (zs.map V.str)) := d5.at nF eF4
          have lt5 : G5 lt = some (.lst (ls.map V.str)) := d5.at nlt (kG4 _ _ hlt)
          refine ⟨_, rfl, .inl ⟨rfl, _, .inl (.inl eF5)⟩, _, rfl, _, rfl, _, rfl, _, _, rfl, .inl ⟨_, .inl (.inl lt5), rfl⟩, b, _, n + 2 * (upto - (zs.length + 1)), ((ls.map V.str).length : Int), rfl, d5.bag.choose_spec.1, d5.bag.choose_spec.2, by omega, by omega, fun x o x0 x1 g => ?_⟩
          (generalize hG : L2.upd _ b _ = G6; have d6 := dr_of hG g; clear hG)
          obtain ⟨v, hv, hvm⟩ := atI_in (xs := ls.map V.str) x0 x1
          obtain ⟨z, hz, rfl⟩ := List.mem_map.mp hvm
          have D6 := d5.trans d6
          have eF6 := D6.at nF eF4
          refine ⟨lt, _, _, .str z, rfl, rfl, .inl (.inl (d6.at nlt lt5)), hv, F, _, _, rfl, rfl, eF6, sz5' (by rw [List.length_map]; omega), _, rfl, _, _, rfl, rfl, ?_⟩
          refine ⟨zs ++ [z], k, by simp, ⟨_, _, _, _, _, by rw [show (k : Int) = ((k + 1 : Nat) : Int) - 1 by omega]; rfl⟩, by rw [List.length_append]; show zs.length + 1 + k ≤ upto; omega, by rw [upd_same, List.map_append]; rfl, fun a o h1 h2 e => (upd_ne h2).trans (D6.fx a o h1 (keep4 a o h1 h2 e)), ?_, ?_, ?_⟩
          · obtain ⟨o, e, g⟩ := d6.bag
            exact ⟨o, (upd_ne (Ne.symm nF)).trans e, by rw [List.length_append]; exact g⟩
          · intro y hy
            rcases List.mem_append.mp hy with m | m
            · exact hin y m
            · rw [List.mem_singleton.mp m]; exact .inr hz
          · exact lacks_app zs 1 k z 0 hlk (plS_letter (hls.2 z hz))
        | cons s0 sr =>
          refine iteF ⟨_, rfl, b, _, n + 2 * (upto - (zs.length + 1)) + 1, 3, rfl, hb4.choose_spec.1, hb4.choose_spec.2, by decide, by decide +kernel, fun x5 o5 x50 x53 g5 => ?_⟩
          (generalize hG : L2.upd _ b _ = G5; have d5 := dr_of hG g5; clear hG)
          refine ⟨rfl, _, rfl, ite2 (fun c => ?_) (fun c => ?_)⟩
          · -- a letter
            have eF5 : G5 F = some (.lst (zs.map V.str)) := d5.at nF eF4
            have lt5 : G5 lt = some (.lst (ls.map V.str)) := d5.at nlt (kG4 _ _ hlt)
            refine ⟨_, rfl, .inl ⟨rfl, _, .inl (.inl eF5)⟩, _, rfl, _, rfl, _, rfl, _, _, rfl, .inl ⟨_, .inl (.inl lt5), rfl⟩, b, _, n + 2 * (upto - (zs.length + 1)), ((ls.map V.str).length : Int), rfl, d5.bag.choose_spec.1, d5.bag.choose_spec.2, by omega, by omega, fun x o x0 x1 g => ?_⟩
            (generalize hG : L2.upd _ b _ = G6; have d6 := dr_of hG g; clear hG)
            obtain ⟨v, hv, hvm⟩ := atI_in (xs := ls.map V.str) x0 x1
            obtain ⟨z, hz, rfl⟩ := List.mem_map.mp hvm
            have D6 := d5.trans d6
            have eF6 := D6.at nF eF4
            refine ⟨lt, _, _, .str z, rfl, rfl, .inl (.inl (d6.at nlt lt5)), hv, F, _, _, rfl, rfl, eF6, sz5' (by rw [List.length_map]; omega), _, rfl, _, _, rfl, rfl, ?_⟩
            refine ⟨zs ++ [z], k, by simp, ⟨_, _, _, _, _, by rw [show (k : Int) = ((k + 1 : Nat) : Int) - 1 by omega]; rfl⟩, by rw [List.length_append]; show zs.length + 1 + k ≤ upto; omega, by rw [upd_same, List.map_append]; rfl, fun a o h1 h2 e => (upd_ne h2).trans (D6.fx a o h1 (keep4 a o h1 h2 e)), ?_, ?_, ?_⟩
            · obtain ⟨o, e, g⟩ := d6.bag
              exact ⟨o, (upd_ne (Ne.symm nF)).trans e, by rw [List.length_append]; exact g⟩
            · intro y hy
              rcases List.mem_append.mp hy with m | m
              · exact hin y m
              · rw [List.mem_singleton.mp m]; exact .inr hz
            · exact lacks_app zs 1 k z 0 hlk (plS_letter (hls.2 z hz))
          · have eF5 : G5 F = some (.lst (zs.map V.str)) := d5.at nF eF4
            have eR5 := d5.at nR eR4
            have lsn : ((s0 :: sr).map fun s => V.ref s.1).length ≤ 12 := by rw [List.length_map]; omega
            refine ⟨_, rfl, _, rfl, _, rfl, _, _, rfl, .inl ⟨_, .inl (.inl eR5), rfl⟩, b, _, n + 2 * (upto - (zs.length + 1)), _, rfl, d5.bag.choose_spec.1, d5.bag.choose_spec.2, (by simp), (by
              have : (2 : Int) ^ 200 > 12 := by decide +kernel
              omega), fun x o x0 x1 g => ?_⟩
            (generalize hG : L2.upd _ b _ = G6; have d6 := dr_of hG g; clear hG)
            obtain ⟨v, hv, hvm⟩ := atI_in (xs := (s0 :: sr).map fun s => V.ref s.1) x0 x1
            obtain ⟨⟨ra, r⟩, hs, rfl⟩ := List.mem_map.mp hvm
            obtain ⟨hr1, hr2, hr3⟩ := hsub _ hs
            replace hr2 : r.2 ≤ room := hr2
            replace hr1 : r ∈ rows := hr1
            have D6 := d5.trans d6
            have eF6 := D6.at nF eF4
            have hlo := ro.lo r hr1
            have hT6 : SqT K G6 ra [.str r.1, .int r.2] := SqT.same (fun a o e => by
              have ha : a ≠ b := fun z => by rw [z, hide_self] at e; cases e
              exact D6.fx a o ha (kG4 _ _ e)) hr3
            refine ⟨R, _, _, .ref ra, rfl, rfl, .inl (.inl (d6.at nR eR5)), hv, ra, _, rfl, hT6, rfl, _, _, rfl, _, _, rfl, rfl, ?_⟩
            refine ⟨_, rfl, .inl ⟨rfl, _, .inl (.inl eF6)⟩, _, rfl, F, _, _, rfl, rfl, eF6, sz5' (by rw [List.length_map]; omega), _, rfl, _, rfl, _, _, rfl, rfl, _, _, rfl, rfl, ?_⟩
            rw [List.length_map] at eroom
            refine ⟨zs ++ [r.1], k + r.2.toNat, by simp, ⟨_, _, _, _, _, by rw [show ((k + r.2.toNat : Nat) : Int) = ((k + 1 : Nat) : Int) + r.2 - 1 by omega]; rfl⟩, by rw [List.length_append]; show zs.length + 1 + (k + r.2.toNat) ≤ upto; omega, by rw [upd_same, List.map_append]; rfl, fun a o h1 h2 e => (upd_ne h2).trans (D6.fx a o h1 (keep4 a o h1 h2 e)), ?_, ?_, ?_⟩
            · obtain ⟨o, e, g⟩ := d6.bag
              exact ⟨o, (upd_ne (Ne.symm nF)).trans e, by rw [List.length_append]; exact g⟩
            · intro y hy
              rcases List.mem_append.mp hy with m | m
              · exact hin y m
              · rw [List.mem_singleton.mp m]; exact .inl (List.mem_map_of_mem hr1)
            · exact lacks_app zs 1 k r.1 r.2.toNat hlk (plS_row ro hr1)
end

end TS

namespace TS
open PySem PySem.Spec PyProof.Rows L2 TL

/-! ### great terms -/
def Fs.rep : Nat → Tm → Fs
  | 0, _ => .nil
  | n + 1, t => .cons t (Fs.rep n t)
theorem Fs.rep_len : ∀ (n : Nat) (t : Tm), (Fs.rep n t).len = n
  | 0, _ => rfl
  | n + 1, t => by show (Fs.rep n t).len + 1 = n + 1; rw [Fs.rep_len n t]
theorem Fs.rep_size : ∀ (n : Nat) (t : Tm), (Fs.rep n t).size = n * t.size
  | 0, t => by show 0 = 0 * t.size; rw [Nat.zero_mul]
  | n + 1, t => by show t.size + (Fs.rep n t).size = (n + 1) * t.size; rw [Fs.rep_size n t, Nat.succ_mul]; omega
theorem Fs.rep_flat : ∀ (n : Nat) (t : Tm), (Fs.rep n t).flat = (List.replicate n t.flat).flatten
  | 0, _ => rfl
  | n + 1, t => by show t.flat ++ (Fs.rep n t).flat = _; rw [Fs.rep_flat n t, List.replicate_succ, List.flatten_cons]
theorem Fs.rep_deep : ∀ (n : Nat) (t : Tm), (Fs.rep n t).deep ≤ t.deep + 1
  | 0, _ => Nat.zero_le _
  | n + 1, t => by
    have := Fs.rep_deep n t
    show max (t.deep + 1) (Fs.rep n t).deep ≤ t.deep + 1
    omega
theorem Fs.rep_wf {pl : Str → Option Nat} {t : Tm} (h : t.wf pl) : ∀ n : Nat, (Fs.rep n t).wf pl
  | 0 => by show (Fs.nil).wf pl; simp [Fs.wf]
  | n + 1 => ⟨h, Fs.rep_wf h n⟩
def bigT (s : Str) (p : Nat) : Nat → Tm
  | 0 => .mk "B" .nil
  | k + 1 => .mk s (Fs.rep p (bigT s p k))
def sizeN (p : Nat) : Nat → Nat
  | 0 => 1
  | k + 1 => p * sizeN p k + 1
theorem big_size (s : Str) (p : Nat) : ∀ k : Nat, (bigT s p k).size = sizeN p k
  | 0 => rfl
  | k + 1 => by show (Fs.rep p (bigT s p k)).size + 1 = p * sizeN p k + 1; rw [Fs.rep_size, big_size s p k]
theorem big_deep (s : Str) (p : Nat) : ∀ k : Nat, (bigT s p k).deep ≤ k
  | 0 => Nat.le_refl _
  | k + 1 => by
    have h1 := big_deep s p k
    have h2 := Fs.rep_deep p (bigT s p k)
    show (Fs.rep p (bigT s p k)).deep ≤ k + 1
    omega
theorem big_step : ∀ p ∈ [2, 3, 4], ∀ k ∈ List.range 11, sizeN p k < 1000 → k + 1 ≤ 10 ∧ sizeN p (k + 1) ≤ 1400 := by decide +kernel
theorem big_mem (s : Str) (p : Nat) : ∀ (k : Nat), ∀ z ∈ (bigT s p k).flat, z = s ∨ z = "B"
  | 0, z, h => .inr (List.mem_singleton.mp h)
  | k + 1, z, h => by
    rcases List.mem_cons.mp (show z ∈ s :: (Fs.rep p (bigT s p k)).flat from h) with e | m
    · exact .inl e
    · rw [Fs.rep_flat] at m
      obtain ⟨l, hl, hz⟩ := List.mem_flatten.mp m
      rw [List.eq_of_mem_replicate hl] at hz
      exact big_mem s p k z hz
theorem big_wf {pl : Str → Option Nat} {s : Str} {p : Nat} (hs : pl s = some p) (hB : pl "B" = some 0) : ∀ k : Nat, (bigT s p k).wf pl
  | 0 => ⟨hB, by simp [Fs.wf]⟩
  | k + 1 => ⟨by rw [Fs.rep_len]; exact hs, Fs.rep_wf (big_wf hs hB k) p⟩
theorem plS_B {rows : List (Str × Int)} : plS rows "B" = some 0 := plS_letter (by decide +kernel)
theorem tiny_name {z : Str} (h : nameS z = true) : Sm 0 8 (.str z) ∧ (PyData.str z).canLay0 = true := by
  unfold nameS at h
  obtain ⟨h1, h3⟩ := Bool.and_eq_true_iff.mp h
  obtain ⟨_, h2⟩ := Bool.and_eq_true_iff.mp h1
  have hc : ∀ c ∈ z.cps.toList, c ≤ 122 := fun c hc => of_decide_eq_true (Bool.and_eq_true_iff.mp (List.all_eq_true.mp h3 c hc)).2
  refine ⟨Sm.str (fun c m => Nat.lt_of_le_of_lt (hc c m) (by decide)) (of_decide_eq_true h2), ?_⟩
  show z.cps.all (· < 0x110000) = true
  rw [← Array.all_toList, List.all_eq_true]
  exact fun c m => decide_eq_true (Nat.lt_of_le_of_lt (hc c m) (by decide))
theorem tiny_lok {z : Str} (h : lokB z = true) : Sm 0 8 (.str z) ∧ (PyData.str z).canLay0 = true := by
  obtain ⟨_, h2⟩ := Bool.and_eq_true_iff.mp h
  exact ⟨(Bool.and_eq_true_iff.mp h2).1, (Bool.and_eq_true_iff.mp h2).2⟩
theorem Tiny.short {zs : List Str} (h : Tiny zs) : Short zs := fun z hz => Nat.le_trans (h z hz).to.2.2.2 (by decide)
def spGreat (K : PySem.W.Frag) : Sp := fun vs H Q _ => ∃ (wk rw_ : Addr) (rows : List (Str × Int)), vs = [.ref wk, .ref rw_] ∧ RowsOk rows ∧ WordsAt K H wk rows ∧ Dt K H (.ref rw_) (.list (rows.map rowPy)) ∧ ∀ G, Same H G → Q (.bl true) G
section
variable {P : Program} {w : World} {K : PySem.W.Frag} {mg : Str → Option Value} {base : Heap}
theorem sc__law_great_right : FnScope ["_law_known", "_law_rows_here", "_law_name", "_law_places", "_law_marks"] ["_law_known", "_law_rows_here"] (defScope s__law_great_right) := ⟨rfl, rfl, rfl, by decide +kernel, rfl, by decide +kernel, by decide +kernel⟩

set_option maxHeartbeats 1600000 in
theorem ok_great (bt : Bt mg) (m_Term : Mk K (tcls K) (He.ma K (tcls K) "__init__")) (g_Term : mg "Term" = some (.ref (tcls K))) (p_Term1 : PromAK P w K mg base 4 (He.ma K (tcls K) "__init__") ["self", "words", "signs", "most"] (spTIni K) 3 ["most"] (fun vs zs => vs ++ ([] ++ zs)))
    {n : Nat} (hn : 11 ≤ n) (p__law_told_right : PromG P w K mg base (n + 12) "_law_told_right" ["_law_term", "_law_known", "_law_rows_here", "_law_marks"] (spTR K n)) (D : Def K mg "_law_great_right" s__law_great_right) : PromG P w K mg base (n + 13) "_law_great_right" ["_law_known", "_law_rows_here"] (spGreat K) := by
  refine promG_mk D sc__law_great_right (fun vs H Q E h => ?_) (fun _ _ _ _ _ _ us hl => match us, hl with | [_, _], _ => rfl) (fun f cdv A outer s H vs Q E hgd hr h => ?_)
  · obtain ⟨wk, rw_, rows, rfl, _⟩ := h
    rfl
  · obtain ⟨wk, rw_, rows, rfl, ro, hW, hrw, q⟩ := h
    refine ⟨_, (pss_cons (ps_for PassesOwn.never rfl (pi_listK (K := K) rfl (pv 1)) (pg_tupK (K := K) (n := 2) rfl rfl (pgs_cons (pg_name (i := 2) sc__law_great_right.nd rfl (Or.inl rfl)) (pgs_cons (pg_name (i := 3) sc__law_great_right.nd rfl (Or.inl rfl)) pgs_nil))) (pss_one (ps_if (pt_cmpR op_gt (pv 3) pe_int (nomark _)) (pss_cons (ps_set (i := 4) sc__law_great_right.nd rfl (Or.inl rfl) (pe_lst (pa_cons pe_str pa_nil)))
      (pss_cons (ps_while PassesOwn.never (pt_cmpR op_lt (pe_callB (id := "len") (lenK (K := K)) (by rfl) bt.len_ (by decide +kernel) (pa_cons (pv 4) pa_nil)) pe_int (nomark _)) (pss_one (ps_set (i := 4) sc__law_great_right.nd rfl (Or.inl rfl) (pe_op op_cat (pe_lst (pa_cons (pv 2) pa_nil)) (pe_op op_rep (pv 4) (pv 3))))))
      (pss_one (ps_ret (pe_pcG p__law_told_right hgd (hr.mono (by omega)) rfl (pa_cons (pe_makeSK m_Term p_Term1 takes0 (hr.mono (by omega)) rfl g_Term (pa_cons (pv 0) (pa_cons (pv 4) pa_nil)) (pk_cons (pe_callB (id := "len") (lenK (K := K)) (by rfl) bt.len_ (by decide +kernel) (pa_cons (pv 4) pa_nil)) pk_nil)) (pa_cons (pv 0) (pa_cons (pv 1) (pa_cons (pv 4) pa_nil))))))))) pss_nil)))
      (pss_one (ps_ret pe_bl))), ?_⟩
    obtain ⟨_, xr, er, hrL, hrA⟩ := id hrw.list_inv
    cases er
    refine ⟨_, rfl, rw_, rfl, ⟨_, hrL⟩, for_it walk_list (fun i τ G' => (∃ x2 x3 x4, τ = [some (.ref wk), some (.ref rw_), x2, x3, x4]) ∧ Same H G') ⟨⟨_, _, _, rfl⟩, Same.refl _⟩ (fun i τ G' _ p => p.2.seq hrL) ?_ (fun τ G' p => q G' p.2)⟩
    rintro i x τ E1 E2 hi ⟨⟨x2, x3, x4, rfl⟩, sE⟩ ⟨rfl, hx⟩
    obtain ⟨di, hdi, hx2⟩ := hrA.get hx
    obtain ⟨r, hr1, rfl⟩ : ∃ r ∈ rows, di = rowPy r := by
      rw [List.getElem?_map] at hdi
      cases hri : rows[i]? with
      | none => rw [hri] at hdi; cases hdi
      | some r => rw [hri] at hdi; cases hdi; exact ⟨r, List.mem_of_getElem? hri, rfl⟩
    obtain ⟨a, ys, rfl, hT, hA⟩ := hx2.tup_inv
    cases hA with
    | cons y0 t1 => cases t1 with
    | cons y1 t2 => cases t2 with
    | nil =>
    cases y0
    cases y1
    refine ⟨a, _, rfl, SqT.same sE hT, rfl, _, _, rfl, _, _, rfl, rfl, ?_⟩
    refine ⟨_, rfl, _, _, rfl, rfl, _, rfl, ite2 (fun c => ?_) (fun c => ⟨⟨_, _, _, rfl⟩, sE⟩)⟩
    have c1 : r.2 > 1 := of_decide_eq_true c
    have h4 := ro.hi r hr1
    obtain ⟨p, ep⟩ : ∃ p : Nat, r.2 = p := ⟨r.2.toNat, by omega⟩
    have hp : p ∈ [2, 3, 4] := by
      have : p = 2 ∨ p = 3 ∨ p = 4 := by omega
      rcases this with rfl | rfl | rfl <;> simp
    have hp4 : p ≤ 4 := by omega
    have pls : plS rows r.1 = some p := by rw [plS_row ro hr1, ep]; rfl
    have tm1 := tiny_name (ro.names r hr1)
    have tmB := tiny_lok (show lokB "B" = true by decide +kernel)
    refine ⟨(by show 1 ≤ sizeLine; decide), fun M0 hM0 => ?_⟩
    (generalize hG : L2.upd _ M0 _ = G0; have sM0 := same_of hG hM0; have eM0 := at_of hG; clear hG)
    refine ⟨fun m τ G => ∃ (k : Nat) (M : Addr), m = 10 - k ∧ τ = [some (.ref wk), some (.ref rw_), some (.str r.1), some (.int r.2), some (.ref M)] ∧ Same H G ∧ G M = some (.lst ((bigT r.1 p k).flat.map V.str)) ∧ k ≤ 10 ∧ sizeN p k ≤ 1400, ⟨_, 0, M0, rfl, rfl, sE.trans sM0, eM0, by decide, (by show 1 ≤ 1400; decide)⟩, ?_⟩
    rintro m τ G ⟨k, M, rfl, rfl, sG, eM, hk, hsz⟩
    have lM : ((bigT r.1 p k).flat.map V.str).length = sizeN p k := by rw [List.length_map, Tm.flat_len, big_size]
    refine ⟨_, rfl, _, _, rfl, .inl ⟨_, .inl (.inl eM), rfl⟩, _, _, rfl, rfl, _, rfl, ?_⟩
    rw [lM]
    by_cases hlt : sizeN p k < 1000
    · obtain ⟨hk2, hs2⟩ := big_step p hp k (List.mem_range.mpr (by omega)) hlt
      refine iteT' (decide_eq_true (by omega)) ⟨_, fun τ' G' h => h, ?_⟩
      refine ⟨_, rfl, (by show 1 ≤ sizeLine; decide), fun L hL => ?_⟩
      (generalize hG : L2.upd _ L _ = G1; have sL := same_of hG hL; have eL := at_of hG; clear hG)
      refine ⟨_, rfl, _, rfl, M, _, _, rfl, rfl, sL _ _ eM, by omega, by omega, ?_, fun L2' hL2 => ?_⟩
      · rw [lM, ep, Int.toNat_natCast]
        have : sizeN p k * p ≤ 1000 * 4 := Nat.mul_le_mul (by omega) hp4
        exact sz5 (by omega)
      have ef : (List.replicate r.2.toNat ((bigT r.1 p k).flat.map V.str)).flatten = (Fs.rep p (bigT r.1 p k)).flat.map V.str := by
        rw [ep, Int.toNat_natCast, Fs.rep_flat, List.map_flatten, List.map_replicate]
      rw [ef]
      (generalize hG : L2.upd _ L2' _ = G2; have sL2 := same_of hG hL2; have eL2 := at_of hG; clear hG)
      refine ⟨L, L2', _, _, rfl, rfl, sL2 _ _ eL, eL2, ?_, fun M' hM' => ?_⟩
      · rw [List.length_map, Fs.flat_len, Fs.rep_size, big_size]
        have : p * sizeN p k ≤ 4 * 1000 := Nat.mul_le_mul hp4 (by omega)
        exact sz5 (by show 1 + p * sizeN p k ≤ 100000; omega)
      (generalize hG : L2.upd _ M' _ = G3; have sM' := same_of hG hM'; have eM' := at_of hG; clear hG)
      exact ⟨10 - (k + 1), by omega, k + 1, M', rfl, rfl, ((sG.trans sL).trans sL2).trans sM', eM', hk2, hs2⟩
    · refine iteF' (decide_eq_false (by omega)) ?_
      have tn : Tiny (bigT r.1 p k).flat := fun z hz => by
        rcases big_mem r.1 p k z hz with e | e
        · rw [e]; exact tm1.1
        · rw [e]; exact tmB.1
      have wf := big_wf (k := k) pls (plS_B (rows := rows))
      refine ⟨_, rfl, _, rfl, _, rfl, _, _, rfl, .inl ⟨_, .inl (.inl eM), rfl⟩, rfl, rfl, fun x dx hx hdx ne => ?_⟩
      refine tini_of hx hdx ne (hW.same sG) ⟨ro.lo, ro.hi⟩ (.lst (.inl (.inl eM)) (dt_strs _)) rfl wf (by rw [lM, big_size]; omega) (by rw [lM]; omega) tn.short fun G1 s1 ta => ?_
      have dp := big_deep r.1 p k
      refine ⟨_, rfl, _, rfl, _, rfl, x, wk, rw_, M, wk, rows, bigT r.1 p k, rfl, ro, ⟨ta, hW.same (sG.trans s1), ⟨ro.lo, ro.hi⟩, wf, by rw [big_size]; omega, tn.short⟩, hW.same (sG.trans s1), Dt.same (sG.trans s1) hrw, .inl (.inl (s1 _ _ eM)), tn, ⟨by rw [big_size]; exact hsz, ?_⟩, by omega, fun G' s' => q G' ((sG.trans s1).trans s')⟩
      rw [big_size]
      exact Nat.le_trans (Nat.mul_le_mul hsz (show 4 * (bigT r.1 p k).deep + 30 ≤ 70 by omega)) (by decide)
end

end TS

namespace TS
open PySem PySem.Spec PyProof.Rows L2 TL

/-! ### deep terms -/
theorem rowsL_true {ds : List PyData} (h1 : 1 ≤ ds.length) (h2 : ds.length ≤ 12) (a : ∀ d ∈ ds, rowD d = true) (nd : (ds.map nmOf).Nodup) : rowsL ds = true := by
  unfold rowsL
  rw [decide_eq_true h1, decide_eq_true h2, List.all_eq_true.mpr a, decide_eq_true nd]
  rfl
theorem rows_L {rows : List (Str × Int)} (ro : RowsOk rows) : rowsL (rows.map rowPy) = true := by
  refine rowsL_true (by rw [List.length_map]; exact ro.some_) (by rw [List.length_map]; exact ro.few) (fun d hd => ?_) (by rw [List.map_map]; exact ro.nd)
  obtain ⟨r, hr, rfl⟩ := List.mem_map.mp hd
  show (nameS r.1 && (decide (0 ≤ r.2) && decide (r.2 ≤ 4))) = true
  rw [ro.names r hr, decide_eq_true (ro.lo r hr), decide_eq_true (ro.hi r hr)]
  rfl
theorem rows_back (rows : List (Str × Int)) : (rows.map rowPy).map rowOf = rows := by
  rw [List.map_map]
  exact List.map_id rows
theorem sm_rows {rows : List (Str × Int)} (ro : RowsOk rows) : Sm 2 276 (.list (rows.map rowPy)) := by
  refine Sm.list (m := 12) (k := 1) (n := 22) (fun d hd => ?_) (by rw [List.length_map]; exact ro.few)
  obtain ⟨r, hr, rfl⟩ := List.mem_map.mp hd
  have h1 := ro.lo r hr
  have h2 := ro.hi r hr
  refine Sm.tuple (m := 2) (k := 0) (n := 10) (fun e he => ?_) (by simp)
  simp only [List.mem_cons, List.not_mem_nil, or_false] at he
  rcases he with rfl | rfl
  · have h := ro.names r hr
    unfold nameS at h
    obtain ⟨h1, h3⟩ := Bool.and_eq_true_iff.mp h
    obtain ⟨_, h2⟩ := Bool.and_eq_true_iff.mp h1
    exact Sm.str (fun c m => Nat.lt_of_le_of_lt (of_decide_eq_true (Bool.and_eq_true_iff.mp (List.all_eq_true.mp h3 c m)).2) (by decide)) (Nat.le_trans (of_decide_eq_true h2) (by decide))
  · exact Sm.int (by omega) (by omega)
/-- Words(rows), rows being what they must be -/
theorem words_of {K : PySem.W.Frag} {H : Hp} {a dx rw_ : Addr} {rows : List (Str × Int)} {C : Hp → Prop} {E : XK} (ro : RowsOk rows) (ha : H a = none) (hdx : H dx = none) (ne : dx ≠ a) (h : Dt K H (.ref rw_) (.list (rows.map rowPy)))
    (k : ∀ G, Same H G → WordsAt K G a rows → C G) : spWIni K [.ref a, .ref rw_] (L2.upd (L2.upd H dx (.own a)) a (.ins (wcls K) dx [])) (fun v G => v = .non ∧ C G) E := by
  have s1 : Same H (L2.upd (L2.upd H dx (.own a)) a (.ins (wcls K) dx [])) := fun b o e => by
    rw [upd_ne (ne_of_none e ha), upd_ne (ne_of_none e hdx)]
    exact e
  have rl := rows_L ro
  refine ⟨a, dx, _, _, rfl, upd_same .., Dt.same s1 h, Nat.le_trans (sm_rows ro).to.2.2.2 (by decide), fun ds e => ?_, fun ds e _ G fx wa => ⟨rfl, ?_⟩, fun c => ?_⟩
  · cases e
    rw [List.length_map]
    exact Nat.le_trans ro.few (by decide)
  · cases e
    rw [rows_back] at wa
    exact k G (fun b o e => fx b o (ne_of_none e ha) (s1 _ _ e)) wa
  · have : rowsD (.list (rows.map rowPy)) = true := rl
    rw [this] at c
    cases c
def chT : Nat → Tm
  | 0 => .mk "A" .nil
  | k + 1 => .mk "u" (.cons (chT k) .nil)
theorem ch_size : ∀ k : Nat, (chT k).size = k + 1
  | 0 => rfl
  | k + 1 => by show (chT k).size + 0 + 1 = _; rw [ch_size k]
theorem ch_deep : ∀ k : Nat, (chT k).deep = k
  | 0 => rfl
  | k + 1 => by show max ((chT k).deep + 1) 0 = _; rw [ch_deep k]; omega
theorem ch_flat : ∀ k : Nat, (chT k).flat = List.replicate k ("u" : Str) ++ [("A" : Str)]
  | 0 => rfl
  | k + 1 => by show ("u" : Str) :: ((chT k).flat ++ []) = _; rw [ch_flat k, List.append_nil, List.replicate_succ]; rfl
def rowsU : List (Str × Int) := [("u", 1)]
theorem u_ok : RowsOk rowsU := by
  refine ⟨by decide, by decide, ?_, by decide +kernel, ?_, ?_⟩ <;> intro r hr <;> rw [List.mem_singleton.mp hr] <;> decide +kernel
theorem ch_wf : ∀ k : Nat, (chT k).wf (plS rowsU)
  | 0 => ⟨by decide +kernel, by simp [Fs.wf]⟩
  | k + 1 => ⟨(by decide +kernel : plS rowsU "u" = some 1), ch_wf k, by simp [Fs.wf]⟩
theorem ch_spot : ∀ k : Nat, List.replicate k 0 ∈ (chT k).spotsS
  | 0 => List.mem_cons_self
  | k + 1 => by
    show List.replicate (k + 1) 0 ∈ [] :: ((chT k).spotsS.map (fun sp => 0 :: sp) ++ [])
    rw [List.append_nil]
    exact List.mem_cons_of_mem _ (List.mem_map.mpr ⟨_, ch_spot k, by rw [List.replicate_succ]⟩)
theorem ch_fol : ∀ (j k p : Nat), j ≤ k → fol (p, chT k) (List.replicate j 0) = some (p + j, chT (k - j))
  | 0, k, p, _ => by rw [Nat.add_zero, Nat.sub_zero]; rfl
  | j + 1, k, p, h => by
    cases k with
    | zero => omega
    | succ k =>
      show (stepT (p, chT (k + 1)) 0).bind (fun y => fol y (List.replicate j 0)) = _
      have : stepT (p, chT (k + 1)) 0 = some (p + 1, chT k) := rfl
      rw [this]
      show fol (p + 1, chT k) (List.replicate j 0) = _
      rw [ch_fol j k (p + 1) (by omega), show p + 1 + j = p + (j + 1) by omega, show k + 1 - (j + 1) = k - j by omega]
theorem ch_tiny (k : Nat) : Tiny (chT k).flat ∧ Lay (chT k).flat := by
  have hu := tiny_name (show nameS "u" = true by decide +kernel)
  have hA := tiny_lok (show lokB "A" = true by decide +kernel)
  have hm : ∀ z ∈ (chT k).flat, z = "u" ∨ z = "A" := fun z hz => by
    rw [ch_flat] at hz
    rcases List.mem_append.mp hz with m | m
    · exact .inl (List.eq_of_mem_replicate m)
    · exact .inr (List.mem_singleton.mp m)
  exact ⟨fun z hz => (hm z hz).elim (fun e => by rw [e]; exact hu.1) (fun e => by rw [e]; exact hA.1), fun z hz => (hm z hz).elim (fun e => by rw [e]; exact hu.2) (fun e => by rw [e]; exact hA.2)⟩
theorem ints_rep (n : Nat) : List.replicate n (V.int 0) = intsV (List.replicate n 0) := by
  unfold intsV
  rw [List.map_replicate]
  rfl
def spNo : Sp := fun vs H Q _ => vs = [] ∧ ∀ G, Same H G → Q (.bl true) G
section
variable {P : Program} {w : World} {K : PySem.W.Frag} {mg : Str → Option Value} {base : Heap}
theorem sc__law_deep_right : FnScope ["_law_known", "_law_term", "_law_spot"] [] (defScope s__law_deep_right) := ⟨rfl, rfl, rfl, by decide +kernel, rfl, by decide +kernel, by decide +kernel⟩

set_option maxHeartbeats 1600000 in
theorem ok_deep (Y : Sys K) (bt : Bt mg) (cl_Term : Cls K (tcls K)) (g_Words : mg "Words" = some (.ref (wcls K))) (m_Words : Mk K (wcls K) (He.ma K (wcls K) "__init__")) (p_Words___init__ : PromA (L2.CX P w) P w K mg base 4 (He.ma K (wcls K) "__init__") ["self", "rows"] (spWIni K))
    (m_Term : Mk K (tcls K) (He.ma K (tcls K) "__init__")) (g_Term : mg "Term" = some (.ref (tcls K))) (p_Term1 : PromAK P w K mg base 4 (He.ma K (tcls K) "__init__") ["self", "words", "signs", "most"] (spTIni K) 3 ["most"] (fun vs zs => vs ++ ([] ++ zs)))
    (mm_Term_signs : Meth K (tcls K) "signs" (He.ma K (tcls K) "signs")) (p_Term_signs : PromA CX0 P w K mg base 1 (He.ma K (tcls K) "signs") ["self"] (spTSigns K)) (mm_Term_spots : Meth K (tcls K) "spots" (He.ma K (tcls K) "spots")) (p_Term_spots : PromA CX0 P w K mg base 3 (He.ma K (tcls K) "spots") ["self"] (spSpots K))
    (mm_Term_deep : Meth K (tcls K) "deep" (He.ma K (tcls K) "deep")) (p_Term_deep : PromA CX0 P w K mg base 4 (He.ma K (tcls K) "deep") ["self"] (spDeep K)) (mm_Term_part_at : Meth K (tcls K) "part_at" (He.ma K (tcls K) "part_at")) (p_Term_part_at : PromA CX0 P w K mg base 7 (He.ma K (tcls K) "part_at") ["self", "spot"] (spPartAt K))
    (mm_Term_head_at : Meth K (tcls K) "head_at" (He.ma K (tcls K) "head_at")) (p_Term_head_at : PromA CX0 P w K mg base 4 (He.ma K (tcls K) "head_at") ["self", "spot"] (spHeadAt K)) (D : Def K mg "_law_deep_right" s__law_deep_right) : PromG P w K mg base 9 "_law_deep_right" [] spNo := by
  refine promG_mk D sc__law_deep_right (fun vs H Q E h => ?_) (fun _ _ _ _ _ _ us hl => match us, hl with | [], _ => rfl) (fun f cdv A outer s H vs Q E hgd hr h => ?_)
  · rw [h.1]; rfl
  · obtain ⟨rfl, q⟩ := h
    refine ⟨_, (pss_cons (ps_set (i := 0) sc__law_deep_right.nd rfl (Or.inl rfl) (pe_makeS m_Words p_Words___init__ takes0 (hr.mono (by omega)) rfl g_Words (pa_cons (pe_lst (pa_cons (pe_tup (pa_cons pe_str (pa_cons pe_int pa_nil))) pa_nil)) pa_nil)))
      (pss_cons (ps_set (i := 1) sc__law_deep_right.nd rfl (Or.inl rfl) (pe_makeSK m_Term p_Term1 takes0 (hr.mono (by omega)) rfl g_Term (pa_cons (pv 0) (pa_cons (pe_op op_cat (pe_op op_rep (pe_lst (pa_cons pe_str pa_nil)) pe_int) (pe_lst (pa_cons pe_str pa_nil))) pa_nil)) (pk_cons pe_int pk_nil)))
      (pss_cons (ps_set (i := 2) sc__law_deep_right.nd rfl (Or.inl rfl) (pe_op op_repT (pe_tup (pa_cons pe_int pa_nil)) pe_int))
      (pss_cons (ps_if (pt_cmpR op_ne (pe_callB (id := "repr") (reprK (K := K) Y hgd hr.units) (by rfl) bt.repr_ (by decide +kernel) (pa_cons (pe_lst (pa_cons (pe_pm0 cl_Term mm_Term_deep p_Term_deep (hr.mono (by omega)) (pv 1)) (pa_cons (pe_callB (id := "len") (lenK (K := K)) (by rfl) bt.len_ (by decide +kernel) (pa_cons (pe_pm0 cl_Term mm_Term_spots p_Term_spots (hr.mono (by omega)) (pv 1)) pa_nil)) (pa_cons (pe_pm cl_Term mm_Term_head_at p_Term_head_at (hr.mono (by omega)) (pv 1) (pa_cons (pv 2) pa_nil)) pa_nil)))) pa_nil)) (pe_callB (id := "repr") (reprK (K := K) Y hgd hr.units) (by rfl) bt.repr_ (by decide +kernel) (pa_cons (pe_lst (pa_cons pe_int (pa_cons pe_int (pa_cons pe_str pa_nil)))) pa_nil)) (nomark _)) (pss_one (ps_ret pe_bl)) pss_nil)
      (pss_one (ps_ret (pe_and (pe_cmpR (op_eqDK (K := K) hr.units) (pe_pm0 cl_Term mm_Term_signs p_Term_signs (hr.mono (by omega)) (pe_pm cl_Term mm_Term_part_at p_Term_part_at (hr.mono (by omega)) (pv 1) (pa_cons (pv 2) pa_nil))) (pe_lst (pa_cons pe_str pa_nil)) (nomark _)) (pe_one (pe_cmpR (op_eqDK (K := K) hr.units) (pe_pm0 cl_Term mm_Term_signs p_Term_signs (hr.mono (by omega)) (pe_pm cl_Term mm_Term_part_at p_Term_part_at (hr.mono (by omega)) (pv 1) (pa_cons (pe_slice sl_tupA (pv 2) po_none (po_some pe_int)) pa_nil))) (pe_op op_cat (pe_op op_rep (pe_lst (pa_cons pe_str pa_nil)) pe_int) (pe_lst (pa_cons pe_str pa_nil))) (nomark _)))))))))), ?_⟩
    refine ⟨(by show 2 ≤ sizeLine; decide), fun t1 h1 => ?_⟩
    (generalize hG : L2.upd _ t1 _ = H1; have s1 := same_of hG h1; have e1 := at_of hG; clear hG)
    refine ⟨(by show 1 ≤ sizeLine; decide), fun r1 h2 => ?_⟩
    (generalize hG : L2.upd _ r1 _ = H2; have s2 := same_of hG h2; have e2 := at_of hG; clear hG)
    have dr : Dt K H2 (.ref r1) (.list (rowsU.map rowPy)) := .lst (.inl (.inl e2)) (.cons (.tup (.inl (.inl (s2 _ _ e1))) (.cons (.str _) (.cons (.int _) .nil))) .nil)
    intro wa dx hwa hdx ne
    refine words_of u_ok hwa hdx ne dr fun G0 sG0 wAt => ?_
    have sH0 := (s1.trans s2).trans sG0
    refine ⟨_, rfl, (by show 1 ≤ sizeLine; decide), fun a1 ha1 => ?_⟩
    (generalize hG : L2.upd _ a1 _ = G1; have sa1 := same_of hG ha1; have ea1 := at_of hG; clear hG)
    refine ⟨a1, _, _, rfl, rfl, ea1, by decide, by decide, by decide, fun a2 ha2 => ?_⟩
    rw [show (List.replicate (200 : Int).toNat [V.str "u"]).flatten = List.replicate 200 (V.str "u") from rep_one _ 200]
    (generalize hG : L2.upd _ a2 _ = G2; have sa2 := same_of hG ha2; have ea2 := at_of hG; clear hG)
    refine ⟨(by show 1 ≤ sizeLine; decide), fun a3 ha3 => ?_⟩
    (generalize hG : L2.upd _ a3 _ = G3; have sa3 := same_of hG ha3; have ea3 := at_of hG; clear hG)
    refine ⟨a2, a3, _, _, rfl, rfl, sa3 _ _ ea2, ea3, by rw [List.length_replicate]; exact sz5 (by decide), fun a4 ha4 => ?_⟩
    rw [show List.replicate 200 (V.str "u") ++ [V.str "A"] = (chT 200).flat.map V.str by rw [ch_flat, List.map_append, List.map_replicate]; rfl]
    (generalize hG : L2.upd _ a4 _ = G4; have sa4 := same_of hG ha4; have ea4 := at_of hG; clear hG)
    have s04 := ((sa1.trans sa2).trans sa3).trans sa4
    have tn := ch_tiny 200
    refine ⟨rfl, rfl, fun tm dxt htm hdxt net => ?_⟩
    refine tini_of (t := chT 200) htm hdxt net (wAt.same s04) ⟨u_ok.lo, u_ok.hi⟩ (.lst (.inl (.inl ea4)) (dt_strs _)) rfl (ch_wf 200) (by rw [ch_size]; decide) (by decide) tn.1.short fun G5 s5 ta => ?_
    have sH5 := (sH0.trans s04).trans s5
    have ok5 : TermOk K G5 tm wa rowsU (chT 200) := ⟨ta, wAt.same (s04.trans s5), ⟨u_ok.lo, u_ok.hi⟩, ch_wf 200, by rw [ch_size]; decide, tn.1.short⟩
    refine ⟨(by show 1 ≤ sizeLine; decide), fun b1 hb1 => ?_⟩
    (generalize hG : L2.upd _ b1 _ = G6; have sb1 := same_of hG hb1; have eb1 := at_of hG; clear hG)
    refine ⟨b1, _, _, rfl, rfl, .inl (.inl eb1), by simp, by decide, by decide, (by show 1 ≤ 1000; decide), fun qa hqa => ?_⟩
    rw [show (List.replicate (200 : Int).toNat [V.int 0]).flatten = intsV (List.replicate 200 0) from (rep_one _ 200).trans (ints_rep 200)]
    (generalize hG : L2.upd _ qa _ = G7; have sqa := same_of hG hqa; have eqa := at_of hG; clear hG)
    have s57 := sb1.trans sqa
    have ok7 := ok5.same s57
    obtain ⟨dxx, sa, ea, u1, u2, u3⟩ := id ok7.at_
    have hf : fol (0, chT 200) (List.replicate 200 0) = some (200, chT 0) := by
      have := ch_fol 200 200 0 (Nat.le_refl _)
      rw [Nat.zero_add, Nat.sub_self] at this
      exact this
    have hf2 : fol (0, chT 200) (List.replicate 160 0) = some (160, chT 40) := by
      have := ch_fol 160 200 0 (by decide)
      rw [Nat.zero_add] at this
      exact this
    refine ⟨_, rfl, tm, dxx, _, rfl, u1, rfl, tm, wa, _, rfl, ok7.at_, ok7.few, fun B1 m sB hm => ?_⟩
    have em : m = 200 := by
      have h1 := hm.2 200 (List.mem_map.mpr ⟨List.replicate 200 0, by rw [spotsOf_eq]; exact ch_spot 200, List.length_replicate⟩)
      obtain ⟨sp, hsp, e⟩ := List.mem_map.mp hm.1
      rw [spotsOf_eq] at hsp
      have h2 := Tm.spotsS_deep _ sp hsp
      rw [ch_deep] at h2
      omega
    subst em
    refine ⟨_, rfl, tm, dxx, _, rfl, sB _ _ u1, rfl, tm, wa, _, rfl, ok7.at_.same sB, ok7.few, fun B2 l ys sB2 hl el hys => ?_⟩
    have lys : ys.length = 201 := by rw [hys.length, List.length_map, spotsOf_len, ch_size]
    refine ⟨_, _, rfl, .inl ⟨_, .inl (.inl el), rfl⟩, ?_⟩
    rw [lys]
    have s7B := sB.trans sB2
    refine ⟨_, rfl, tm, dxx, _, rfl, s7B _ _ u1, rfl, _, rfl, tm, wa, qa, rowsU, _, _, 200, "A", .nil, rfl, ok7.same s7B, .inl (.inl (s7B _ _ eqa)), by rw [List.length_replicate]; decide, hf, fun B3 sB3 => ?_⟩
    refine ⟨(by show 3 ≤ sizeLine; decide), fun T1 hT1 => ?_⟩
    (generalize hG : L2.upd _ T1 _ = B4; have sT1 := same_of hG hT1; have eT1 := at_of hG; clear hG)
    have sh : Shows (.list [.int ((200 : Nat) : Int), .int ((201 : Nat) : Int), .str "A"]) := ⟨by decide +kernel, by decide +kernel, by decide +kernel⟩
    refine ⟨.ref T1, .list [.int ((200 : Nat) : Int), .int ((201 : Nat) : Int), .str "A"], rfl, .lst (.inl (.inl eT1)) (.cons (.int _) (.cons (.int _) (.cons (.str _) .nil))), sh.ok, sh.deep, sh.size, ?_⟩
    refine ⟨(by show 3 ≤ sizeLine; decide), fun T2 hT2 => ?_⟩
    (generalize hG : L2.upd _ T2 _ = B5; have sT2 := same_of hG hT2; have eT2 := at_of hG; clear hG)
    refine ⟨.ref T2, .list [.int ((200 : Nat) : Int), .int ((201 : Nat) : Int), .str "A"], rfl, .lst (.inl (.inl eT2)) (.cons (.int _) (.cons (.int _) (.cons (.str _) .nil))), sh.ok, sh.deep, sh.size, rfl, _, rfl, iteF' (by simp) ?_⟩
    have s7B5 := (s7B.trans sB3).trans (sT1.trans sT2)
    have lay0 := strs_lay (ch_tiny 0).2
    have lay40 := strs_lay (ch_tiny 40).2
    refine ⟨_, rfl, tm, dxx, _, rfl, s7B5 _ _ u1, rfl, _, rfl, tm, wa, qa, rowsU, _, _, _, rfl, ok7.same s7B5, .inl (.inl (s7B5 _ _ eqa)), by rw [List.length_replicate]; decide, hf, fun C1 bp sC1 hbp tap => ?_⟩
    obtain ⟨dx3, sa3', ea3', w1, w2, w3⟩ := id tap
    refine ⟨bp, dx3, _, rfl, w1, rfl, bp, wa, _, _, rfl, tap, fun l3 hl3 => ?_⟩
    (generalize hG : L2.upd _ l3 _ = C2; have sl3 := same_of hG hl3; have el3 := at_of hG; clear hG)
    refine ⟨(by show 1 ≤ sizeLine; decide), fun l4 hl4 => ?_⟩
    (generalize hG : L2.upd _ l4 _ = C3; have sl4 := same_of hG hl4; have el4 := at_of hG; clear hG)
    refine ⟨.list ((chT 0).flat.map .str), .list ((chT 0).flat.map .str), Dp.lst (.inl (.inl (sl4 _ _ el3))) ((dt_strs _).dp (lay_all fun e he => (lay0 e he).1)), Dp.lst (.inl (.inl el4)) ((dt_strs _).dp (lay_all fun e he => (lay0 e he).1)), shaped_list lay0, shaped_list lay0, _, rfl, ?_⟩
    rw [show PyData.eqv (.list ((chT 0).flat.map .str)) (.list ((chT 0).flat.map .str)) = true by unfold PyData.eqv; exact eqv_strs _]
    have s7C3 := (s7B5.trans sC1).trans (sl3.trans sl4)
    refine iteT ⟨_, rfl, tm, dxx, _, rfl, s7C3 _ _ u1, rfl, _, rfl, _, rfl, qa, _, rfl, .inl (.inl (s7C3 _ _ eqa)), fun hw => ?_, fun _ q2 hq2 => ?_⟩
    · exfalso
      have h2 := hw.2
      have l200 : (intsV (List.replicate 200 0)).length = 200 := by unfold intsV; rw [List.length_map, List.length_replicate]
      rw [l200] at h2
      exact absurd h2 (by decide)
    · have ec : cutV (intsV (List.replicate 200 0)) none (some 160) = intsV (List.replicate 160 0) := by
        have h0 := cut_at (xs := intsV (List.replicate 200 0)) (p := 0) (e := 160) (Nat.zero_le _) (by unfold intsV; rw [List.length_map, List.length_replicate]; decide)
        have e1 : cutV (intsV (List.replicate 200 0)) none (some 160) = cutV (intsV (List.replicate 200 0)) (some ((0 : Nat) : Int)) (some ((160 : Nat) : Int)) := rfl
        rw [e1, h0, List.drop_zero]
        unfold intsV
        rw [← List.map_take, List.take_replicate]
        rfl
      rw [ec]
      (generalize hG : L2.upd _ q2 _ = C4; have sq2 := same_of hG hq2; have eq2 := at_of hG; clear hG)
      have s7C4 := s7C3.trans sq2
      refine ⟨tm, wa, q2, rowsU, _, _, _, rfl, ok7.same s7C4, .inl (.inl eq2), by rw [List.length_replicate]; decide, hf2, fun C5 bq sC5 hbq taq => ?_⟩
      obtain ⟨dx4, sa4', ea4', v1, v2, v3⟩ := id taq
      refine ⟨bq, dx4, _, rfl, v1, rfl, bq, wa, _, _, rfl, taq, fun l5 hl5 => ?_⟩
      (generalize hG : L2.upd _ l5 _ = C6; have sl5 := same_of hG hl5; have el5 := at_of hG; clear hG)
      refine ⟨(by show 1 ≤ sizeLine; decide), fun l6 hl6 => ?_⟩
      (generalize hG : L2.upd _ l6 _ = C7; have sl6 := same_of hG hl6; have el6 := at_of hG; clear hG)
      refine ⟨l6, _, _, rfl, rfl, el6, by decide, by decide, by decide, fun l7 hl7 => ?_⟩
      rw [show (List.replicate (40 : Int).toNat [V.str "u"]).flatten = List.replicate 40 (V.str "u") from rep_one _ 40]
      (generalize hG : L2.upd _ l7 _ = C8; have sl7 := same_of hG hl7; have el7 := at_of hG; clear hG)
      refine ⟨(by show 1 ≤ sizeLine; decide), fun l8 hl8 => ?_⟩
      (generalize hG : L2.upd _ l8 _ = C9; have sl8 := same_of hG hl8; have el8 := at_of hG; clear hG)
      refine ⟨l7, l8, _, _, rfl, rfl, sl8 _ _ el7, el8, by rw [List.length_replicate]; exact sz5 (by decide), fun l9 hl9 => ?_⟩
      rw [show List.replicate 40 (V.str "u") ++ [V.str "A"] = (chT 40).flat.map V.str by rw [ch_flat, List.map_append, List.map_replicate]; rfl]
      (generalize hG : L2.upd _ l9 _ = C10; have sl9 := same_of hG hl9; have el9 := at_of hG; clear hG)
      have s6 := ((sl6.trans sl7).trans sl8).trans sl9
      refine ⟨.list ((chT 40).flat.map .str), .list ((chT 40).flat.map .str), Dp.lst (.inl (.inl (s6 _ _ el5))) ((dt_strs _).dp (lay_all fun e he => (lay40 e he).1)), Dp.lst (.inl (.inl el9)) ((dt_strs _).dp (lay_all fun e he => (lay40 e he).1)), shaped_list lay40, shaped_list lay40, ?_⟩
      rw [show PyData.eqv (.list ((chT 40).flat.map .str)) (.list ((chT 40).flat.map .str)) = true by unfold PyData.eqv; exact eqv_strs _]
      exact q C10 ((sH5.trans s57).trans (((s7C4.trans sC5).trans sl5).trans s6))
end

end TS

namespace TS
open PySem PySem.Spec PyProof.Rows L2 TL

/-! ### many letters -/
def sufs : List Str := ["", "1", "20", "99"]
def ltK (k : Nat) : Str := ⟨#[65 + k % 26]⟩ ++ sufs.getD (k / 26) ""
def combT : Nat → Tm
  | 0 => .mk (ltK 0) .nil
  | n + 1 => .mk "f" (.cons (combT n) (.cons (.mk (ltK (n + 1)) .nil) .nil))
def rowsF : List (Str × Int) := [("f", 2)]
theorem f_ok : RowsOk rowsF := by
  refine ⟨by decide, by decide, ?_, by decide +kernel, ?_, ?_⟩ <;> intro r hr <;> rw [List.mem_singleton.mp hr] <;> decide +kernel
theorem comb_size : ∀ n : Nat, (combT n).size = 2 * n + 1
  | 0 => rfl
  | n + 1 => by show (combT n).size + (1 + 0) + 1 = _; rw [comb_size n]; omega
theorem comb_flat : ∀ n : Nat, (combT n).flat = List.replicate n ("f" : Str) ++ (List.range (n + 1)).map ltK
  | 0 => rfl
  | n + 1 => by
    show ("f" : Str) :: ((combT n).flat ++ ([ltK (n + 1)] ++ [])) = _
    rw [comb_flat n, List.range_succ (n := n + 1), List.map_append, List.append_nil, List.append_assoc, List.replicate_succ]
    rfl
theorem lt_ok : ∀ i ∈ List.range 104, (lokB (ltK i) && decide (plS rowsF (ltK i) = some 0)) = true := by decide +kernel
theorem comb_wf : ∀ n : Nat, n < 104 → (combT n).wf (plS rowsF)
  | 0, _ => ⟨of_decide_eq_true (Bool.and_eq_true_iff.mp (lt_ok 0 (by decide))).2, by simp [Fs.wf]⟩
  | n + 1, h => ⟨(by decide +kernel : plS rowsF "f" = some 2), comb_wf n (by omega), ⟨of_decide_eq_true (Bool.and_eq_true_iff.mp (lt_ok (n + 1) (List.mem_range.mpr h))).2, by simp [Fs.wf]⟩, by simp [Fs.wf]⟩
theorem comb_tiny (n : Nat) (h : n < 104) : Tiny (combT n).flat := fun z hz => by
  rw [comb_flat] at hz
  rcases List.mem_append.mp hz with m | m
  · rw [List.eq_of_mem_replicate m]
    exact (tiny_name (show nameS "f" = true by decide +kernel)).1
  · obtain ⟨i, hi, rfl⟩ := List.mem_map.mp m
    have := List.mem_range.mp hi
    exact (tiny_lok (Bool.and_eq_true_iff.mp (lt_ok i (List.mem_range.mpr (by omega)))).1).1
theorem lts_lay (n : Nat) (h : n ≤ 104) : Lay ((List.range n).map ltK) := fun z hz => by
  obtain ⟨i, hi, rfl⟩ := List.mem_map.mp hz
  have := List.mem_range.mp hi
  exact (tiny_lok (Bool.and_eq_true_iff.mp (lt_ok i (List.mem_range.mpr (by omega)))).1).2
theorem comb_lets : letsOf (combT 103).flat = (List.range 104).map ltK ∧ letsOf (combT 100).flat = (List.range 101).map ltK := by
  rw [comb_flat, comb_flat]
  decide +kernel
section
variable {P : Program} {w : World} {K : PySem.W.Frag} {mg : Str → Option Value} {base : Heap}
theorem sc__law_many_letters_right : FnScope ["_law_every", "_law_known", "_law_letters_here", "_law_term", "_law_k"] [] (defScope s__law_many_letters_right) := ⟨rfl, rfl, rfl, by decide +kernel, rfl, by decide +kernel, by decide +kernel⟩

set_option maxHeartbeats 1600000 in
theorem ok_many (bt : Bt mg) (cl_Term : Cls K (tcls K)) (g_Words : mg "Words" = some (.ref (wcls K))) (m_Words : Mk K (wcls K) (He.ma K (wcls K) "__init__")) (p_Words___init__ : PromA (L2.CX P w) P w K mg base 4 (He.ma K (wcls K) "__init__") ["self", "rows"] (spWIni K))
    (m_Term : Mk K (tcls K) (He.ma K (tcls K) "__init__")) (g_Term : mg "Term" = some (.ref (tcls K))) (p_Term1 : PromAK P w K mg base 4 (He.ma K (tcls K) "__init__") ["self", "words", "signs", "most"] (spTIni K) 3 ["most"] (fun vs zs => vs ++ ([] ++ zs)))
    (mm_Term_letters : Meth K (tcls K) "letters" (He.ma K (tcls K) "letters")) (p_Term_letters : PromA CX0 P w K mg base 3 (He.ma K (tcls K) "letters") ["self"] (spLets K)) (mm_Term_part_at : Meth K (tcls K) "part_at" (He.ma K (tcls K) "part_at")) (p_Term_part_at : PromA CX0 P w K mg base 7 (He.ma K (tcls K) "part_at") ["self", "spot"] (spPartAt K))
    (ml_Term : Meth K (tcls K) "__len__" (He.ma K (tcls K) "__len__")) (p_Term___len__ : PromA CX0 P w K mg base 1 (He.ma K (tcls K) "__len__") ["self"] (spTLen K)) (D : Def K mg "_law_many_letters_right" s__law_many_letters_right) : PromG P w K mg base 9 "_law_many_letters_right" [] spNo := by
  refine promG_mk D sc__law_many_letters_right (fun vs H Q E h => ?_) (fun _ _ _ _ _ _ us hl => match us, hl with | [], _ => rfl) (fun f cdv A outer s H vs Q E hgd hr h => ?_)
  · rw [h.1]; rfl
  · obtain ⟨rfl, q⟩ := h
    refine ⟨_, (pss_cons (ps_set (i := 0) sc__law_many_letters_right.nd rfl (Or.inr rfl) pe_str)
      (pss_cons (ps_par (i := 1) (j := 2) (by rfl) sc__law_many_letters_right.nd rfl rfl (by decide) rfl rfl (pa_cons (pe_makeS m_Words p_Words___init__ takes0 (hr.mono (by omega)) rfl g_Words (pa_cons (pe_lst (pa_cons (pe_tup (pa_cons pe_str (pa_cons pe_int pa_nil))) pa_nil)) pa_nil)) (pa_cons (pe_lc (own := [("_law_k", 4)]) (g := gName 4) rfl sc__law_many_letters_right.nd (pi_range1 rfl bt.range_ (pa_cons pe_int pa_nil)) (blkOk_by (N := ["_law_every", "_law_known", "_law_letters_here", "_law_term", "_law_k"]) (sc := defScope s__law_many_letters_right) (by decide +kernel)) (fun _ _ _ _ _ => (pg_name (i := 4) sc__law_many_letters_right.nd rfl (Or.inl rfl))) (fun _ _ _ _ _ => pts_nil) (fun _ _ _ _ _ => (pe_op op_add_str (pe_ix ix_str (pv 0) (pe_op op_mod (pv 4) pe_int) (fun _ _ => rfl)) (pe_ix (ix_listK (K := K)) (pe_lst (pa_cons pe_str (pa_cons pe_str (pa_cons pe_str (pa_cons pe_str pa_nil))))) (pe_op op_fdivW (pv 4) pe_int) (fun _ _ => rfl))))) pa_nil)) (by rfl))
      (pss_cons (ps_set (i := 3) sc__law_many_letters_right.nd rfl (Or.inl rfl) (pe_makeSK m_Term p_Term1 takes0 (hr.mono (by omega)) rfl g_Term (pa_cons (pv 1) (pa_cons (pe_op op_cat (pe_op op_rep (pe_lst (pa_cons pe_str pa_nil)) pe_int) (pv 2)) pa_nil)) (pk_cons pe_int pk_nil)))
      (pss_one (ps_ret (pe_and (pe_cmpR (op_eqDK (K := K) hr.units) (pe_pm0 cl_Term mm_Term_letters p_Term_letters (hr.mono (by omega)) (pv 3)) (pv 2) (nomark _)) (pe_and (pe_cmpR op_eq (pe_callB (id := "len") (len_own ml_Term p_Term___len__ (hr.mono (by omega))) (by rfl) bt.len_ (by decide +kernel) (pa_cons (pv 3) pa_nil)) pe_int (nomark _)) (pe_one (pe_cmpR (op_eqDK (K := K) hr.units) (pe_pm0 cl_Term mm_Term_letters p_Term_letters (hr.mono (by omega)) (pe_pm cl_Term mm_Term_part_at p_Term_part_at (hr.mono (by omega)) (pv 3) (pa_cons (pe_op op_repT (pe_tup (pa_cons pe_int pa_nil)) pe_int) pa_nil))) (pe_slice (sl_listK (K := K)) (pv 2) po_none (po_some pe_int)) (nomark _)))))))))), ?_⟩
    refine ⟨(by show 2 ≤ sizeLine; decide), fun t1 h1 => ?_⟩
    (generalize hG : L2.upd _ t1 _ = H1; have s1 := same_of hG h1; have e1 := at_of hG; clear hG)
    refine ⟨(by show 1 ≤ sizeLine; decide), fun r1 h2 => ?_⟩
    (generalize hG : L2.upd _ r1 _ = H2; have s2 := same_of hG h2; have e2 := at_of hG; clear hG)
    have dr : Dt K H2 (.ref r1) (.list (rowsF.map rowPy)) := .lst (.inl (.inl e2)) (.cons (.tup (.inl (.inl (s2 _ _ e1))) (.cons (.str _) (.cons (.int _) .nil))) .nil)
    intro wa dx hwa hdx ne
    refine words_of f_ok hwa hdx ne dr fun G0 sG0 wAt => ?_
    have sH0 := (s1.trans s2).trans sG0
    refine ⟨_, rfl, by decide, by decide, fun R hR => lc_sameF walk_range (fun _ _ => trivial) (by decide) hR (fun i => .str (ltK i)) (fun _ => rfl) ?_ ?_⟩
    · intro i G1 C hi sG1 k
      have hi' : i < 104 := hi
      have em : (0 + (i : Int)) % 26 = ((i % 26 : Nat) : Int) := by omega
      have ed : (0 + (i : Int)) / 26 = ((i / 26 : Nat) : Int) := by omega
      have hc : atI ("ABCDEFGHIJKLMNOPQRSTUVWXYZ" : Str).cps.toList ((0 + (i : Int)) % 26) = some (65 + i % 26) := by
        rw [em]
        exact atI_nat ((by decide +kernel : ∀ j < 26, (("ABCDEFGHIJKLMNOPQRSTUVWXYZ" : Str).cps.toList)[j]? = some (65 + j)) (i % 26) (Nat.mod_lt _ (by decide)))
      refine ⟨_, rfl, _, rfl, _, _, rfl, rfl, (by show (0 : Int) < 26; decide), _, _, _, rfl, rfl, by decide +kernel, hc, ?_⟩
      refine ⟨(by show 4 ≤ sizeLine; decide), fun L hL => ?_⟩
      (generalize hG : L2.upd _ L _ = G2; have sL := same_of hG hL; have eL := at_of hG; clear hG)
      have hj : i / 26 < 4 := by omega
      have hv : atI [V.str "", V.str "1", V.str "20", V.str "99"] ((0 + (i : Int)) / 26) = some (.str (sufs.getD (i / 26) "")) := by
        rw [ed]
        generalize i / 26 = j at hj
        have : j = 0 ∨ j = 1 ∨ j = 2 ∨ j = 3 := by omega
        rcases this with rfl | rfl | rfl | rfl <;> exact atI_nat rfl
      have hl : (sufs.getD (i / 26) "").length ≤ 1000 := (by decide +kernel : ∀ j < 4, (sufs.getD j "").length ≤ 1000) _ hj
      exact ⟨_, rfl, _, _, rfl, rfl, wide_div (b := 10) (by decide) (by decide) (by decide) (by decide), L, _, _, _, rfl, rfl, .inl (.inl eL), hv, _, _, rfl, rfl, one_len hl, k _ sL⟩
    · intro G1 sG1 eR
      replace eR : G1 R = some (.lst (((List.range 104).map ltK).map V.str)) := by rw [eR, List.map_map]; rfl
      refine ⟨_, _, rfl, ?_⟩
      refine ⟨_, rfl, (by show 1 ≤ sizeLine; decide), fun a1 ha1 => ?_⟩
      (generalize hG : L2.upd _ a1 _ = G2; have sa1 := same_of hG ha1; have ea1 := at_of hG; clear hG)
      refine ⟨a1, _, _, rfl, rfl, ea1, by decide, by decide, by decide, fun a2 ha2 => ?_⟩
      rw [show (List.replicate (103 : Int).toNat [V.str "f"]).flatten = List.replicate 103 (V.str "f") from rep_one _ 103]
      (generalize hG : L2.upd _ a2 _ = G3; have sa2 := same_of hG ha2; have ea2 := at_of hG; clear hG)
      refine ⟨_, rfl, a2, R, _, _, rfl, rfl, ea2, (sa1.trans sa2) _ _ eR, by rw [List.length_replicate, List.length_map, List.length_map, List.length_range]; exact sz5 (by decide), fun a4 ha4 => ?_⟩
      rw [show List.replicate 103 (V.str "f") ++ ((List.range 104).map ltK).map V.str = (combT 103).flat.map V.str by rw [comb_flat, List.map_append, List.map_replicate]]
      (generalize hG : L2.upd _ a4 _ = G4; have sa4 := same_of hG ha4; have ea4 := at_of hG; clear hG)
      have s14 := (sa1.trans sa2).trans sa4
      have s04 := sG1.trans s14
      have tn := comb_tiny 103 (by decide)
      refine ⟨rfl, rfl, fun tm dxt htm hdxt net => ?_⟩
      refine tini_of (t := combT 103) htm hdxt net (wAt.same s04) ⟨f_ok.lo, f_ok.hi⟩ (.lst (.inl (.inl ea4)) (dt_strs _)) rfl (comb_wf 103 (by decide)) (by rw [comb_size]; decide) (by decide) tn.short fun G5 s5 ta => ?_
      have ok5 : TermOk K G5 tm wa rowsF (combT 103) := ⟨ta, wAt.same (s04.trans s5), ⟨f_ok.lo, f_ok.hi⟩, comb_wf 103 (by decide), by rw [comb_size]; decide, tn.short⟩
      obtain ⟨dxx, sa, ea, u1, u2, u3⟩ := id ok5.at_
      have eR5 := (s14.trans s5) _ _ eR
      refine ⟨_, rfl, tm, dxx, _, rfl, u1, rfl, tm, wa, _, rfl, ta, ok5.few, tn.short, fun B1 l1 sB1 hl1 el1 => ?_⟩
      rw [comb_lets.1] at el1
      have lay := strs_lay (lts_lay 104 (by decide))
      refine ⟨_, rfl, .list (((List.range 104).map ltK).map .str), .list (((List.range 104).map ltK).map .str), Dp.lst (.inl (.inl el1)) ((dt_strs _).dp (lay_all fun e he => (lay e he).1)), Dp.lst (.inl (.inl (sB1 _ _ eR5))) ((dt_strs _).dp (lay_all fun e he => (lay e he).1)), shaped_list lay, shaped_list lay, _, rfl, ?_⟩
      rw [show PyData.eqv (.list (((List.range 104).map ltK).map .str)) (.list (((List.range 104).map ltK).map .str)) = true by unfold PyData.eqv; exact eqv_strs _]
      refine iteT ⟨_, rfl, tm, dxx, _, rfl, sB1 _ _ u1, tm, wa, _, rfl, ta.same sB1, 207, by rw [comb_size], by decide, rfl, _, rfl, iteT' (by decide) ?_⟩
      refine ⟨_, rfl, tm, dxx, _, rfl, sB1 _ _ u1, rfl, (by show 1 ≤ sizeLine; decide), fun b1 hb1 => ?_⟩
      (generalize hG : L2.upd _ b1 _ = B2; have sb1 := same_of hG hb1; have eb1 := at_of hG; clear hG)
      refine ⟨b1, _, _, rfl, rfl, .inl (.inl eb1), by simp, by decide, by decide, (by show 1 ≤ 1000; decide), fun qa hqa => ?_⟩
      rw [show (List.replicate (3 : Int).toNat [V.int 0]).flatten = intsV (List.replicate 3 0) from (rep_one _ 3).trans (ints_rep 3)]
      (generalize hG : L2.upd _ qa _ = B3; have sqa := same_of hG hqa; have eqa := at_of hG; clear hG)
      have s5B := (sB1.trans sb1).trans sqa
      refine ⟨tm, wa, qa, rowsF, _, _, (3, combT 100), rfl, ok5.same s5B, .inl (.inl eqa), by decide, rfl, fun C1 bp sC1 hbp tap => ?_⟩
      obtain ⟨dx3, sa3, ea3, w1, w2, w3⟩ := id tap
      refine ⟨bp, dx3, _, rfl, w1, rfl, bp, wa, _, rfl, tap, (by show (combT 100).size ≤ 9999; rw [comb_size]; decide), (comb_tiny 100 (by decide)).short, fun C2 l2 sC2 hl2 el2 => ?_⟩
      replace el2 : C2 l2 = some (.lst ((letsOf (combT 100).flat).map V.str)) := el2
      rw [comb_lets.2] at el2
      have eRC := (s5B.trans (sC1.trans sC2)) _ _ eR5
      refine ⟨_, rfl, _, rfl, R, _, rfl, .inl (.inl eRC), fun l3 hl3 => ?_⟩
      have ec : cutV (((List.range 104).map ltK).map V.str) none (some 101) = ((List.range 101).map ltK).map V.str := by
        have h0 := cut_at (xs := ((List.range 104).map ltK).map V.str) (p := 0) (e := 101) (Nat.zero_le _) (by rw [List.length_map, List.length_map, List.length_range]; decide)
        have e1 : cutV (((List.range 104).map ltK).map V.str) none (some 101) = cutV (((List.range 104).map ltK).map V.str) (some ((0 : Nat) : Int)) (some ((101 : Nat) : Int)) := rfl
        rw [e1, h0, List.drop_zero, ← List.map_take, ← List.map_take, List.take_range]
        rfl
      rw [ec]
      (generalize hG : L2.upd _ l3 _ = C3; have sl3 := same_of hG hl3; have el3 := at_of hG; clear hG)
      have lay2 := strs_lay (lts_lay 101 (by decide))
      refine ⟨.list (((List.range 101).map ltK).map .str), .list (((List.range 101).map ltK).map .str), Dp.lst (.inl (.inl (sl3 _ _ el2))) ((dt_strs _).dp (lay_all fun e he => (lay2 e he).1)), Dp.lst (.inl (.inl el3)) ((dt_strs _).dp (lay_all fun e he => (lay2 e he).1)), shaped_list lay2, shaped_list lay2, ?_⟩
      rw [show PyData.eqv (.list (((List.range 101).map ltK).map .str)) (.list (((List.range 101).map ltK).map .str)) = true by unfold PyData.eqv; exact eqv_strs _]
      exact q C3 (((sH0.trans s04).trans s5).trans ((s5B.trans (sC1.trans sC2)).trans sl3))
end

end TS

namespace TS
open PySem PySem.Spec PyProof.Rows L2 TL

/-! ### the law -/
def spLaw (K : PySem.W.Frag) : Sp := fun vs H Q _ => ∃ (a : Addr) (ns : List Int), vs = [.ref a] ∧ SqL K H a (ns.map V.int) ∧ ns.length ≤ 63 ∧ ∀ H', Q (.bl true) H'
theorem signs_tree {rows : List (Str × Int)} {ls zs : List Str} {n : Nat} (ro : RowsOk rows) (hl : LtrsOk ls) (h : SignsOk rows ls n zs) (hn : n ≤ 201) :
    ∃ t : Tm, t.flat = zs ∧ t.wf (plS rows) ∧ t.size ≤ n ∧ Tiny t.flat ∧ Lay t.flat ∧ Fit t ∧ t.deep < 202 := by
  obtain ⟨h1, h2, h3, h4⟩ := h
  obtain ⟨r, e1, e2, e3⟩ := parse zs 1 h4
  obtain ⟨t, rfl⟩ := Fs.one e3
  have ef : t.flat = zs := by
    rw [← e1]
    show t.flat = t.flat ++ []
    rw [List.append_nil]
  have el : t.size = zs.length := by rw [← ef, Tm.flat_len]
  have ds := t.deep_size
  have both : ∀ z ∈ zs, Sm 0 8 (.str z) ∧ (PyData.str z).canLay0 = true := fun z hz => by
    rcases h3 z hz with m | m
    · obtain ⟨r, hr, rfl⟩ := List.mem_map.mp m
      exact tiny_name (ro.names r hr)
    · exact tiny_lok (hl.2 z m)
  refine ⟨t, ef, e2.1, by omega, fun z hz => (both z (by rw [← ef]; exact hz)).1, fun z hz => (both z (by rw [← ef]; exact hz)).2, ⟨by omega, ?_⟩, by omega⟩
  exact Nat.le_trans (Nat.mul_le_mul (show t.size ≤ 201 by omega) (show 4 * t.deep + 30 ≤ 830 by omega)) (by decide)
/-- a term stays where a list is changed -/
theorem TmAt.put {K : PySem.W.Frag} {G : Hp} {b a wa : Addr} {l : List V} {o : HO} {t : Tm} (hb : G b = some (.lst l)) (h : TmAt K G a wa t) : TmAt K (L2.upd G b o) a wa t := (TmAt.hide hb h).same fun x y e => by
  have : x ≠ b := fun z => by rw [z, hide_self] at e; cases e
  rw [upd_ne this]
  exact hide_same _ _ e
theorem ix_0 {n : Nat} (h : 0 < n) : L2.ixN n 0 = some 0 := by
  unfold L2.ixN
  rw [if_pos (by omega), if_pos (by omega)]
  rfl
section
variable {P : Program} {w : World} {K : PySem.W.Frag} {mg : Str → Option Value} {base : Heap}
theorem sc_law : FnScope ["_law_script", "_law_k", "_law_box_here", "_law_rows_here", "_law_known", "_law_letters_here", "_law_upto", "_law_marks", "_law_handed", "_law_term", "_law_small", "_law_other"] ["_law_script"] (defScope s_law) := ⟨rfl, rfl, rfl, by decide +kernel, rfl, by decide +kernel, by decide +kernel⟩

set_option maxHeartbeats 1600000 in
theorem ok_law (bt : Bt mg) (p__law_cell : Prom P w K mg base 1 "_law_cell" ["_law_script", "_law_k"] (spCell K)) (p__law_box : Prom P w K mg base 1 "_law_box" ["_law_cell_here"] spBag) (p__law_take : Prom P w K mg base 1 "_law_take" ["_law_box_here", "_law_many"] spTake)
    (p__law_rows : Prom P w K mg base 3 "_law_rows" ["_law_box_here"] (spDRows K)) (p__law_letters : Prom P w K mg base 2 "_law_letters" ["_law_box_here"] (spLtrs K)) (p__law_signs : Prom P w K mg base 2 "_law_signs" ["_law_box_here", "_law_rows_here", "_law_letters_here", "_law_upto"] (spSigns K))
    (g_Words : mg "Words" = some (.ref (wcls K))) (m_Words : Mk K (wcls K) (He.ma K (wcls K) "__init__")) (p_Words___init__ : PromA (L2.CX P w) P w K mg base 4 (He.ma K (wcls K) "__init__") ["self", "rows"] (spWIni K))
    (m_Term : Mk K (tcls K) (He.ma K (tcls K) "__init__")) (g_Term : mg "Term" = some (.ref (tcls K))) (p_Term0 : PromAK P w K mg base 4 (He.ma K (tcls K) "__init__") ["self", "words", "signs", "most"] (spTIni K) 3 [] (fun vs zs => vs ++ ([V.int 100] ++ zs)))
    (p_Term1 : PromAK P w K mg base 4 (He.ma K (tcls K) "__init__") ["self", "words", "signs", "most"] (spTIni K) 3 ["most"] (fun vs zs => vs ++ ([] ++ zs))) (p_TermA : PromAK P w K mg base 4 (He.ma K (tcls K) "__init__") ["self", "words", "signs", "most"] (spTIni K) 1 ["most", "signs", "words"] (fun vs zs => vs ++ ([] ++ zs.reverse)))
    (p__law_told_right : PromG P w K mg base 214 "_law_told_right" ["_law_term", "_law_known", "_law_rows_here", "_law_marks"] (spTR K 202)) (p__law_right : PromG P w K mg base 215 "_law_right" ["_law_box_here", "_law_known", "_law_rows_here", "_law_marks", "_law_term"] (spR7 K 202)) (p__law_great_right : PromG P w K mg base 215 "_law_great_right" ["_law_known", "_law_rows_here"] (spGreat K))
    (p__law_deep_right : PromG P w K mg base 9 "_law_deep_right" [] spNo) (p__law_many_letters_right : PromG P w K mg base 9 "_law_many_letters_right" [] spNo)
    {fL : Addr} {fdL : FuncData} (FL : FunD K "law" "law" (defArgs s_law) (defBody s_law) (defScope s_law) [] [] fL fdL) : FnG P w K mg base CX0 216 fL fdL ["_law_script"] (spLaw K) := by
  refine fnG_mk FL sc_law (fun vs H Q E h => ?_) (fun f cdv A outer s H vs Q E hgd hr h => ?_)
  · obtain ⟨a, ns, rfl, _⟩ := h
    rfl
  · obtain ⟨a, ns, rfl, hS, hl, q⟩ := h
    refine ⟨_, (pss_cons (ps_for PassesOwn.never rfl (pi_range1 rfl bt.range_ (pa_cons (pe_callB (id := "max") (call_max2 rfl) (by rfl) bt.max_ (by decide +kernel) (pa_cons pe_int (pa_cons (pe_callB (id := "min") (call_min2 rfl) (by rfl) bt.min_ (by decide +kernel) (pa_cons pe_int (pa_cons (pe_callB (id := "len") (lenK (K := K)) (by rfl) bt.len_ (by decide +kernel) (pa_cons (pv 0) pa_nil)) pa_nil))) pa_nil))) pa_nil)) (pg_name (i := 1) sc_law.nd rfl (Or.inl rfl)) (pss_cons (ps_set (i := 2) sc_law.nd rfl (Or.inl rfl) (pe_pc p__law_box (hr.mono (by omega)) rfl (pa_cons (pe_pc p__law_cell (hr.mono (by omega)) rfl (pa_cons (pv 0) (pa_cons (pv 1) pa_nil))) pa_nil)))
      (pss_cons (ps_set (i := 3) sc_law.nd rfl (Or.inl rfl) (pe_pc p__law_rows (hr.mono (by omega)) rfl (pa_cons (pv 2) pa_nil)))
      (pss_cons (ps_set (i := 4) sc_law.nd rfl (Or.inl rfl) (pe_makeS m_Words p_Words___init__ takes0 (hr.mono (by omega)) rfl g_Words (pa_cons (pv 3) pa_nil)))
      (pss_cons (ps_set (i := 5) sc_law.nd rfl (Or.inl rfl) (pe_pc p__law_letters (hr.mono (by omega)) rfl (pa_cons (pv 2) pa_nil)))
      (pss_cons (ps_set (i := 6) sc_law.nd rfl (Or.inl rfl) (pe_ix (ix_listK (K := K)) (pe_lst (pa_cons pe_int (pa_cons pe_int (pa_cons pe_int (pa_cons (pe_ix (ix_listK (K := K)) (pe_lst (pa_cons pe_int (pa_cons pe_int pa_nil))) (pe_callTy (T := "int") call_int1 (by rfl) bt.int_ (by decide +kernel) (pa_cons (pe_cmpR op_gt (pv 1) pe_int (nomark _)) pa_nil)) (fun _ _ => rfl)) pa_nil))))) (pe_pc p__law_take (hr.mono (by omega)) rfl (pa_cons (pv 2) (pa_cons pe_int pa_nil))) (fun _ _ => rfl)))
      (pss_cons (ps_set (i := 7) sc_law.nd rfl (Or.inl rfl) (pe_pc p__law_signs (hr.mono (by omega)) rfl (pa_cons (pv 2) (pa_cons (pv 3) (pa_cons (pv 5) (pa_cons (pv 6) pa_nil))))))
      (pss_cons (ps_set (i := 8) sc_law.nd rfl (Or.inl rfl) (pe_callTy (T := "list") (listK (K := K)) (by rfl) bt.list_ (by decide +kernel) (pa_cons (pv 7) pa_nil)))
      (pss_cons (ps_if (pt_cmpR op_gt (pv 6) pe_int (nomark _)) (pss_one (ps_set (i := 9) sc_law.nd rfl (Or.inl rfl) (pe_makeSK0 m_Term p_TermA takes0 (hr.mono (by omega)) rfl g_Term (pk_cons (pv 6) (pk_cons (pv 8) (pk_cons (pv 4) pk_nil)))))) (pss_one (ps_set (i := 9) sc_law.nd rfl (Or.inl rfl) (pe_makeSK m_Term p_Term0 takes0 (hr.mono (by omega)) rfl g_Term (pa_cons (pv 4) (pa_cons (pe_ix (ix_listK (K := K)) (pe_lst (pa_cons (pv 8) (pa_cons (pe_callTy (T := "tuple") (tupleK (K := K)) (by rfl) bt.tuple_ (by decide +kernel) (pa_cons (pv 8) pa_nil)) pa_nil))) (pe_pc p__law_take (hr.mono (by omega)) rfl (pa_cons (pv 2) (pa_cons pe_int pa_nil))) (fun _ _ => rfl)) pa_nil)) pk_nil))))
      (pss_cons (ps_expr (pe_appendK (K := K) rfl (pv 8) pe_str))
      (pss_cons (ps_asg pe_str (pg_sub (pv 8) pe_int set_list))
      (pss_cons (ps_set (i := 10) sc_law.nd rfl (Or.inl rfl) (pe_pc p__law_signs (hr.mono (by omega)) rfl (pa_cons (pv 2) (pa_cons (pv 3) (pa_cons (pv 5) (pa_cons pe_int pa_nil))))))
      (pss_cons (ps_set (i := 11) sc_law.nd rfl (Or.inl rfl) (pe_makeSK m_Term p_Term1 takes0 (hr.mono (by omega)) rfl g_Term (pa_cons (pv 4) (pa_cons (pe_callTy (T := "tuple") (tupleK (K := K)) (by rfl) bt.tuple_ (by decide +kernel) (pa_cons (pv 10) pa_nil)) pa_nil)) (pk_cons (pe_callB (id := "len") (lenK (K := K)) (by rfl) bt.len_ (by decide +kernel) (pa_cons (pv 10) pa_nil)) pk_nil)))
      (pss_cons (ps_if (PW.pt (pw_or (pt_not (pt_val (pe_pcG p__law_right hgd (hr.mono (by omega)) rfl (pa_cons (pv 2) (pa_cons (pv 4) (pa_cons (pv 3) (pa_cons (pv 7) (pa_cons (pv 9) pa_nil)))))))) (pw_or1 (pt_not (pt_val (pe_pcG p__law_right hgd (hr.mono (by omega)) rfl (pa_cons (pv 2) (pa_cons (pv 4) (pa_cons (pv 3) (pa_cons (pv 10) (pa_cons (pv 11) pa_nil))))))))))) (pss_one (ps_ret pe_bl)) pss_nil)
      (pss_cons (ps_if (PW.pt (pw_and (pt_cmpR op_eq (pv 1) pe_int (nomark _)) (pw_and1 (pt_not (PW.pt (pw_and (pt_val (pe_pcG0 p__law_deep_right hgd (hr.mono (by omega)) rfl)) (pw_and1 (pt_val (pe_pcG0 p__law_many_letters_right hgd (hr.mono (by omega)) rfl))))))))) (pss_one (ps_ret pe_bl)) pss_nil)
      (pss_one (ps_if (PW.pt (pw_or (pt_not (pt_val (pe_pcG p__law_told_right hgd (hr.mono (by omega)) rfl (pa_cons (pv 9) (pa_cons (pv 4) (pa_cons (pv 3) (pa_cons (pv 7) pa_nil))))))) (pw_or1 (PW.pt (pw_and (pt_cmpR op_eq (pv 1) pe_int (nomark _)) (pw_and1 (pt_not (pt_val (pe_pcG p__law_great_right hgd (hr.mono (by omega)) rfl (pa_cons (pv 4) (pa_cons (pv 3) pa_nil))))))))))) (pss_one (ps_ret pe_bl)) pss_nil)))))))))))))))))
      (pss_one (ps_ret pe_bl))), ?_⟩
    have hn3 : ∀ k : Int, k = (if (if (ns.map V.int).length < (6 : Int) then ((ns.map V.int).length : Int) else 6) > 2 then (if (ns.map V.int).length < (6 : Int) then ((ns.map V.int).length : Int) else 6) else 2) → 0 ≤ k ∧ k ≤ 6 := by
      intro k hk
      rw [hk]
      split <;> split <;> omega
    refine ⟨_, rfl, _, _, rfl, .inl ⟨_, hS, rfl⟩, _, _, rfl, _, _, rfl, _, rfl, ?_, ?_, ?_⟩
    · have := hn3 _ rfl
      omega
    · have := hn3 _ rfl
      omega
    have hb12 := (hn3 _ rfl).2
    refine for_it walk_range (fun i σ H' => ∃ s1 s2 s3 s4 s5 s6 s7 s8 s9 s10 s11 : Option V, σ = [some (.ref a), s1, s2, s3, s4, s5, s6, s7, s8, s9, s10, s11] ∧ Same H H') ⟨_, _, _, _, _, _, _, _, _, _, _, rfl, Same.refl H⟩ (fun _ _ _ _ _ => trivial) ?_ (fun σ G p => ?_)
    rotate_left
    · exact q G
    rintro i x σ H1' H1 hi ⟨s1, s2, s3, s4, s5, s6, s7, s8, s9, s10, s11, rfl, e1⟩ ⟨rfl, rfl⟩
    refine ⟨_, rfl, _, rfl, a, ns, i, (by show [V.ref a, V.int (0 + (i : Int))] = _; rw [Int.zero_add]), e1.seq hS, by omega, fun c => ?_⟩
    refine ⟨c, rfl, fun b o hb bg => ?_⟩
    have hbH : H b = none := e1.free hb
    (generalize hG : L2.upd _ b _ = H2; have sb := same_of hG hb; have eb := at_of hG; clear hG)
    refine ⟨_, rfl, b, 890000000, rfl, ⟨o, eb, bg.mono (by decide)⟩, fun H3 rw_ rows d3 ro hrw hrows => ?_⟩
    refine ⟨_, rfl, fun wa dx hwa hdx ne => words_of ro hwa hdx ne (Dt.same hide_same hrows) fun G0 sG0 wAt => ?_⟩
    have D0 : Dr b 890000000 H3 G0 := Dr.same sG0 d3.bag
    refine ⟨_, rfl, b, 880000000, rfl, let ⟨o, e, g⟩ := D0.bag; ⟨o, e, g.mono (by decide)⟩, fun H4 lt ls d4 hls hlt nlt elt => ?_⟩
    have wAt0 : WordsAt K (hide G0 b) wa rows := by
      obtain ⟨o, e, g⟩ := D0.bag
      obtain ⟨xs, rfl⟩ := g.is
      exact wAt.hide e
    have keepH : ∀ {m : Nat} {G G' : Hp}, Dr b m G G' → Same H G → Same H G' := fun d s a' o' e => d.fx a' o' (ne_of_none e hbH) (s a' o' e)
    have eH4 := keepH d4 (keepH D0 (keepH d3 (e1.trans sb)))
    obtain ⟨u0, hu0, hv0⟩ : ∃ u : Nat, (u = 201 ∨ u = 130) ∧ atI [V.int 201, V.int 130] (if decide ((0 + (i : Int)) > 0) = true then 1 else 0) = some (.int (u : Nat)) := by
      cases decide ((0 + (i : Int)) > 0)
      · exact ⟨201, .inl rfl, atI_nat (j := 0) rfl⟩
      · exact ⟨130, .inr rfl, atI_nat (j := 1) rfl⟩
    refine ⟨(by show 2 ≤ sizeLine; decide), fun L0 hL0 => ?_⟩
    (generalize hG : L2.upd _ L0 _ = H5; have sL0 := same_of hG hL0; have eL0 := at_of hG; clear hG)
    refine ⟨_, rfl, _, _, rfl, rfl, .inr ⟨_, rfl, L0, _, _, _, rfl, rfl, .inl (.inl eL0), hv0, ?_⟩⟩
    refine ⟨(by show 4 ≤ sizeLine; decide), fun L4 hL4 => ?_⟩
    (generalize hG : L2.upd _ L4 _ = H6; have sL4 := same_of hG hL4; have eL4 := at_of hG; clear hG)
    have D6 : Dr b 880000000 H4 H6 := Dr.same (sL0.trans sL4) d4.bag
    have nL4 : L4 ≠ b := fun z => by
      obtain ⟨o, e, _⟩ := d4.bag
      rw [z, sL0 _ _ e] at hL4
      cases hL4
    refine ⟨_, rfl, b, _, 879999999, 4, rfl, D6.bag.choose_spec.1, D6.bag.choose_spec.2, by decide, by decide +kernel, fun x8 o8 x80 x83 g8 => ?_⟩
    (generalize hG : L2.upd _ b _ = G2; have d8 := dr_of hG g8; clear hG)
    obtain ⟨v8, hv8, hm8⟩ := atI_in (xs := [V.int 16, .int 16, .int 100, .int u0]) x80 x83
    obtain ⟨up, rfl, up1, up2⟩ : ∃ up : Nat, v8 = .int up ∧ 1 ≤ up ∧ up ≤ 201 := by
      simp only [List.mem_cons, List.not_mem_nil, or_false] at hm8
      rcases hm8 with rfl | rfl | rfl | rfl
      · exact ⟨16, rfl, by decide, by decide⟩
      · exact ⟨16, rfl, by decide, by decide⟩
      · exact ⟨100, rfl, by decide, by decide⟩
      · exact ⟨u0, rfl, by omega, by omega⟩
    refine ⟨L4, _, _, _, rfl, rfl, .inl (.inl (d8.at nL4 eL4)), hv8, ?_⟩
    have D2 := D6.trans d8
    have elt2 : hide G2 b lt = some (.lst (ls.map V.str)) := D2.hide _ _ (by rw [hide_ne nlt]; exact elt)
    have hrows2 := Dt.same D2.hide (Dt.same d4.hide (Dt.same D0.hide hrows))
    have eG2 := keepH D2 eH4
    refine ⟨_, rfl, _, rfl, _, rfl, _, rfl, b, 870000000, rw_, lt, up, rows, ls, rfl, up1, by omega, let ⟨o, e, g⟩ := d8.bag; ⟨o, e, g.mono (by omega)⟩, ro, hls, hrows2, elt2, fun S0 mk zs dS hzs hmkN nmk emk => ?_⟩
    obtain ⟨t, et, wf, sz, tn, ly, ft, dp⟩ := signs_tree ro hls hzs up2
    subst et
    have eS0 := keepH dS eG2
    have rowsS := Dt.same dS.hide hrows2
    have ltS := dS.hide _ _ elt2
    have waS := wAt0.same ((d4.trans D2).trans dS).hide
    have mkS : hide S0 b mk = some (.lst (t.flat.map V.str)) := by rw [hide_ne nmk]; exact emk
    refine ⟨_, rfl, mk, _, rfl, .inl (.inl (.inl emk)), fun h hh => ?_⟩
    (generalize hG : L2.upd _ h _ = F0; have sh := same_of hG hh; have eh := at_of hG; clear hG)
    have nh : h ≠ b := dS.ne hh
    have DF : Dr b 870000000 S0 F0 := Dr.same sh dS.bag
    have waF : WordsAt K F0 wa rows := waS.same (hide_same.trans sh)
    have sz100 := Tm.flat_len t
    refine ⟨_, rfl, _, _, rfl, rfl, _, rfl, ite2 (fun c => ?_) (fun c => ?_)⟩
    refine ⟨_, rfl, _, rfl, _, rfl, rfl, rfl, fun tm dxt htm hdxt net => ?_⟩
    refine tini_of htm hdxt net waF ⟨ro.lo, ro.hi⟩ (.lst (.inl (.inl eh)) (dt_strs _)) rfl wf (by omega) (by omega) tn.short fun G5 s5 ta => ?_
    have D5 : Dr b 860000000 S0 G5 := DF.trans (Dr.same s5 (DF.mono (by decide)).bag)
    have eh5 := s5 _ _ eh
    rotate_left
    have c1 : up ≤ 100 := by
      have := of_decide_eq_false (Bool.eq_false_iff.mpr c)
      omega
    refine ⟨_, rfl, _, rfl, _, rfl, h, _, rfl, .inl ⟨.inl (.inl eh), fun T hT => ?_⟩⟩
    (generalize hG : L2.upd _ T _ = F1; have sT := same_of hG hT; have eT := at_of hG; clear hG)
    refine ⟨(by show 2 ≤ sizeLine; decide), fun L5 hL5 => ?_⟩
    (generalize hG : L2.upd _ L5 _ = F2; have sL5 := same_of hG hL5; have eL5 := at_of hG; clear hG)
    have DF2 : Dr b 870000000 S0 F2 := DF.trans (Dr.same (sT.trans sL5) DF.bag)
    have nL5 : L5 ≠ b := fun z => by
      obtain ⟨o, e, _⟩ := DF.bag
      rw [z, sT _ _ e] at hL5
      cases hL5
    refine ⟨_, rfl, b, _, 869999999, 2, rfl, DF2.bag.choose_spec.1, DF2.bag.choose_spec.2, by decide, by decide +kernel, fun x9 o9 x90 x93 g9 => ?_⟩
    (generalize hG : L2.upd _ b _ = F3; have d9 := dr_of hG g9; clear hG)
    obtain ⟨y, hy, hym⟩ := atI_in (xs := [V.ref h, .ref T]) x90 x93
    have ehF := (d9.at nh ((sT.trans sL5) _ _ eh))
    have nT : T ≠ b := DF.ne hT
    obtain ⟨d, hd, hds⟩ : ∃ d, Dt K F3 y d ∧ seqD d = some (t.flat.map .str) := by
      simp only [List.mem_cons, List.not_mem_nil, or_false] at hym
      rcases hym with rfl | rfl
      · exact ⟨_, .lst (.inl (.inl ehF)) (dt_strs _), rfl⟩
      · exact ⟨_, .tup (.inl (.inl (d9.at nT (sL5 _ _ eT)))) (dt_strs _), rfl⟩
    have waF3 : WordsAt K F3 wa rows := waS.same ((DF2.trans d9).hide.trans hide_same)
    refine ⟨L5, _, _, _, rfl, rfl, .inl (.inl (d9.at nL5 eL5)), hy, rfl, rfl, fun tm dxt htm hdxt net => ?_⟩
    refine tini_of htm hdxt net waF3 ⟨ro.lo, ro.hi⟩ hd hds wf (by omega) (by decide) tn.short fun G5 s5 ta => ?_
    have D5 : Dr b 860000000 S0 G5 := (DF2.trans d9).trans (Dr.same s5 (d9.mono (by decide)).bag)
    have eh5 := s5 _ _ ehF
    all_goals
      refine ⟨_, rfl, .inl ⟨rfl, _, .inl (.inl eh5)⟩, h, _, .str "late", rfl, rfl, eh5, sz5' (by rw [List.length_map]; omega), ?_⟩
      refine ⟨_, rfl, h, _, 0, 0, rfl, rfl, upd_same .., by rw [List.length_append, List.length_map]; exact ix_0 (by show 0 < t.flat.length + 1; omega), ?_⟩
      generalize hG7 : L2.upd (L2.upd G5 h _) h _ = G7
      have fx7 : ∀ a' o', a' ≠ h → G5 a' = some o' → G7 a' = some o' := fun a' o' n e => by rw [← hG7, upd_ne n, upd_ne n]; exact e
      have ta7 : TmAt K G7 tm wa t := by rw [← hG7]; exact TmAt.put (upd_same ..) (TmAt.put eh5 ta)
      clear hG7
      have bag7 : ∃ o, G7 b = some o ∧ Bag 860000000 o := let ⟨o, e, g⟩ := D5.bag; ⟨o, fx7 _ _ (Ne.symm nh) e, g⟩
      have sS7 : Same (hide S0 b) (hide G7 b) := fun a' o' e => by
        have nb : a' ≠ b := fun z => by rw [z, hide_self] at e; cases e
        rw [hide_ne nb] at e ⊢
        exact fx7 _ _ (ne_of_none e hh) (D5.at nb e)
      have eG7 : Same H G7 := fun a' o' e => fx7 _ _ (ne_of_none (eS0 _ _ e) hh) (keepH D5 eS0 _ _ e)
      have ta7h : TmAt K (hide G7 b) tm wa t := by
        obtain ⟨o, e, g⟩ := bag7
        obtain ⟨xs, rfl⟩ := g.is
        exact ta7.hide e
      have rows7 := Dt.same sS7 rowsS
      have wa7 := waS.same sS7
      have mk7 := sS7 _ _ mkS
      refine ⟨_, rfl, _, rfl, _, rfl, b, 850000000, rw_, lt, 6, rows, ls, rfl, by decide, by decide, let ⟨o, e, g⟩ := bag7; ⟨o, e, g.mono (by decide)⟩, ro, hls, rows7, sS7 _ _ ltS, fun G8 sm zs2 dG8 hz2 hsmN nsm esm => ?_⟩
      obtain ⟨t2, et2, wf2, sz2, tn2, ly2, ft2, dp2⟩ := signs_tree ro hls hz2 (by decide)
      subst et2
      refine ⟨_, rfl, _, rfl, sm, _, rfl, .inl ⟨.inl (.inl esm), fun T2 hT2 => ?_⟩⟩
      (generalize hG : L2.upd _ T2 _ = G9; have sT2 := same_of hG hT2; have eT2 := at_of hG; clear hG)
      have D9 : Dr b 850000000 G7 G9 := dG8.trans (Dr.same sT2 dG8.bag)
      have l2 := Tm.flat_len t2
      refine ⟨_, rfl, _, _, rfl, .inl ⟨_, .inl (.inl (sT2 _ _ esm)), rfl⟩, rfl, rfl, fun ot dxo hot hdxo neo => ?_⟩
      refine tini_of hot hdxo neo (wa7.same (D9.hide.trans hide_same)) ⟨ro.lo, ro.hi⟩ (.tup (.inl (.inl eT2)) (dt_strs _)) rfl wf2 (by rw [List.length_map]; omega) (by rw [List.length_map]; omega) tn2.short fun G10 s10 ta2 => ?_
      have D10 : Dr b 850000000 G7 G10 := D9.trans (Dr.same s10 D9.bag)
      have ta2h : TmAt K (hide G10 b) ot wa t2 := by
        obtain ⟨o, e, g⟩ := D10.bag
        obtain ⟨xs, rfl⟩ := g.is
        exact ta2.hide e
      have esm10 : hide G10 b sm = some (.lst (t2.flat.map V.str)) := by
        rw [hide_ne nsm]
        exact (sT2.trans s10) _ _ esm
      have tl1 := t.flat_len
      have g1 : GoodT K (hide G10 b) tm wa rw_ wa mk rows t := ⟨ro, ⟨ta7h.same D10.hide, wa7.same D10.hide, ⟨ro.lo, ro.hi⟩, wf, by omega, tn.short⟩, wa7.same D10.hide, Dt.same D10.hide rows7, .inl (.inl (D10.hide _ _ mk7)), tn, ly, ft⟩
      have g2 : GoodT K (hide G10 b) ot wa rw_ wa sm rows t2 := ⟨ro, ⟨ta2h, wa7.same D10.hide, ⟨ro.lo, ro.hi⟩, wf2, by omega, tn2.short⟩, wa7.same D10.hide, Dt.same D10.hide rows7, .inl (.inl esm10), tn2, ly2, ft2⟩
      refine ⟨_, rfl, _, rfl, _, rfl, _, rfl, _, rfl, b, wa, rw_, mk, tm, wa, rows, t, 840000000, rfl, let ⟨o, e, g⟩ := D10.bag; ⟨o, e, g.mono (by decide)⟩, g1, dp, fun G11 d11 => ?_⟩
      have g2' := g2.same d11.hide
      refine ⟨_, rfl, iteF ⟨_, rfl, _, rfl, _, rfl, _, rfl, _, rfl, b, wa, rw_, sm, ot, wa, rows, t2, 830000000, rfl, let ⟨o, e, g⟩ := d11.bag; ⟨o, e, g.mono (by decide)⟩, g2', dp2, fun G12 d12 => ⟨_, rfl, iteF ?_⟩⟩⟩
      have g3 := (g1.same (d11.trans d12).hide).same hide_same
      have eG12 := keepH (D10.trans (d11.trans d12)) eG7
      have fin : ∀ {G : Hp}, Same G12 G → Same H G := fun s => eG12.trans s
      refine ⟨_, rfl, rfl, _, rfl, ite2 (fun c => ?_) (fun c => iteF ?_)⟩
      refine ⟨rfl, fun G13 s13 => ⟨_, rfl, iteT ⟨rfl, fun G14 s14 => ⟨_, rfl, iteF ?_⟩⟩⟩⟩
      have sA := s13.trans s14
      rotate_left
      have sA := Same.refl G12
      all_goals
        have g4 := g3.same sA
        refine ⟨_, rfl, _, rfl, _, rfl, _, rfl, tm, wa, rw_, mk, wa, rows, t, rfl, ro, g4.ok, g4.wk, g4.rw_, g4.mk_, tn, ft, dp, fun G15 s15 => ⟨_, rfl, iteF ?_⟩⟩
        have g5 := g4.same s15
        refine ⟨_, rfl, rfl, _, rfl, ite2 (fun c => ?_) (fun c => iteF ⟨_, _, _, _, _, _, _, _, _, _, _, rfl, fin (sA.trans s15)⟩)⟩
        exact ⟨_, rfl, _, rfl, wa, rw_, rows, rfl, ro, g5.wk, g5.rw_, fun G16 s16 => ⟨_, rfl, iteF ⟨_, _, _, _, _, _, _, _, _, _, _, rfl, fin ((sA.trans s15).trans s16)⟩⟩⟩
end

end TS

namespace TS
open PySem PySem.Spec PyProof.Rows L2 TL

section
variable {P : Program} {w : World} {K : PySem.W.Frag} {mg : Str → Option Value} {base : Heap}
theorem sc__law_cell : FnScope ["_law_script", "_law_k"] ["_law_script", "_law_k"] (defScope s__law_cell) := ⟨rfl, rfl, rfl, by decide +kernel, rfl, by decide +kernel, by decide +kernel⟩

theorem ok_cell (bt : Bt mg) (D : Def K mg "_law_cell" s__law_cell) : Prom P w K mg base 1 "_law_cell" ["_law_script", "_law_k"] (spCell K) := by
  refine prom_mk D sc__law_cell (fun vs H Q E h => ?_) (fun _ _ _ _ _ _ us hl => match us, hl with | [_, _], _ => rfl) (fun f cdv A outer s H vs Q E hr h => ?_)
  · obtain ⟨a, ns, k, rfl, _⟩ := h
    rfl
  · obtain ⟨a, ns, k, rfl, hS, hk, q⟩ := h
    refine ⟨_, (pss_cons (ps_if (pt_cmpR op_lt (pv 1) (pe_callB (id := "len") (lenK (K := K)) (by rfl) bt.len_ (by decide +kernel) (pa_cons (pv 0) pa_nil)) (nomark _)) (pss_one (ps_ret (pe_ix (ix_listK (K := K)) (pv 0) (pv 1) (fun _ _ => rfl)))) pss_nil)
      (pss_one (ps_ret (pe_op op_add (pe_op op_mul pe_int (pv 1)) pe_int)))), ?_⟩
    refine ⟨_, rfl, _, rfl, _, _, rfl, .inl ⟨_, hS, rfl⟩, _, _, rfl, rfl, _, rfl, ?_⟩
    refine ite2 (fun c => ?_) (fun c => ?_)
    · have c' := of_decide_eq_true c
      rw [List.length_map] at c'
      have hk' : k < ns.length := by omega
      exact ⟨_, rfl, _, rfl, a, _, _, .int ns[k], rfl, rfl, hS, atI_nat (by rw [List.getElem?_map, List.getElem?_eq_getElem hk']; rfl), q _⟩
    · exact ⟨_, rfl, _, _, rfl, rfl, .inl ⟨by decide, by decide⟩, _, _, rfl, rfl, q _⟩
theorem sc__law_box : FnScope ["_law_cell_here"] ["_law_cell_here"] (defScope s__law_box) := ⟨rfl, rfl, rfl, by decide +kernel, rfl, by decide +kernel, by decide +kernel⟩

theorem ok_bag (bt : Bt mg) (D : Def K mg "_law_box" s__law_box) : Prom P w K mg base 1 "_law_box" ["_law_cell_here"] spBag := by
  refine prom_mk D sc__law_box (fun vs H Q E h => ?_) (fun _ _ _ _ _ _ us hl => match us, hl with | [_], _ => rfl) (fun f cdv A outer s H vs Q E hr h => ?_)
  · obtain ⟨c, rfl, _⟩ := h
    rfl
  · obtain ⟨c, rfl, q⟩ := h
    refine ⟨_, (pss_one (ps_ret (pe_lst (pa_cons (pe_callB (id := "max") (call_max2 rfl) (by rfl) bt.max_ (by decide +kernel) (pa_cons pe_int (pa_cons (pe_op op_sub (pv 0) (pe_op op_pow pe_int pe_int)) pa_nil))) (pa_cons (pe_op op_mod (pv 0) pe_int) (pa_cons pe_int pa_nil)))))), ?_⟩
    refine ⟨_, rfl, _, _, rfl, rfl, ⟨by decide, by decide, by decide⟩, _, _, rfl, rfl, _, _, rfl, ?_⟩
    refine ⟨_, rfl, _, _, rfl, rfl, (by show (0 : Int) < 2147483629; decide), (by show 3 ≤ sizeLine; decide), fun p hp => q p _ hp ?_⟩
    refine ⟨_, _, _, rfl, ?_, Int.emod_nonneg _ (by decide), Int.emod_lt_of_pos _ (by decide), Int.le_refl 0, by decide⟩
    split <;> omega
theorem sc__law_take : FnScope ["_law_box_here", "_law_many", "_law_digit", "_law_number"] ["_law_box_here", "_law_many"] (defScope s__law_take) := ⟨rfl, rfl, rfl, by decide +kernel, rfl, by decide +kernel, by decide +kernel⟩

theorem pow_small {x : Int} {n : Nat} (h0 : 0 ≤ x) (h1 : x < 2 ^ 60) : x.natAbs < 2 ^ 64 := by
  have : (2 : Int) ^ 60 = 1152921504606846976 := by decide
  have h2 : (2 : Nat) ^ 64 = 18446744073709551616 := by decide
  omega
theorem ok_take (D : Def K mg "_law_take" s__law_take) : Prom P w K mg base 1 "_law_take" ["_law_box_here", "_law_many"] spTake := by
  refine prom_mk D sc__law_take (fun vs H Q E h => ?_) (fun _ _ _ _ _ _ us hl => match us, hl with | [_, _], _ => rfl) (fun f cdv A outer s H vs Q E hr h => ?_)
  · obtain ⟨b, o, n, many, rfl, _⟩ := h
    rfl
  · obtain ⟨b, o, n, many, rfl, hb, ⟨x, y, z, rfl, hx, hy, hy', hz, hn⟩, hm, hm', q⟩ := h
    have hL : ∀ {H : Hp} {xs : List V}, H b = some (.lst xs) → SqL K H b xs := fun h => .inl (.inl h)
    refine ⟨_, (pss_cons (ps_if (pt_cmpR op_gt (pe_ix (ix_listK (K := K)) (pv 0) pe_int (fun _ _ => rfl)) pe_int (nomark _)) (pss_cons (ps_set (i := 2) sc__law_take.nd rfl (Or.inl rfl) (pe_op op_mod (pe_ix (ix_listK (K := K)) (pv 0) pe_int (fun _ _ => rfl)) (pv 1)))
      (pss_cons (ps_asg (pe_op op_fdivW (pe_ix (ix_listK (K := K)) (pv 0) pe_int (fun _ _ => rfl)) (pv 1)) (pg_sub (pv 0) pe_int set_list))
      (pss_one (ps_ret (pv 2))))) pss_nil)
      (pss_cons (ps_asg (pe_op op_add (pe_ix (ix_listK (K := K)) (pv 0) pe_int (fun _ _ => rfl)) pe_int) (pg_sub (pv 0) pe_int set_list))
      (pss_cons (ps_set (i := 3) sc__law_take.nd rfl (Or.inl rfl) (pe_op op_mod (pe_op op_pow (pe_op op_add (pe_op op_add (pe_ix (ix_listK (K := K)) (pv 0) pe_int (fun _ _ => rfl)) (pe_op op_mul pe_int (pe_ix (ix_listK (K := K)) (pv 0) pe_int (fun _ _ => rfl)))) pe_int) pe_int) pe_int))
      (pss_cons (ps_set (i := 3) sc__law_take.nd rfl (Or.inl rfl) (pe_op op_mod (pe_op op_pow (pe_op op_add (pv 3) (pe_op op_mul pe_int (pe_ix (ix_listK (K := K)) (pv 0) pe_int (fun _ _ => rfl)))) pe_int) pe_int))
      (pss_one (ps_ret (pe_op op_mod (pe_op op_fdivW (pv 3) pe_int) (pv 1)))))))), ?_⟩
    refine ⟨_, rfl, b, _, _, _, rfl, rfl, hL hb, rfl, _, _, rfl, rfl, _, rfl, ?_⟩
    refine ite2 (fun c => ?_) (fun c => ?_)
    · have c' := of_decide_eq_true c
      refine ⟨_, rfl, b, _, _, _, rfl, rfl, hL hb, rfl, _, rfl, _, _, rfl, rfl, hm, ?_⟩
      refine ⟨_, rfl, b, _, _, _, rfl, rfl, hL hb, rfl, _, rfl, _, _, rfl, rfl, ?_, ?_⟩
      · exact wide_div (b := 201) hm (by have h1 : (2 : Int) ^ 200 = 1606938044258990275541962092341162602522202993782792835301376 := by decide +kernel
                                         have h3 : (2 : Nat) ^ 201 = 3213876088517980551083924184682325205044405987565585670602752 := by decide +kernel
                                         rw [h1] at hm'
                                         rw [h3]
                                         omega) (by decide) (by decide)
      · refine ⟨_, rfl, b, _, _, 0, rfl, rfl, hb, rfl, _, rfl, ?_⟩
        exact q _ _ (Int.emod_nonneg _ (by omega)) (Int.emod_lt_of_pos _ hm) ⟨_, _, _, rfl, Int.ediv_nonneg hx (by omega), hy, hy', hz, by omega⟩
    · refine ⟨_, rfl, b, _, _, _, rfl, rfl, hL hb, rfl, _, _, rfl, rfl, _, rfl, b, _, _, 2, rfl, rfl, hb, rfl, ?_⟩
      have hb1 : (L2.upd H b (.lst [.int x, .int y, .int (z + 1)])) b = some (.lst [.int x, .int y, .int (z + 1)]) := upd_same
      refine ⟨_, rfl, b, _, _, _, rfl, rfl, hL hb1, rfl, _, rfl, b, _, _, _, rfl, rfl, hL hb1, rfl, _, _, rfl, rfl, .inl ⟨by decide, by decide⟩, _, _, rfl, rfl, _, _, rfl, rfl, _, _, rfl, rfl, ⟨by decide, by decide, ?_⟩, _, _, rfl, rfl, (by show (0 : Int) < 2147483647; decide), ?_⟩
      · exact pow_small (n := 0) (by omega) (by have : (2 : Int) ^ 60 = 1152921504606846976 := by decide
                                                omega)
      · have r0 := Int.emod_nonneg ((y + 7919 * (z + 1) + 41) ^ 5) (show (2147483647 : Int) ≠ 0 by decide)
        have r1 := Int.emod_lt_of_pos ((y + 7919 * (z + 1) + 41) ^ 5) (show (0 : Int) < 2147483647 by decide)
        refine ⟨_, rfl, _, rfl, b, _, _, _, rfl, rfl, hL hb1, rfl, _, _, rfl, rfl, .inl ⟨by decide, by decide⟩, _, _, rfl, rfl, _, _, rfl, rfl, ⟨by decide, by decide, ?_⟩, _, _, rfl, rfl, (by show (0 : Int) < 2147483587; decide), ?_⟩
        · exact pow_small (n := 0) (Int.add_nonneg r0 (by omega)) (by have : (2 : Int) ^ 60 = 1152921504606846976 := by decide
                                                                      omega)
        · refine ⟨_, rfl, _, _, rfl, rfl, wide_div (b := 10) (by decide) (by decide) (by decide) (by decide), _, rfl, _, _, rfl, rfl, hm, ?_⟩
          exact q _ _ (Int.emod_nonneg _ (by omega)) (Int.emod_lt_of_pos _ hm) ⟨_, _, _, rfl, hx, hy, hy', by omega, by omega⟩
end

end TS

namespace TS
open PySem PySem.Spec PyProof.Rows L2 TL
/-! ### the head and the end -/
theorem facts {w : World} {K : PySem.W.Frag} {h : Heap} {mg : Str → Option Value} {f : Addr} (X : K.In h) (G : h.Ns mainGlobals mg) (hfa : mg ("law" : Str) = some (.ref f)) (c : chk K = true) (c1 : fn.all (fun d => d.ok K) = true)
    (c2 : fn.map (fun d => He.fnW K d.at_) = fn.map He.DefD.val) : LawAt PySem.Challenge.rw_termshelf_k07_terms_told w mg 216 63 "_law_script" h f K := by
  obtain ⟨ca, cb⟩ := He.ba c
  obtain ⟨cs, cbt⟩ := He.ba ca
  obtain ⟨cg, cm⟩ := He.ba cb
  have fx : ∀ (i : Nat) (b : Bool), (fl K)[i]? = some b → b = true := fun i b hb => List.all_eq_true.mp cm b (List.mem_of_getElem? hb)
  have Y := sysB_ok cs
  have bt := bt_of X G cbt
  have g : ∀ (x : Str), x ∈ gl → (He.Fa.glo x).ok K = true := fun x hx => List.all_eq_true.mp cg x hx
  have gg : ∀ (x : Str), x ∈ gl → mg x = some (.ref (He.ga K x)) := fun x hx => He.glo_ok X G (g x hx)
  have D : ∀ {x : Str} {st : Stmt} (i : Nat), fn[i]? = some (defD x st) → x ∈ gl → Def K mg x st := fun i hi hx => def_of X G c1 c2 i hi (g _ hx)
  have d_is_whole : Def K mg "is_whole" s_is_whole := D 0 rfl (by decide +kernel)
  have d_is_name : Def K mg "is_name" s_is_name := D 1 rfl (by decide +kernel)
  have d_number_in : DefK K mg "number_in" s_number_in [("low", .int 0), ("high", .int 9999)] := defK_of X G c1 c2 2 rfl (g _ (by decide +kernel))
  have d_is_letter : Def K mg "is_letter" s_is_letter := D 3 rfl (by decide +kernel)
  have d_is_spot : Def K mg "is_spot" s_is_spot := D 4 rfl (by decide +kernel)
  have d_is_row : Def K mg "is_row" s_is_row := D 5 rfl (by decide +kernel)
  have d_are_rows : Def K mg "are_rows" s_are_rows := D 6 rfl (by decide +kernel)
  have d_need_words : Def K mg "need_words" s_need_words := D 7 rfl (by decide +kernel)
  have d_are_signs : Def K mg "are_signs" s_are_signs := D 8 rfl (by decide +kernel)
  have d_places_of : Def K mg "places_of" s_places_of := D 9 rfl (by decide +kernel)
  have d_ends_of : Def K mg "ends_of" s_ends_of := D 10 rfl (by decide +kernel)
  have d__law_cell : Def K mg "_law_cell" s__law_cell := D 11 rfl (by decide +kernel)
  have d__law_box : Def K mg "_law_box" s__law_box := D 12 rfl (by decide +kernel)
  have d__law_take : Def K mg "_law_take" s__law_take := D 13 rfl (by decide +kernel)
  have d__law_names : Def K mg "_law_names" s__law_names := D 14 rfl (by decide +kernel)
  have d__law_rows : Def K mg "_law_rows" s__law_rows := D 15 rfl (by decide +kernel)
  have d__law_letters : Def K mg "_law_letters" s__law_letters := D 16 rfl (by decide +kernel)
  have d__law_signs : Def K mg "_law_signs" s__law_signs := D 17 rfl (by decide +kernel)
  have d__law_end : Def K mg "_law_end" s__law_end := D 18 rfl (by decide +kernel)
  have d__law_parts : Def K mg "_law_parts" s__law_parts := D 19 rfl (by decide +kernel)
  have d__law_spots : Def K mg "_law_spots" s__law_spots := D 20 rfl (by decide +kernel)
  have d__law_at : Def K mg "_law_at" s__law_at := D 21 rfl (by decide +kernel)
  have d__law_unlike_letters : Def K mg "_law_unlike_letters" s__law_unlike_letters := D 22 rfl (by decide +kernel)
  have d__law_told_right : Def K mg "_law_told_right" s__law_told_right := D 23 rfl (by decide +kernel)
  have d__law_right : Def K mg "_law_right" s__law_right := D 24 rfl (by decide +kernel)
  have d__law_great_right : Def K mg "_law_great_right" s__law_great_right := D 25 rfl (by decide +kernel)
  have d__law_deep_right : Def K mg "_law_deep_right" s__law_deep_right := D 26 rfl (by decide +kernel)
  have d__law_many_letters_right : Def K mg "_law_many_letters_right" s__law_many_letters_right := D 27 rfl (by decide +kernel)
  have d_law : Def K mg "law" s_law := D 28 rfl (by decide +kernel)
  have d_NoWords___init__ : DefM K (He.ma K (He.ga K "NoWords") "__init__") "__init__" "NoWords.__init__" s_NoWords___init__ := meth_of c1 c2 29 rfl
  have d_NoSigns___init__ : DefM K (He.ma K (He.ga K "NoSigns") "__init__") "__init__" "NoSigns.__init__" s_NoSigns___init__ := meth_of c1 c2 30 rfl
  have d_NoSign___init__ : DefM K (He.ma K (He.ga K "NoSign") "__init__") "__init__" "NoSign.__init__" s_NoSign___init__ := meth_of c1 c2 31 rfl
  have d_Beyond___init__ : DefM K (He.ma K (He.ga K "Beyond") "__init__") "__init__" "Beyond.__init__" s_Beyond___init__ := meth_of c1 c2 32 rfl
  have d_Unended___init__ : DefM K (He.ma K (He.ga K "Unended") "__init__") "__init__" "Unended.__init__" s_Unended___init__ := meth_of c1 c2 33 rfl
  have d_NoNumber___init__ : DefM K (He.ma K (He.ga K "NoNumber") "__init__") "__init__" "NoNumber.__init__" s_NoNumber___init__ := meth_of c1 c2 34 rfl
  have d_Words___init__ : DefM K (He.ma K (He.ga K "Words") "__init__") "__init__" "Words.__init__" s_Words___init__ := meth_of c1 c2 35 rfl
  have d_Words_has : DefM K (He.ma K (He.ga K "Words") "has") "has" "Words.has" s_Words_has := meth_of c1 c2 36 rfl
  have d_Words_told_of : DefM K (He.ma K (He.ga K "Words") "told_of") "told_of" "Words.told_of" s_Words_told_of := meth_of c1 c2 37 rfl
  have d_Words_places : DefM K (He.ma K (He.ga K "Words") "places") "places" "Words.places" s_Words_places := meth_of c1 c2 38 rfl
  have d_Words___eq__ : DefM K (He.ma K (He.ga K "Words") "__eq__") "__eq__" "Words.__eq__" s_Words___eq__ := meth_of c1 c2 39 rfl
  have d_Term_signs : DefM K (He.ma K (He.ga K "Term") "signs") "signs" "Term.signs" s_Term_signs := meth_of c1 c2 40 rfl
  have d_Term_words : DefM K (He.ma K (He.ga K "Term") "words") "words" "Term.words" s_Term_words := meth_of c1 c2 41 rfl
  have d_Term_head : DefM K (He.ma K (He.ga K "Term") "head") "head" "Term.head" s_Term_head := meth_of c1 c2 42 rfl
  have d_Term_starts : DefM K (He.ma K (He.ga K "Term") "starts") "starts" "Term.starts" s_Term_starts := meth_of c1 c2 43 rfl
  have d_Term_term_from : DefM K (He.ma K (He.ga K "Term") "term_from") "term_from" "Term.term_from" s_Term_term_from := meth_of c1 c2 44 rfl
  have d_Term_parts : DefM K (He.ma K (He.ga K "Term") "parts") "parts" "Term.parts" s_Term_parts := meth_of c1 c2 45 rfl
  have d_Term_spots_with_places : DefM K (He.ma K (He.ga K "Term") "spots_with_places") "spots_with_places" "Term.spots_with_places" s_Term_spots_with_places := meth_of c1 c2 46 rfl
  have d_Term_spots : DefM K (He.ma K (He.ga K "Term") "spots") "spots" "Term.spots" s_Term_spots := meth_of c1 c2 47 rfl
  have d_Term_deep : DefM K (He.ma K (He.ga K "Term") "deep") "deep" "Term.deep" s_Term_deep := meth_of c1 c2 48 rfl
  have d_Term_letters : DefM K (He.ma K (He.ga K "Term") "letters") "letters" "Term.letters" s_Term_letters := meth_of c1 c2 49 rfl
  have d_Term_place_at : DefM K (He.ma K (He.ga K "Term") "place_at") "place_at" "Term.place_at" s_Term_place_at := meth_of c1 c2 50 rfl
  have d_Term_part_at : DefM K (He.ma K (He.ga K "Term") "part_at") "part_at" "Term.part_at" s_Term_part_at := meth_of c1 c2 51 rfl
  have d_Term_head_at : DefM K (He.ma K (He.ga K "Term") "head_at") "head_at" "Term.head_at" s_Term_head_at := meth_of c1 c2 52 rfl
  have d_Term___len__ : DefM K (He.ma K (He.ga K "Term") "__len__") "__len__" "Term.__len__" s_Term___len__ := meth_of c1 c2 53 rfl
  have d_Term___init__ : DefMK K (He.ma K (He.ga K "Term") "__init__") "__init__" "Term.__init__" s_Term___init__ [("most", .int 100)] := methK_of c1 c2 54 rfl
  have g_TermError := gg "TermError" (by decide +kernel)
  have g_NoWords := gg "NoWords" (by decide +kernel)
  have g_NoSigns := gg "NoSigns" (by decide +kernel)
  have g_NoSign := gg "NoSign" (by decide +kernel)
  have g_Beyond := gg "Beyond" (by decide +kernel)
  have g_Unended := gg "Unended" (by decide +kernel)
  have g_NoNumber := gg "NoNumber" (by decide +kernel)
  have g_Words := gg "Words" (by decide +kernel)
  have g_Term := gg "Term" (by decide +kernel)
  have fam := famB_ok (fx 0 _ rfl)
  have x_NoWords := ownB_ok (fx 1 _ rfl)
  have x_NoSigns := ownB_ok (fx 2 _ rfl)
  have x_NoSign := ownB_ok (fx 3 _ rfl)
  have x_Beyond := ownB_ok (fx 4 _ rfl)
  have x_Unended := ownB_ok (fx 5 _ rfl)
  have x_NoNumber := ownB_ok (fx 6 _ rfl)
  have clW := He.cls_ok (fx 7 _ rfl)
  have nbW := He.noat_ok (fx 8 _ rfl)
  have clT := He.cls_ok (fx 16 _ rfl)
  have n1 := He.noat_ok (fx 17 _ rfl)
  have n2 := He.noat_ok (fx 18 _ rfl)
  have n3 := He.noat_ok (fx 19 _ rfl)
  have mkT := He.mkr_ok (fx 20 _ rfl)
  have mkW := He.mkr_ok (fx 9 _ rfl)
  obtain ⟨fL, fdL, FL, mL⟩ := id d_law
  have e := hfa.symm.trans mL
  cases e
  have b := FunD.bindsA (ps := ["_law_script"]) FL fun _ _ _ _ _ _ us hl => match us, hl with | [_], _ => rfl
  refine ⟨X, fdL, spLaw K, fun s v => b s [v] rfl, fun H a ns hl _ hS => ⟨a, ns, rfl, hS, hl, fun _ => rfl⟩, fun base _ _ => ?_⟩
  have p_take := ok_take (P := PySem.Challenge.rw_termshelf_k07_terms_told.prog) (w := w) (base := base) d__law_take
  have p_name := ok_is_name (P := PySem.Challenge.rw_termshelf_k07_terms_told.prog) (w := w) (base := base) bt (He.int_ok X G (fx 35 _ rfl)) (He.str_ok X G (fx 43 _ rfl)) d_is_name
  have p_whole := ok_is_whole (P := PySem.Challenge.rw_termshelf_k07_terms_told.prog) (w := w) (base := base) bt d_is_whole
  have p_row := ok_is_row bt (He.int_ok X G (fx 40 _ rfl)) p_name p_whole d_is_row
  have p_rows := ok_are_rows bt (He.int_ok X G (fx 41 _ rfl)) p_row d_are_rows
  have i_NoWords := ok_NoWords_ini (P := PySem.Challenge.rw_termshelf_k07_terms_told.prog) (w := w) (base := base) fam g_TermError x_NoWords d_NoWords___init__
  have i_NoSigns := ok_NoSigns_ini (P := PySem.Challenge.rw_termshelf_k07_terms_told.prog) (w := w) (base := base) fam g_TermError x_NoSigns d_NoSigns___init__
  have i_NoSign := ok_NoSign_ini (P := PySem.Challenge.rw_termshelf_k07_terms_told.prog) (w := w) (base := base) fam g_TermError x_NoSign d_NoSign___init__
  have i_Beyond := ok_Beyond_ini (P := PySem.Challenge.rw_termshelf_k07_terms_told.prog) (w := w) (base := base) fam g_TermError x_Beyond d_Beyond___init__
  have i_Unended := ok_Unended_ini (P := PySem.Challenge.rw_termshelf_k07_terms_told.prog) (w := w) (base := base) fam g_TermError x_Unended d_Unended___init__
  have i_NoNumber := ok_NoNumber_ini (P := PySem.Challenge.rw_termshelf_k07_terms_told.prog) (w := w) (base := base) fam g_TermError x_NoNumber d_NoNumber___init__
  have p_wini := ok_Words_ini bt clW nbW p_rows g_NoWords x_NoWords i_NoWords d_Words___init__
  have p_num := ok_number_in (P := PySem.Challenge.rw_termshelf_k07_terms_told.prog) (w := w) (base := base) bt (He.int_ok X G (fx 36 _ rfl)) (He.str_ok X G (fx 44 _ rfl)) d_number_in
  have p_let := ok_is_letter bt (He.str_ok X G (fx 45 _ rfl)) (He.int_ok X G (fx 37 _ rfl)) p_num d_is_letter
  have p_has := ok_Words_has (P := PySem.Challenge.rw_termshelf_k07_terms_told.prog) (w := w) (base := base) bt clW nbW d_Words_has
  have p_told := ok_Words_told (P := PySem.Challenge.rw_termshelf_k07_terms_told.prog) (w := w) (base := base) bt clW nbW d_Words_told_of
  have p_places := ok_Words_places clW (He.meth_ok (fx 11 _ rfl)) p_told d_Words_places
  have p_need := ok_need_words bt (isCB_ok clW (fx 14 _ rfl)) g_Words g_NoWords x_NoWords i_NoWords d_need_words
  have p_aresigns := ok_are_signs (P := PySem.Challenge.rw_termshelf_k07_terms_told.prog) (w := w) (base := base) bt d_are_signs
  have p_plof := ok_places_of bt p_let clW (He.meth_ok (fx 10 _ rfl)) (He.meth_ok (fx 12 _ rfl)) p_has p_places g_NoSign x_NoSign i_NoSign g_Beyond x_Beyond i_Beyond g_Unended x_Unended i_Unended d_places_of
  have p_ends := ok_ends_of (P := PySem.Challenge.rw_termshelf_k07_terms_told.prog) (w := w) (base := base) bt d_ends_of
  have p_tsigns := ok_Term_signs (P := PySem.Challenge.rw_termshelf_k07_terms_told.prog) (w := w) (base := base) bt clT n2 d_Term_signs
  have p_tini := ok_Term_ini bt (He.int_ok X G (fx 42 _ rfl)) clT n1 n2 n3 p_need p_whole p_aresigns p_plof p_ends g_NoNumber x_NoNumber i_NoNumber g_NoSigns x_NoSigns i_NoSigns d_Term___init__
  have p_T0 := promAK_of p_tini 3 [] [("most", .int 100)] (fun us mv ws => us ++ (mv ++ ws)) (by decide) (fun q hq => hq) (fun r1 r2 r3 => r1.append (r2.append r3)) (fun D doc pm an cdv ct us mv ws l1 l2 l3 => match us, l1, mv, l2, ws, l3 with
    | [_, _, _], _, [_], _, [], _ => ⟨_, _, _, _, _, _, rfl, rfl, rfl⟩)
  have p_T1 := promAK_of p_tini 3 ["most"] [] (fun us mv ws => us ++ (mv ++ ws)) (by decide) (fun q hq => by cases hq) (fun r1 r2 r3 => r1.append (r2.append r3)) (fun D doc pm an cdv ct us mv ws l1 l2 l3 => match us, l1, mv, l2, ws, l3 with
    | [_, _, _], _, [], _, [_], _ => rfl)
  have p_TA := promAK_of p_tini 1 ["most", "signs", "words"] [] (fun us mv ws => us ++ (mv ++ ws.reverse)) (by decide) (fun q hq => by cases hq) (fun r1 r2 r3 => r1.append (r2.append r3.reverse)) (fun D doc pm an cdv ct us mv ws l1 l2 l3 => match us, l1, mv, l2, ws, l3 with
    | [_], _, [], _, [_, _, _], _ => rfl)
  have p_names := ok_names bt p_take d__law_names
  have p_drows := ok_drows bt p_take p_names d__law_rows
  have p_ltrs := ok_ltrs bt p_take d__law_letters
  have p_signs := ok_signs bt p_take d__law_signs
  have p_starts := ok_Term_starts (P := PySem.Challenge.rw_termshelf_k07_terms_told.prog) (w := w) (base := base) bt clT n3 d_Term_starts
  have p_from := ok_Term_from bt (He.int_ok X G (fx 42 _ rfl)) clT n1 n2 n3 mkT g_Term p_T1 d_Term_term_from
  have p_parts := ok_Term_parts bt clT (He.meth_ok (fx 24 _ rfl)) p_starts (He.meth_ok (fx 25 _ rfl)) p_from d_Term_parts
  have p_swp := ok_Term_swp bt clT (He.meth_ok (fx 24 _ rfl)) p_starts d_Term_spots_with_places
  have p_twords := ok_Term_words (mg := mg) (P := PySem.Challenge.rw_termshelf_k07_terms_told.prog) (w := w) (base := base) clT n1 d_Term_words
  have p_thead := ok_Term_head (mg := mg) (P := PySem.Challenge.rw_termshelf_k07_terms_told.prog) (w := w) (base := base) clT n2 d_Term_head
  have p_tlen := ok_Term_len (P := PySem.Challenge.rw_termshelf_k07_terms_told.prog) (w := w) (base := base) bt clT n2 d_Term___len__
  have p_spots := ok_Term_spots clT (He.meth_ok (fx 27 _ rfl)) p_swp d_Term_spots
  have p_tdeep := ok_Term_deep bt clT (He.meth_ok (fx 28 _ rfl)) p_spots d_Term_deep
  have p_lets := ok_Term_letters bt clT n2 p_let d_Term_letters
  have p_isspot := ok_is_spot1 bt (He.int_ok X G (fx 38 _ rfl)) (He.int_ok X G (fx 39 _ rfl)) p_whole d_is_spot
  have p_placeat := ok_Term_place_at bt clT (He.meth_ok (fx 24 _ rfl)) p_starts p_isspot d_Term_place_at
  have p_partat := ok_Term_part_at clT (He.meth_ok (fx 25 _ rfl)) p_from (He.meth_ok (fx 31 _ rfl)) p_placeat d_Term_part_at
  have p_headat := ok_Term_head_at clT n2 (He.meth_ok (fx 31 _ rfl)) p_placeat d_Term_head_at
  have p_weq := ok_Words_eq (P := PySem.Challenge.rw_termshelf_k07_terms_told.prog) (w := w) (base := base) bt (isCB_ok clW (fx 14 _ rfl)) nbW g_Words d_Words___eq__
  have p_lend := ok_law_end (P := PySem.Challenge.rw_termshelf_k07_terms_told.prog) (w := w) (base := base) bt d__law_end
  have p_lparts := ok_law_parts bt p_lend d__law_parts
  have p_lspots := ok_law_spots bt p_lparts d__law_spots 202
  have p_lat := ok_law_at p_lparts d__law_at
  have p_unl := ok_law_unl (P := PySem.Challenge.rw_termshelf_k07_terms_told.prog) (w := w) (base := base) d__law_unlike_letters
  have p_tr := ok_told_right Y bt clT (isCB_ok clT (fx 15 _ rfl)) g_Term p_lspots p_lparts p_unl (He.meth_ok (fx 21 _ rfl)) p_tsigns (He.meth_ok (fx 28 _ rfl)) p_spots (He.meth_ok (fx 30 _ rfl)) p_lets (He.meth_ok (fx 26 _ rfl)) p_parts (He.meth_ok (fx 23 _ rfl)) p_thead (He.meth_ok (fx 34 _ rfl)) p_tlen (He.meth_ok (fx 29 _ rfl)) p_tdeep (He.meth_ok (fx 22 _ rfl)) p_twords (He.meth_ok (fx 13 _ rfl)) p_weq d__law_told_right
  have p_right := ok_right7 bt clT p_tr p_lspots p_lparts p_lat p_take (He.meth_ok (fx 21 _ rfl)) p_tsigns (He.meth_ok (fx 26 _ rfl)) p_parts (He.meth_ok (fx 32 _ rfl)) p_partat (He.meth_ok (fx 33 _ rfl)) p_headat d__law_right
  have p_great := ok_great bt mkT g_Term p_T1 (by decide) p_tr d__law_great_right
  have p_deepr := ok_deep Y bt clT g_Words mkW p_wini mkT g_Term p_T1 (He.meth_ok (fx 21 _ rfl)) p_tsigns (He.meth_ok (fx 28 _ rfl)) p_spots (He.meth_ok (fx 29 _ rfl)) p_tdeep (He.meth_ok (fx 32 _ rfl)) p_partat (He.meth_ok (fx 33 _ rfl)) p_headat d__law_deep_right
  have p_many := ok_many bt clT g_Words mkW p_wini mkT g_Term p_T1 (He.meth_ok (fx 30 _ rfl)) p_lets (He.meth_ok (fx 32 _ rfl)) p_partat (He.meth_ok (fx 34 _ rfl)) p_tlen d__law_many_letters_right
  exact ok_law bt (ok_cell bt d__law_cell) (ok_bag bt d__law_box) p_take p_drows p_ltrs p_signs g_Words mkW p_wini mkT g_Term p_T0 p_T1 p_TA p_tr p_right p_great p_deepr p_many FL

end TS
open PySem PySem.W PySem.Calls PyProof.Rows
set_option maxHeartbeats 0 in
theorem PySem.Challenge.cw_termshelf_k07_terms_told_holds : PySem.Challenge.rw_termshelf_k07_terms_told.Holds := by
  w_on; o_law
  refine HandSHeadRun.head_any (r := OpenLaw.row PySem.Challenge.rw_termshelf_k07_terms_told) (q := view (OpenLaw.row PySem.Challenge.rw_termshelf_k07_terms_told).prog [59]) (H := TS.hk) (ob := TS.ob) (M := 6000) (loose := TS.loose) (d := HandSHeadRun.topDef (OpenLaw.row PySem.Challenge.rw_termshelf_k07_terms_told).prog 59) (kwd := []) TS.obsY_eq
    (by kernel_rfl) (fun s => by kernel_rfl) TS.run (by kernel_rfl) (by kernel_rfl) (by kernel_rfl) (by rfl) (by first | assumption | decide +kernel) (by decide +kernel) ⟨rfl, rfl, rfl, rfl, rfl, by decide +kernel⟩ ?hw ?hc
  case hw => w_witness2
  case hc =>
    refine TS.walkG (l := PySem.Challenge.rw_termshelf_k07_terms_told) (n := 63) (k := 216) (x := "_law_script") rfl (by decide) (by kernel_rfl) ⟨rfl, by decide, by decide⟩ ?F
    intro w mg fa h Y G hmg0
    obtain ⟨K, KX, c, c1, c2⟩ := Y
    have hmg : mg ("law" : PySem.Str) = some (.ref fa) := by
      have e : (HandSHeadRun.topDef (OpenLaw.row PySem.Challenge.rw_termshelf_k07_terms_told).prog 59).name = ("law" : PySem.Str) := by kernel_rfl
      rw [← e]
      exact hmg0
    exact ⟨K, TS.facts KX G hmg c c1 c2⟩

