import PyProof.Rows.All
import Wide.All
import OpenK.AllK
import Wide.FinOn
import KE.KStateDown
import Lean
import HandS.ForMost
import HandS.More
import HandS.WordsExc
import HandS.Defaults
import HandS.IsInst
import HandS.Wide
import HandS.Flow
import HandS.Conv
import HandS.Replace
import HandS.EndBits
import HandS.Head0
import HandS.Head1
import HandS.Head2
import HandS.HeadEnd
import HandS.HeadHook1
import HandS.HeadHook2
import HandS.Walk
import HandS.SetBool
import HandS.SetKeys
import KE.GoesMore
import PyProof.EnumMake
import HandS.ExcInit
import HandS.ExcField
import HandS.ExcOwn
import HandS.ClsMeth
import HandS.DictComp
import HandS.WordsDict
import PyProof.ReprLen
import HandS.MakeKwOnly
import KE.IntTextLaws
import PySem.Challenge.RW_termshelf_k08_terms_refused
set_option Elab.async false
set_option linter.all false
set_option maxRecDepth 100000
/-! ### 1. promises of defs that may show things (repr): no guard runs around -/
namespace TS
open PySem PySem.Spec PyProof.Rows L2
structure FnG (P : Program) (w : World) (K : PySem.W.Frag) (mg : Str → Option Value) (base : Heap) (CX : CXT) (k : Nat) (f : Addr) (fd : FuncData) (ps : List Str) (sp : Sp) : Prop where
  len : ∀ vs H Q E, sp vs H Q E → vs.length = ps.length
  run : ∀ (A : Around) (outer : List Env) (s : Shared) (H : Hp) (args : Args) (us : List Value) (vs : List V) (Q : VK) (E : XK), A.guards = some [] → Room k A → Env0 P w K mg base A outer s H →
    BindsTo s fd args (ps.zip us) → Vals vs us → sp vs H Q E → codeAny (model P w) A (.call (.ref f) args) (CR CX outer P w H s Q E) s
section
variable {P : Program} {w : World} {K : PySem.W.Frag} {mg : Str → Option Value} {base : Heap} {CX : CXT} {k : Nat} {f : Addr} {fd : FuncData} {ps : List Str} {sp : Sp}
theorem FnG.of (F : FnOk P w K mg base CX k f fd ps sp) : FnG P w K mg base CX k f fd ps sp := ⟨F.len, fun A outer s H args us vs Q E _ => F.run A outer s H args us vs Q E⟩
/-- the body's rule, the guards told -/
theorem okG {x qual : Str} {params : Arguments} {body : List Stmt} {scope : Scope} {dvs : List V} {kws : List (Str × V)} {N : List Str} (F : FunD K x qual params body scope dvs kws f fd) (S : FnScope N ps scope)
    (len : ∀ vs H Q E, sp vs H Q E → vs.length = ps.length)
    (hbody : ∀ (cdv : Value) (A : Around) (outer : List Env) (s : Shared) (H : Hp) (vs : List V) (Q : VK) (E : XK), (A.deeper (envOfC qual scope s.heap.objs.size f cdv)).guards = some [] →
      Room k (A.deeper (envOfC qual scope s.heap.objs.size f cdv)) → sp vs H Q E →
      ∃ t, PSs (cxOf CX P w K mg base N qual scope f cdv A outer s H E) body t ∧ t { nx := fun _ H' => Q .non H', rt := Q } (start N vs) H) : FnG P w K mg base CX (k + 1) f fd ps sp := by
  obtain ⟨oc, od, dV, kV, doc, pm, an, cdv, ct, osl, rfl, lk, hcd, _, _⟩ := F.ex
  refine ⟨len, fun A outer s H args us vs Q E hg hr e0 hb r hsp => ?_⟩
  have KX : K.In s.heap := e0.mod.kin.keeps fun b o e => (e0.bs b o e).1
  have NL : s.heap.NoLimit := e0.mod.nolimit.keeps fun b o e => (e0.bs b o e).1
  have kinds : ∀ y ∈ ps.zip us, scope.names.lookup y.1 = some .local ∨ (scope.names.lookup y.1 = some .cell ∧ ((cellsFrom (s.heap.objs.size + 1) scope.names []).lookup y.1).isSome = true) := by
    rintro ⟨n, v⟩ hy
    exact (S.par n (List.of_mem_zip hy).1).imp id fun q => ⟨q, PySem.W.cellsFrom_some _ _ _ (.inl q)⟩
  refine codeAny_call_function hr.depth (KX _ _ lk) rfl S.co S.gen rfl (PySem.W.codeRec_of KX hcd) (hb _ _ _ _ (wpAny_newFunctionEnv_cells S.kind kinds fun env he s1 x => ?_))
  subst he
  obtain ⟨t, ht, hq⟩ := hbody cdv A outer s H vs Q E hg (hr.deeper _) hsp
  have I0 := inv_start (CX := CX) (E := E) (f := f) (cd := cdv) (qual := qual) S hr.hd e0 (len _ _ _ _ hsp) r x
  refine ⟨NL.keeps x.toInCall.keep, codeAny_func (wpAny_mono (ht.run [] s1 (start N vs) H _ I0 hq) (fun fl s' hs => ?_) fun _ _ z => z)⟩
  cases fl with
  | ret u => exact let ⟨v, _, H', J, rv, q⟩ := hs; ⟨v, H', J.os, J.bare, J.base, J.hok, rv, q⟩
  | next => exact let ⟨_, H', J, q⟩ := hs; ⟨V.non, H', J.os, J.bare, J.base, J.hok, rfl, q⟩
  | brk => exact let ⟨_, _, _, q⟩ := hs; False.elim q
  | cont => exact let ⟨_, _, _, q⟩ := hs; False.elim q
end
section
variable {X : Cx} {CX : CXT} {k : Nat} {f C : Addr} {fd : FuncData} {ps : List Str} {sp : Sp} {dvs : List V} {ds : List Value} {E : XK} {x m : Str} {p pos apos : Pos} {e o : Expr} {es : List Expr} {ta : TE} {t : TA}
theorem run_G {pins : List (Addr × Obj)} {σ : L2.St} {H : Hp} {s : Shared} {Q : VK} {us : List Value} {vs : List V} (F : FnG X.prog X.w X.K X.mg X.base CX k f fd ps sp) (hgd : X.A.guards = some []) (hr : Room k X.A)
    (hb : Binds X.K fd ps ds) (hd : Vals dvs ds) (hx : Passes CX X E) (I : Inv X pins σ H s) (r : Vals vs us) (h : sp (vs ++ dvs) H Q E) : wpAny (model X.prog X.w) X.A (call (.ref f) us) (EP X pins σ Q) X.xe s := by
  have r2 := r.append hd
  have hl : (us ++ ds).length = ps.length := r2.length.symm.trans (F.len _ _ _ _ h)
  refine wpAny_call (codeAny_mono (F.run X.A X.stack s H ⟨us, []⟩ (us ++ ds) (vs ++ dvs) Q E hgd hr I.env0 (hb s us I.kIn hl) r2 h) fun r s' hq => ?_)
  match r, hq with
  | .error e, hq => exact hx pins σ H s e s' I hq
  | .ok (.ret u), hq => exact I.after hq
theorem pe_callG (F : FnG X.prog X.w X.K X.mg X.base CX k f fd ps sp) (hgd : X.A.guards = some []) (hr : Room k X.A) (hg : Gl X x) (hm : X.mg x = some (.ref f)) (hk : PySem.W.keepIn X.K (.ref f) = true)
    (hb : Binds X.K fd ps ds) (hd : Vals dvs ds) (hx : Passes CX X E) (ha : PA X (e :: es) t) (hdb : (x == ("__debug__" : Str)) = false := by decide)
    (he : starEach (e :: es) X.env = (false, eval e X.env) :: starEach es X.env := by rfl) (hpl : (backTo pos (starEach es X.env)).any (·.1) = false := by rfl) :
    PE X (.Call (.Name x p) (e :: es) [] pos) (tCall sp dvs E t) := by
  refine ⟨fun pins s σ H Q I h => wpAny_Call_Name_kw (ld_glob I hg hm ?_ hdb)⟩
  exact PySem.W.callWith_K (h₀ := X.base) I.ok.mod.kin hk (thn (ha.run pos pins s σ H _ I h) fun us s1 ⟨vs, H1, I1, r, q⟩ => ⟨I1.kIn, run_G F hgd hr hb hd hx I1 r q⟩) he hpl
end

/-! ### 2. data at any depth, dicts too, and how they are shown -/
def kD : Key → PyData
  | .inl i => .int i
  | .inr x => .str x
mutual
inductive Dt (K : PySem.W.Frag) (H : Hp) : V → PyData → Prop
  | non : Dt K H .non .none
  | bl (b : Bool) : Dt K H (.bl b) (.bool b)
  | int (i : Int) : Dt K H (.int i) (.int i)
  | str (x : Str) : Dt K H (.str x) (.str x)
  | lst {a : Addr} {xs : List V} {ds : List PyData} : SqL K H a xs → DtAll K H xs ds → Dt K H (.ref a) (.list ds)
  | tup {a : Addr} {xs : List V} {ds : List PyData} : SqT K H a xs → DtAll K H xs ds → Dt K H (.ref a) (.tuple ds)
  | dct {a : Addr} {ks : List Key} {xs : List V} {ds : List PyData} : H a = some (.dK (ks.zip xs)) → ks.length = xs.length → DtAll K H xs ds → Dt K H (.ref a) (.dict ((ks.map kD).zip ds))
inductive DtAll (K : PySem.W.Frag) (H : Hp) : List V → List PyData → Prop
  | nil : DtAll K H [] []
  | cons {v : V} {vs : List V} {d : PyData} {ds : List PyData} : Dt K H v d → DtAll K H vs ds → DtAll K H (v :: vs) (d :: ds)
end
theorem DtAll.length {K : PySem.W.Frag} {H : Hp} : ∀ {vs : List V} {ds : List PyData}, DtAll K H vs ds → vs.length = ds.length
  | _, _, .nil => rfl
  | _, _, .cons _ t => congrArg (· + 1) (DtAll.length t)
theorem SqT.same {K : PySem.W.Frag} {H H' : Hp} {a : Addr} {xs : List V} (e : Same H H') (h : SqT K H a xs) : SqT K H' a xs := by
  rcases h with (h | ⟨o, h⟩) | h
  · exact .inl (.inl (e _ _ h))
  · exact .inl (.inr ⟨o, e _ _ h⟩)
  · exact .inr h
mutual
theorem Dt.same {K : PySem.W.Frag} {H H' : Hp} (e : Same H H') : ∀ {v : V} {d : PyData}, Dt K H v d → Dt K H' v d
  | _, _, .non => .non
  | _, _, .bl b => .bl b
  | _, _, .int i => .int i
  | _, _, .str x => .str x
  | _, _, .lst h a => .lst (e.seq h) (DtAll.same e a)
  | _, _, .tup h a => .tup (SqT.same e h) (DtAll.same e a)
  | _, _, .dct h l a => .dct (e _ _ h) l (DtAll.same e a)
theorem DtAll.same {K : PySem.W.Frag} {H H' : Hp} (e : Same H H') : ∀ {v : List V} {d : List PyData}, DtAll K H v d → DtAll K H' v d
  | _, _, .nil => .nil
  | _, _, .cons a b => .cons (Dt.same e a) (DtAll.same e b)
end
/-- what the written part tells of the machine's own objects -/
structure Sys (K : PySem.W.Frag) : Prop where
  mods : ∃ o, K.lookup sysModules = some o ∧ o.cls = .type "dict"
  book : PySem.W.nsIn K cStatics sharingNotToldKey = some none
section
variable {X : Cx} {pins : List (Addr × Obj)} {σ : L2.St} {H : Hp} {s : Shared}
theorem noMods (Y : Sys X.K) (I : Inv X pins σ H s) {a : Addr} {o : Obj} (e : s.heap.get? a = some o) (h : o.cls ≠ .type "dict") : sysModules ≠ a := fun z => by
  obtain ⟨o', h1, h2⟩ := Y.mods
  have q := I.kIn _ _ h1
  rw [z, e] at q
  cases q
  exact h h2
theorem keys_read : ∀ {es : List DictEntry} {vs : List (Key × Value)}, Pairs (mixKind X.prog X.w) es vs → ReadsAll s.heap (es.map (·.key)) (vs.map fun kv => kD kv.1) []
  | _, _, .nil => .nil
  | _, _, .cons hk hv t => by
    have q := keys_read t
    rcases keyIs_shape hk with ⟨i, t, e1, e2⟩ | ⟨x, t, e1, e2⟩
    · rw [List.map_cons, List.map_cons, e2]
      show ReadsAll s.heap _ (kD _ :: _) _
      rw [e1]
      exact ReadsAll.cons (as := []) (Reads.int i t) q
    · rw [List.map_cons, List.map_cons, e2]
      show ReadsAll s.heap _ (kD _ :: _) _
      rw [e1]
      exact ReadsAll.cons (as := []) (Reads.str x t) q
theorem vals_read : ∀ {es : List DictEntry} {vs : List (Key × Value)}, Pairs (mixKind X.prog X.w) es vs → es.map (·.val) = vs.map (·.2)
  | _, _, .nil => rfl
  | _, _, .cons _ hv t => by rw [List.map_cons, List.map_cons, hv, vals_read t]
theorem kv_fst {κ : Type} : ∀ {kvs : List (κ × V)} {vs : List (κ × Value)}, KV kvs vs → kvs.map (·.1) = vs.map (·.1)
  | _, _, .nil => rfl
  | _, _, .cons r t => by rw [List.map_cons, List.map_cons, r.1, kv_fst t]
theorem kv_snd {κ : Type} : ∀ {kvs : List (κ × V)} {vs : List (κ × Value)}, KV kvs vs → Vals (kvs.map (·.2)) (vs.map (·.2))
  | _, _, .nil => .nil
  | _, _, .cons r t => .cons r.2 (kv_snd t)
theorem zip_fst {α β : Type} : ∀ {l : List α} {m : List β}, l.length = m.length → (l.zip m).map (·.1) = l
  | [], _, _ => by simp
  | a :: l, [], h => by simp at h
  | a :: l, b :: m, h => by
    rw [List.zip_cons_cons, List.map_cons, zip_fst (by simpa using h)]
theorem zip_snd {α β : Type} : ∀ {l : List α} {m : List β}, l.length = m.length → (l.zip m).map (·.2) = m
  | [], m, h => by cases m <;> simp_all
  | a :: l, [], h => by simp
  | a :: l, b :: m, h => by
    rw [List.zip_cons_cons, List.map_cons, zip_snd (by simpa using h)]
mutual
theorem Dt.reads (Y : Sys X.K) (I : Inv X pins σ H s) : ∀ {v : V} {d : PyData} {u : Value}, Dt X.K H v d → RelV v u → ∃ as, Reads s.heap u d as ∧ sysModules ∉ as
  | _, _, _, .non, r => by
    cases r
    exact ⟨_, Reads.none, by simp⟩
  | _, _, _, .bl b, r => by
    cases r
    exact ⟨_, Reads.bool b, by simp⟩
  | _, _, _, .int i, r => by
    obtain ⟨t, rfl⟩ := r
    exact ⟨_, Reads.int i t, by simp⟩
  | _, _, _, .str x, r => by
    obtain ⟨t, rfl⟩ := r
    exact ⟨_, Reads.str x t, by simp⟩
  | _, _, _, .lst hs ha, r => by
    cases r
    obtain ⟨its, rv, ⟨o, n, ho, hc, _, hd⟩, _⟩ := I.list hs
    obtain ⟨as, hr, hn⟩ := DtAll.reads Y I ha rv
    have ne := noMods Y I ho (by rw [hc]; decide +kernel)
    exact ⟨_, Reads.list ho hc hd hr, fun z => (List.mem_cons.mp z).elim ne hn⟩
  | _, _, _, .tup hs ha, r => by
    cases r
    obtain ⟨its, rv, ⟨o, ho, hc, n, hd⟩, _⟩ := I.tuple hs
    obtain ⟨as, hr, hn⟩ := DtAll.reads Y I ha rv
    exact ⟨_, Reads.tuple ho hc hd hr, hn⟩
  | _, _, _, .dct (a := a) (ks := ks) (xs := xs) (ds := ds) h l ha, r => by
    cases r
    obtain ⟨hz, hS, vs, rk, o, es, ep, ho, hx, hd, _, hp, _⟩ := (show ObjOk X.prog X.w H s.heap a (.dK (ks.zip xs)) from I.hok a _ h)
    have e1 := (kv_fst rk).symm.trans (zip_fst l)
    have e2 := kv_snd rk
    rw [zip_snd l] at e2
    obtain ⟨as, hr, hn⟩ := DtAll.reads Y I ha e2
    have q1 : ReadsAll s.heap (es.toList.map (·.key)) (ks.map kD) [] := by
      have z := keys_read (s := s) hp
      have z2 : vs.map (fun kv => kD kv.1) = ks.map kD := by rw [← e1, List.map_map]; rfl
      rw [z2] at z
      exact z
    have ln : (ks.map kD).length = ds.length := by rw [List.length_map, l, ha.length]
    have q2 := vals_read hp
    refine ⟨a :: [] ++ as, Reads.dict ho hx.1 hd (by rw [zip_fst ln]; exact q1) (by rw [zip_snd ln, q2]; exact hr), fun z => ?_⟩
    rcases List.mem_cons.mp (show sysModules ∈ a :: as from z) with z | z
    · exact absurd z.symm (by simpa using hS)
    · exact hn z
theorem DtAll.reads (Y : Sys X.K) (I : Inv X pins σ H s) : ∀ {vs : List V} {ds : List PyData} {us : List Value}, DtAll X.K H vs ds → Vals vs us → ∃ as, ReadsAll s.heap us ds as ∧ sysModules ∉ as
  | _, _, _, .nil, r => by
    cases r
    exact ⟨_, ReadsAll.nil, by simp⟩
  | _, _, _, .cons h1 h2, r => by
    cases r with
    | cons r1 r2 =>
      obtain ⟨as, q1, n1⟩ := Dt.reads Y I h1 r1
      obtain ⟨bs, q2, n2⟩ := DtAll.reads Y I h2 r2
      exact ⟨_, ReadsAll.cons q1 q2, fun z => (List.mem_append.mp z).elim n1 n2⟩
end
/-- repr(x), x data -/
def rRepr (K : PySem.W.Frag) : List V → Hp → VK → Prop := fun xs H Q => ∃ x d, xs = [x] ∧ Dt K H x d ∧ d.showable = true ∧ d.depth ≤ 40 ∧ d.shown.length ≤ sizeLine ∧ Q (.str d.shown) H
theorem call_repr (Y : Sys X.K) (hgd : X.A.guards = some []) (hu : X.A.units + 64 < cLine) : CallR X (.builtin "repr") (rRepr X.K) := by
  intro pins s σ H xs us Q I r h
  obtain ⟨x, d, rfl, hd, hs, hp, hz, q⟩ := h
  obtain ⟨u, rfl, r1⟩ := vals1 r
  obtain ⟨as, rd, hn⟩ := Dt.reads Y I hd r1
  have fin : ∀ h' v tk, (∀ b o, s.heap.get? b = some o → h'.get? b = some o) → EP X pins σ Q (.str d.shown v) { s with heap := h', toks := tk } := fun h' v tk hk => ⟨.str d.shown, H, I.kept hk, ⟨_, rfl⟩, q⟩
  cases hd with
  | non => cases r1; exact PySem.P.repr_of_none (fin _ _ _ fun _ _ z => z)
  | bl b => cases r1; exact PySem.P.repr_of_bool (fin _ _ _ fun _ _ z => z)
  | int i =>
    obtain ⟨t, rfl⟩ := r1
    exact PySem.P.repr_of_int (by simpa [PyData.showable] using hs) (fin _ _ _ fun _ _ z => z)
  | str y =>
    obtain ⟨t, rfl⟩ := r1
    exact PySem.P.repr_of_str (fin _ _ _ fun _ _ z => z) hz
  | lst h1 h2 => cases r1; exact repr_of_reads' rd hs (fun _ => hn) hgd (by omega) (fun _ _ e => e) fin hz
  | tup h1 h2 => cases r1; exact repr_of_reads' rd hs (fun _ => hn) hgd (by omega) (fun _ _ e => e) fin hz
  | dct h1 h2 h3 => cases r1; exact repr_of_reads' rd hs (fun _ => hn) hgd (by omega) (fun _ _ e => e) fin hz
theorem ns_none {K : PySem.W.Frag} {h : Heap} {a : Addr} {m : Str → Option Value} {n : Str} (X : K.In h) (G : h.Ns a m) (e : PySem.W.nsIn K a n = some none) : m n = none := by
  obtain ⟨o, es, ep, ho, hd, _, hf⟩ := G
  unfold PySem.W.nsIn at e
  split at e
  · rename_i c d es' n' sl q
    have z := X _ _ q
    rw [ho] at z
    cases z
    cases hd
    split at e
    · cases e
    · rename_i he
      rw [← hf]
      unfold nsFind findBy
      rw [← Array.find?_toList, he]
      rfl
  · cases e
theorem unbooked (Y : Sys X.K) (I : Inv X pins σ H s) : NoneBooked s.heap := by
  obtain ⟨mc, h1, h2⟩ := I.nolimit
  exact ⟨mc, h1, ns_none I.kIn h1 Y.book⟩
end
end TS

/-! ### 3. defs by their promises -/
namespace TS
open PySem PySem.Spec PyProof.Rows L2
def Def (K : PySem.W.Frag) (mg : Str → Option Value) (x : Str) (st : Stmt) : Prop := ∃ f fd, FunD K x x (defArgs st) (defBody st) (defScope st) [] [] f fd ∧ mg x = some (.ref f)
def Prom (P : Program) (w : World) (K : PySem.W.Frag) (mg : Str → Option Value) (base : Heap) (k : Nat) (x : Str) (ps : List Str) (sp : Sp) : Prop :=
  ∃ f fd, FnOk P w K mg base CX0 k f fd ps sp ∧ mg x = some (.ref f) ∧ PySem.W.keepIn K (.ref f) = true ∧ Binds K fd ps []
def PromG (P : Program) (w : World) (K : PySem.W.Frag) (mg : Str → Option Value) (base : Heap) (k : Nat) (x : Str) (ps : List Str) (sp : Sp) : Prop :=
  ∃ f fd, FnG P w K mg base CX0 k f fd ps sp ∧ mg x = some (.ref f) ∧ PySem.W.keepIn K (.ref f) = true ∧ Binds K fd ps []
section
variable {X : Cx} {k : Nat} {ps : List Str} {sp : Sp} {x : Str} {p pos : Pos} {e : Expr} {es : List Expr} {t : TA}
theorem pe_pc (pr : Prom X.prog X.w X.K X.mg X.base k x ps sp) (hr : Room k X.A) (hg : Gl X x) (ha : PA X (e :: es) t) (hdb : (x == ("__debug__" : Str)) = false := by decide)
    (he : starEach (e :: es) X.env = (false, eval e X.env) :: starEach es X.env := by rfl) (hpl : (backTo pos (starEach es X.env)).any (·.1) = false := by rfl) :
    PE X (.Call (.Name x p) (e :: es) [] pos) (tCall sp [] E0 t) := by
  obtain ⟨f, fd, F, m, kp, b⟩ := pr
  exact pe_call F hr hg m kp b .nil pass0 ha hdb he hpl
theorem pe_pcG (pr : PromG X.prog X.w X.K X.mg X.base k x ps sp) (hgd : X.A.guards = some []) (hr : Room k X.A) (hg : Gl X x) (ha : PA X (e :: es) t) (hdb : (x == ("__debug__" : Str)) = false := by decide)
    (he : starEach (e :: es) X.env = (false, eval e X.env) :: starEach es X.env := by rfl) (hpl : (backTo pos (starEach es X.env)).any (·.1) = false := by rfl) :
    PE X (.Call (.Name x p) (e :: es) [] pos) (tCall sp [] E0 t) := by
  obtain ⟨f, fd, F, m, kp, b⟩ := pr
  exact pe_callG F hgd hr hg m kp b .nil pass0 ha hdb he hpl
end
section
variable {P : Program} {w : World} {K : PySem.W.Frag} {mg : Str → Option Value} {base : Heap} {N ps : List Str} {k : Nat} {sp : Sp} {x : Str} {st : Stmt}
theorem prom_mk (D : Def K mg x st) (S : FnScope N ps (defScope st)) (len : ∀ vs H Q E, sp vs H Q E → vs.length = ps.length)
    (hb : ∀ (kV doc pm : Value) (an : Option Addr) (cdv ct : Value) (us : List Value), us.length = ps.length → bindArgs (PySem.W.fnOf x x (defArgs st) (defBody st) (defScope st) .none kV doc pm an cdv ct) ⟨us, []⟩ = pure (ps.zip us))
    (body : ∀ (f : Addr) (cdv : Value) (A : Around) (outer : List Env) (s : Shared) (H : Hp) (vs : List V) (Q : VK) (E : XK), Room k (A.deeper (envOfC x (defScope st) s.heap.objs.size f cdv)) → sp vs H Q E →
      ∃ t, PSs (cxOf CX0 P w K mg base N x (defScope st) f cdv A outer s H E).nox (defBody st) t ∧ t { nx := fun _ H' => Q .non H', rt := Q } (start N vs) H) : Prom P w K mg base (k + 1) x ps sp := by
  obtain ⟨f, fd, F, m⟩ := D
  refine ⟨f, fd, F.ok S len fun cdv A outer s H vs Q E hr h => ?_, m, F.kp, F.bindsN hb⟩
  obtain ⟨t, h1, h2⟩ := body f cdv A outer s H vs Q E hr h
  exact ⟨t, h1.nox, h2⟩
theorem promG_mk (D : Def K mg x st) (S : FnScope N ps (defScope st)) (len : ∀ vs H Q E, sp vs H Q E → vs.length = ps.length)
    (hb : ∀ (kV doc pm : Value) (an : Option Addr) (cdv ct : Value) (us : List Value), us.length = ps.length → bindArgs (PySem.W.fnOf x x (defArgs st) (defBody st) (defScope st) .none kV doc pm an cdv ct) ⟨us, []⟩ = pure (ps.zip us))
    (body : ∀ (f : Addr) (cdv : Value) (A : Around) (outer : List Env) (s : Shared) (H : Hp) (vs : List V) (Q : VK) (E : XK), (A.deeper (envOfC x (defScope st) s.heap.objs.size f cdv)).guards = some [] →
      Room k (A.deeper (envOfC x (defScope st) s.heap.objs.size f cdv)) → sp vs H Q E →
      ∃ t, PSs (cxOf CX0 P w K mg base N x (defScope st) f cdv A outer s H E).nox (defBody st) t ∧ t { nx := fun _ H' => Q .non H', rt := Q } (start N vs) H) : PromG P w K mg base (k + 1) x ps sp := by
  obtain ⟨f, fd, F, m⟩ := D
  refine ⟨f, fd, okG F S len fun cdv A outer s H vs Q E hg hr h => ?_, m, F.kp, F.bindsN hb⟩
  obtain ⟨t, h1, h2⟩ := body f cdv A outer s H vs Q E hg hr h
  exact ⟨t, h1.nox, h2⟩
end
section
variable {P : Program} {w : World} {K : PySem.W.Frag} {mg : Str → Option Value} {base : Heap} {N ps : List Str} {k : Nat} {sp : Sp} {x : Str} {st : Stmt} {f : Addr} {fd : FuncData}
theorem fnG_mk (F : FunD K x x (defArgs st) (defBody st) (defScope st) [] [] f fd) (S : FnScope N ps (defScope st)) (len : ∀ vs H Q E, sp vs H Q E → vs.length = ps.length)
    (body : ∀ (f : Addr) (cdv : Value) (A : Around) (outer : List Env) (s : Shared) (H : Hp) (vs : List V) (Q : VK) (E : XK), (A.deeper (envOfC x (defScope st) s.heap.objs.size f cdv)).guards = some [] →
      Room k (A.deeper (envOfC x (defScope st) s.heap.objs.size f cdv)) → sp vs H Q E →
      ∃ t, PSs (cxOf CX0 P w K mg base N x (defScope st) f cdv A outer s H E).nox (defBody st) t ∧ t { nx := fun _ H' => Q .non H', rt := Q } (start N vs) H) : FnG P w K mg base CX0 (k + 1) f fd ps sp := by
  refine okG F S len fun cdv A outer s H vs Q E hg hr h => ?_
  obtain ⟨t, h1, h2⟩ := body f cdv A outer s H vs Q E hg hr h
  exact ⟨t, h1.nox, h2⟩
end
/-- the built-in names that the text leaves alone -/
structure Bt (mg : Str → Option Value) : Prop where
  len_ : mg "len" = none
  isinstance_ : mg "isinstance" = none
  range_ : mg "range" = none
  max_ : mg "max" = none
  min_ : mg "min" = none
  int_ : mg "int" = none
  str_ : mg "str" = none
  bool_ : mg "bool" = none
  repr_ : mg "repr" = none
  all_ : mg "all" = none
  any_ : mg "any" = none
  list_ : mg "list" = none
  tuple_ : mg "tuple" = none
  dict_ : mg "dict" = none
  set_ : mg "set" = none
  sorted_ : mg "sorted" = none
  enumerate_ : mg "enumerate" = none
  zip_ : mg "zip" = none
  reversed_ : mg "reversed" = none
def btNames : List Str := ["len", "isinstance", "range", "max", "min", "int", "str", "bool", "repr", "all", "any", "list", "tuple", "dict", "set", "sorted", "enumerate", "zip", "reversed"]
theorem bt_of {K : PySem.W.Frag} {h : Heap} {mg : Str → Option Value} (X : K.In h) (G : h.Ns mainGlobals mg) (c : btNames.all (fun x => (He.Fa.free x).ok K) = true) : Bt mg := by
  have z : ∀ x ∈ btNames, mg x = none := fun x hx => He.free_ok X G (List.all_eq_true.mp c x hx)
  refine ⟨z _ ?_, z _ ?_, z _ ?_, z _ ?_, z _ ?_, z _ ?_, z _ ?_, z _ ?_, z _ ?_, z _ ?_, z _ ?_, z _ ?_, z _ ?_, z _ ?_, z _ ?_, z _ ?_, z _ ?_, z _ ?_, z _ ?_⟩ <;> decide +kernel

/-! ### 4. heaps: what is kept but for one object -/
def Fx (b : Addr) (H H' : Hp) : Prop := ∀ a o, a ≠ b → H a = some o → H' a = some o
def hide (H : Hp) (b : Addr) : Hp := fun a => if a = b then none else H a
theorem hide_self {H : Hp} {b : Addr} : hide H b b = none := by unfold hide; rw [if_pos rfl]
theorem hide_ne {H : Hp} {a b : Addr} (h : a ≠ b) : hide H b a = H a := by unfold hide; rw [if_neg h]
theorem hide_same {H : Hp} {b : Addr} : Same (hide H b) H := fun a o e => by
  unfold hide at e
  split at e
  · cases e
  · exact e
theorem Fx.refl (b : Addr) (H : Hp) : Fx b H H := fun _ _ _ e => e
theorem Fx.trans {b : Addr} {H H1 H2 : Hp} (x : Fx b H H1) (y : Fx b H1 H2) : Fx b H H2 := fun a o h e => y a o h (x a o h e)
theorem Fx.of {b : Addr} {H H' : Hp} (s : Same H H') : Fx b H H' := fun a o _ e => s a o e
theorem Fx.upd {b : Addr} {H H' : Hp} {o : HO} (x : Fx b H H') : Fx b H (upd H' b o) := fun a u h e => by
  rw [upd_ne h]
  exact x a u h e
theorem Fx.new {b p : Addr} {H H' : Hp} {o : HO} (x : Fx b H H') (h : H' p = none) : Fx b H (L2.upd H' p o) := fun a u ha e => by
  have q := x a u ha e
  rw [upd_ne (ne_of_none q h)]
  exact q
theorem Fx.hide {b : Addr} {H H' : Hp} (x : Fx b H H') : Same (hide H b) (hide H' b) := fun a o e => by
  have h : a ≠ b := fun z => by rw [z, hide_self] at e; cases e
  rw [hide_ne h] at e ⊢
  exact x a o h e
theorem Fx.sq {K : PySem.W.Frag} {b a : Addr} {H H' : Hp} {xs : List V} (x : Fx b H H') (h : a ≠ b) (s : SqL K H a xs) : SqL K H' a xs := by
  rcases s with (q | ⟨o, q⟩) | q
  · exact .inl (.inl (x _ _ h q))
  · exact .inl (.inr ⟨o, x _ _ h q⟩)
  · exact .inr q
theorem Same.new {H H' : Hp} {p : Addr} {o : HO} (s : Same H H') (h : H' p = none) : Same H (L2.upd H' p o) := fun a u e => by
  have q := s a u e
  rw [upd_ne (ne_of_none q h)]
  exact q
theorem sq_hide {K : PySem.W.Frag} {H : Hp} {a b : Addr} {xs : List V} (h : a ≠ b) (s : SqL K H a xs) : SqL K (hide H b) a xs := by
  rcases s with (q | ⟨o, q⟩) | q
  · exact .inl (.inl (by rw [hide_ne h]; exact q))
  · exact .inl (.inr ⟨o, by rw [hide_ne h]; exact q⟩)
  · exact .inr q
/-! ### 5. bags of draws -/
def Bag (n : Nat) (o : HO) : Prop := ∃ x y z : Int, o = .lst [.int x, .int y, .int z] ∧ 0 ≤ x ∧ 0 ≤ y ∧ y < 2147483629 ∧ 0 ≤ z ∧ z + n ≤ 1000000000
theorem Bag.mono {m n : Nat} {o : HO} (h : Bag n o) (l : m ≤ n) : Bag m o := let ⟨x, y, z, e, a, b, c, d, f⟩ := h; ⟨x, y, z, e, a, b, c, d, by omega⟩
theorem Bag.is {n : Nat} {o : HO} (h : Bag n o) : ∃ xs, o = .lst xs := let ⟨_, _, _, e, _⟩ := h; ⟨_, e⟩
/-- a cell of the script, or a number of its own -/
def spCell (K : PySem.W.Frag) : Sp := fun vs H Q _ => ∃ (a : Addr) (ns : List Int) (k : Nat), vs = [.ref a, .int k] ∧ SqL K H a (ns.map V.int) ∧ k ≤ 100 ∧ ∀ c, Q (.int c) H
def spBag : Sp := fun vs H Q _ => ∃ c : Int, vs = [.int c] ∧ ∀ p o, H p = none → Bag 900000000 o → Q (.ref p) (upd H p o)
/-- a draw below many -/
def spTake : Sp := fun vs H Q _ => ∃ (b : Addr) (o : HO) (n : Nat) (many : Int), vs = [.ref b, .int many] ∧ H b = some o ∧ Bag (n + 1) o ∧ 0 < many ∧ many < 2 ^ 200 ∧
  ∀ (d : Int) (o' : HO), 0 ≤ d → d < many → Bag n o' → Q (.int d) (upd H b o')
/-! ### 6. rules whose readings name K itself (for blocks) -/
def rLenK (K : PySem.W.Frag) : List V → Hp → VK → Prop := fun xs H Q => ∃ x n, xs = [x] ∧ LenV K x H n ∧ Q (.int n) H
def rListOf (K : PySem.W.Frag) : List V → Hp → VK → Prop := fun xs H Q => ∃ p ys, xs = [.ref p] ∧ (SqL K H p ys ∨ SqT K H p ys) ∧ ∀ l, H l = none → Q (.ref l) (upd H l (.lst ys))
def rTupleOf (K : PySem.W.Frag) : List V → Hp → VK → Prop := fun xs H Q => ∃ p ys, xs = [.ref p] ∧ ((SqL K H p ys ∧ ∀ l, H l = none → Q (.ref l) (upd H l (.tup ys))) ∨ (SqT K H p ys ∧ Q (.ref p) H))
def rJoin (K : PySem.W.Frag) : V → List V → Hp → VK → Prop := fun x xs H Q => ∃ a p, ∃ ys : List Str, x = .str a ∧ xs = [.ref p] ∧ (SqL K H p (ys.map V.str) ∨ SqT K H p (ys.map V.str)) ∧
  (ys.map (·.length)).sum + ys.length * a.length ≤ 16777216 ∧ Q (.str (Txt.join a ys)) H
section
variable {X : Cx} {K : PySem.W.Frag}
theorem ix_listK (hK : X.K = K := by rfl) : IxR X (rIxL K) := by subst hK; exact ix_list
theorem ix_tupK (hK : X.K = K := by rfl) : IxR X (rIxT K) := by subst hK; exact ix_tup
theorem sl_listK (hK : X.K = K := by rfl) : SlR X (rSlL K) := by subst hK; exact sl_list
theorem lenK (hK : X.K = K := by rfl) : CallR X (.builtin "len") (rLenK K) := by subst hK; exact call_len
theorem isiK (hK : X.K = K := by rfl) : CallR X (.builtin "isinstance") (rIsi K) := by subst hK; exact call_isi
theorem isiTK (hK : X.K = K := by rfl) : CallR X (.builtin "isinstance") (rIsiT K) := by subst hK; exact call_isiT
theorem allK (hc : X.calm = true) (hK : X.K = K := by rfl) : CallR X (.builtin "all") (rAll K) := by subst hK; exact cr_all hc
theorem listK (hK : X.K = K := by rfl) : CallR X (.type "list") (rListOf K) := by subst hK; exact call_list_of
theorem tupleK (hK : X.K = K := by rfl) : CallR X (.type "tuple") (rTupleOf K) := by subst hK; exact call_tuple_of
theorem reprK (Y : Sys K) (hgd : X.A.guards = some []) (hu : X.A.units + 64 < cLine) (hK : X.K = K := by rfl) : CallR X (.builtin "repr") (rRepr K) := by subst hK; exact call_repr Y hgd hu
theorem op_inK (hK : X.K = K := by rfl) : OpR X (compareOp .In) (rIn K false) := by subst hK; exact op_in_seq
theorem op_notInK (hK : X.K = K := by rfl) : OpR X (compareOp .NotIn) (rIn K true) := by subst hK; exact op_notIn_seq
theorem op_eqDK (hu : X.A.units + 64 < cLine) (hK : X.K = K := by rfl) : OpR X (compareOp .Eq) (rEqD K) := by subst hK; exact op_eqD hu
theorem op_neDK (hu : X.A.units + 64 < cLine) (hK : X.K = K := by rfl) : OpR X (compareOp .NotEq) (rNeD K) := by subst hK; exact op_neD hu
variable {o e : Expr} {es : List Expr} {to te : TE} {t : TA} {apos cpos : Pos}
theorem pe_joinK (hK : X.K = K) (ho : PE X o to) (he : PE X e te) (hs : starEach [e] X.env = [(false, eval e X.env)] := by rfl) (hbase : attributeBase o "join" X.env (eval o X.env) = eval o X.env := by rfl)
    (hline : (apos.endLine == cpos.line) = true := by rfl) : PE X (.Call (.Attribute o "join" apos) [e] [] cpos) (tM1 (rJoin K) to te) := by
  subst hK
  exact pe_join ho he hs hbase hline
theorem pe_appendK (hK : X.K = K) (ho : PE X o to) (he : PE X e te) (hs : starEach [e] X.env = [(false, eval e X.env)] := by rfl) (hbase : attributeBase o "append" X.env (eval o X.env) = eval o X.env := by rfl)
    (hfew : ((backTo cpos (starEach [e] X.env)).all (fun x => !x.1) && (backToKw cpos (keywordEach [] X.env)).all (fun x => x.1.isSome)
      && decide ([e].length + ([] : List Keyword).length + (if ([] : List Keyword).isEmpty then 0 else 1) < 30)) = true := by rfl)
    (hline : (apos.endLine == cpos.line) = true := by rfl) : PE X (.Call (.Attribute o "append" apos) [e] [] cpos) (tBM K "list" rAppend to (tCons te tNil)) := by
  subst hK
  exact pe_bm PySem.F.plainAttrs_list PySem.F.slot_list_append PySem.F.type_list_append mt_append ho (pa_cons he pa_nil hs) hbase hfew hline hs rfl
theorem pi_listK {tg : Expr} (hK : X.K = K) (hl : PE X e te) : PI X tg e (iList K te) := by subst hK; exact pi_list hl
theorem pi_tupK {tg : Expr} (hK : X.K = K) (hl : PE X e te) : PI X tg e (iTup K te) := by subst hK; exact pi_tup hl
theorem pi_enumK {p pos tpos : Pos} {elts : List Expr} {kk : Nat} (hK : X.K = K) (hg : Gl X "enumerate") (hm : X.mg "enumerate" = none) (ha : PA X [e] t) (hs : starEach [e] X.env = [(false, eval e X.env)] := by rfl) :
    PI X (.Tuple elts kk tpos) (.Call (.Name "enumerate" p) [e] [] pos) (iEnum K t) := by subst hK; exact pi_enum hg hm ha hs
theorem pi_revK {tg : Expr} {p pos : Pos} (hK : X.K = K) (hg : Gl X "reversed") (hm : X.mg "reversed" = none) (ha : PA X [e] t) (hs : starEach [e] X.env = [(false, eval e X.env)] := by rfl) :
    PI X tg (.Call (.Name "reversed" p) [e] [] pos) (iRev K t) := by subst hK; exact pi_reversed hg hm ha hs
end
end TS

/-! ### the end of a law, the guards told; the head's facts by any Bool of the written part -/
namespace TS
open PySem PySem.Spec PyProof.Rows L2
theorem law_callG {P : Program} {w : World} {K : PySem.W.Frag} {mg mb : Str → Option Value} {k : Nat} {fa a : Addr} {fd : FuncData} {x : Str} {sp : Sp} {s₁ : Shared} {vs : List Value} {ns : List Int}
    (KX : K.In s₁.heap) (hns : s₁.heap.Ns mainGlobals mg) (hb : s₁.heap.Ns builtinsNs mb) (hbb : ∀ x : Str, x ≠ "__name__" → mb x = bootBuiltins x) (hlim : s₁.heap.NoLimit) (hg : s₁.gens = #[])
    (ha : s₁.heap.get? a = some { cls := .type "list", data := .seq vs.toArray }) (hi : IntsAre vs ns) (hl : ns.length ≤ sizeLine) (hr : Room k callerA)
    (F : ∀ base : Heap, K.In base → base.Ns mainGlobals mg → FnG P w K mg base CX0 k fa fd [x] sp) (hbind : ∀ (s : Shared) (u : Value), BindsTo s fd ⟨[u], []⟩ [(x, u)])
    (hsp : ∀ H : Hp, Only H → SqL K H a (ns.map V.int) → sp [.ref a] H (fun v _ => v = .bl true) E0) :
    codeAny (model P w) callerA (.call (.ref fa) ⟨[.ref a], []⟩) (fun r s' => r = .ok (.ret (.bool true)) ∧ OldK s₁.heap s'.heap ∧ s'.os = s₁.os ∧ AllBare s'.gens) s₁ := by
  have rv := vals_ints hi
  have lenV := hi.length
  have go : ∀ H : Hp, Only H → SqL K H a (ns.map V.int) → HOk P w H s₁.heap → (∀ b u, H b = some u → b = a ∧ K.lookup a = none) →
      codeAny (model P w) callerA (.call (.ref fa) ⟨[.ref a], []⟩) (fun r s' => r = .ok (.ret (.bool true)) ∧ OldK s₁.heap s'.heap ∧ s'.os = s₁.os ∧ AllBare s'.gens) s₁ := by
    intro H hO hS hok hA
    have free : ∀ {b : Addr} {o : Obj}, s₁.heap.get? b = some o → (∀ n sl, o ≠ ⟨.type "list", none, .seq vs.toArray n, sl⟩ ) → H b = none := fun {b o} e d => by
      cases q : H b with
      | none => rfl
      | some u =>
        obtain ⟨rfl, _⟩ := hA b u q
        rw [ha] at e
        exact absurd (Option.some.inj e).symm (d _ _)
    have nsK : ∀ {b : Addr} {m : Str → Option Value}, s₁.heap.Ns b m → (hidT s₁.heap H).Ns b m := fun {b m} ⟨o, es, ep, e, d, r⟩ =>
      ⟨o, es, ep, hidT_get e (free e fun n sl z => by rw [z] at d; cases d), d, r⟩
    have KB : K.In (hidT s₁.heap H) := fun b o e => hidT_get (KX b o e) (by
      cases q : H b with
      | none => rfl
      | some u =>
        obtain ⟨rfl, z⟩ := hA b u q
        rw [z] at e
        cases e)
    have e0 : Env0 P w K mg (hidT s₁.heap H) callerA [] s₁ H :=
      ⟨rfl, ⟨KB, nsK hns, ⟨mb, nsK hb, hbb⟩, let ⟨mc, h1, h2⟩ := hlim; ⟨mc, nsK h1, h2⟩⟩, fun b o e => of_hidT e, Nat.le_of_eq (hidT_size _ _), trivial, (fun b z => nomatch z), hok, .of_eq hg⟩
    refine codeAny_mono ((F _ KB (nsK hns)).run callerA [] s₁ H ⟨[.ref a], []⟩ [.ref a] [.ref a] _ _ rfl hr e0 (hbind s₁ (.ref a)) (.cons rfl .nil) (hsp H hO hS)) fun r s' h => ?_
    match r, h with
    | .error e, h => exact False.elim h
    | .ok (.ret u), ⟨v, H', os, bare, un, hok', r', q⟩ =>
      obtain rfl : v = .bl true := q
      obtain rfl : u = Value.bool true := r'
      refine ⟨rfl, OldK.of_keep fun b o e => ?_, os, bare⟩
      rcases hO b with z | ⟨ob, xs, z⟩
      · exact un.keep b o e z (fun z => nomatch z) (fun z => nomatch z)
      · obtain ⟨e1, _⟩ := hok b _ z
        obtain ⟨e2, _⟩ := hok' b _ (un.frzs b ob _ z)
        rw [e] at e1
        cases e1
        exact e2
  cases hk : K.lookup a with
  | some o =>
    have e := KX a o hk
    rw [ha] at e
    cases e
    exact go (fun _ => none) (fun _ => .inl rfl) (.inr ⟨_, vs.toArray, _, hk, rfl, rfl, rfl, by rw [List.size_toArray, lenV]; exact hl, by simpa using rv⟩) (fun b u z => nomatch (show (none : Option HO) = some u from z)) (fun b u z => nomatch (show (none : Option HO) = some u from z))
  | none =>
    have one : ∀ {b : Addr} {u : HO}, (if b = a then some (HO.frz { cls := .type "list", data := .seq vs.toArray } (.lst (ns.map V.int))) else none) = some u → b = a ∧ u = .frz { cls := .type "list", data := .seq vs.toArray } (.lst (ns.map V.int)) := fun {b u} z => by
      by_cases hb : b = a
      · rw [if_pos hb] at z
        exact ⟨hb, (Option.some.inj z).symm⟩
      · rw [if_neg hb] at z
        cases z
    refine go (fun b => if b = a then some (.frz { cls := .type "list", data := .seq vs.toArray } (.lst (ns.map V.int))) else none) (fun b => ?_) (.inl (.inr ⟨_, if_pos rfl⟩)) (fun b u z => ?_) (fun b u z => ⟨(one z).1, hk⟩)
    · by_cases hb : b = a
      · exact .inr ⟨_, _, if_pos hb⟩
      · exact .inl (if_neg hb)
    · obtain ⟨rfl, rfl⟩ := one z
      exact ⟨ha, by rw [List.length_map]; exact hl, vs, _, rv, ha⟩
/-- what F gives of the law -/
structure LawAt (l : PySem.W.OpenLaw) (w : World) (mg : Str → Option Value) (k n : Nat) (x : Str) (h : Heap) (fa : Addr) (K : PySem.W.Frag) : Prop where
  kin : K.In h
  fn : ∃ (fd : FuncData) (sp : Sp), (∀ (s : Shared) (u : Value), BindsTo s fd ⟨[u], []⟩ [(x, u)]) ∧
    (∀ (H : Hp) (a : Addr) (ns : List Int), ns.length ≤ n → Only H → SqL K H a (ns.map V.int) → sp [.ref a] H (fun v _ => v = .bl true) E0) ∧
    ∀ base : Heap, K.In base → base.Ns mainGlobals mg → FnG l.prog w K mg base CX0 k fa fd [x] sp
theorem walkG {l : PySem.W.OpenLaw} {n k : Nat} {q : Program} {loose : List Str} {XP : (Str → Option Value) → Heap → Prop} {YP : World → Heap → Prop} {d : DefRec} {x : Str}
    (hn : l.most = some n) (hn2 : n ≤ sizeLine) (hdf : d.params.defaults = []) (hr : Room k callerA)
    (F : ∀ (w : World) (mg : Str → Option Value) (fa : Addr) (h : Heap), YP w h → h.Ns mainGlobals mg → mg d.name = some (.ref fa) → ∃ K, LawAt l w mg k n x h fa K) :
    PySem.W.WalkO q loose XP YP l.row.toRowW d [] (fun f vs => PySem.call f vs) := by
  refine Att.attach_call hn hdf fun w s₀ s₁ mg mb fa o pm cd doc a vs ns G Y ho hd hcd hmg hobj hints hlen hg => ?_
  obtain ⟨K, KX, fd, sp, hb, hsp, hF⟩ := F w mg fa _ Y G.T.g hmg
  exact law_callG KX G.T.g G.T.b G.T.builtins G.T.nolimit hg hobj hints (Nat.le_trans hlen hn2) hr hF hb fun H hO hS => hsp H a ns hlen hO hS
/-! ### the head -/
def asX (g : Addr → Option Obj) : Nat → List Addr
  | 0 => [mainGlobals, cStatics]
  | n + 1 => He.growD g (asX g n)
def frX (n : Nat) (g : Addr → Option Obj) : PySem.W.Frag := He.frG g (asX g n ++ [sysModules])
def obsX (n : Nat) (chk : PySem.W.Frag → Bool) (fn : List He.DefD) (g : Addr → Option Obj) : He.AlD :=
  (chk (frX n g) && fn.all (fun d => d.ok (frX n g)), fn.map fun d => He.fnW (frX n g) d.at_)
def hookX (n : Nat) (chk : PySem.W.Frag → Bool) (fn : List He.DefD) : PySem.W.Hook where
  α := He.AlD
  obs := fun s => obsX n chk fn s.heap.get?
  val := fun _ => (true, fn.map He.DefD.val)
  says := fun _ h => ∃ K : PySem.W.Frag, K.In h ∧ chk K = true ∧ fn.all (fun d => d.ok K) = true ∧ fn.map (fun d => He.fnW K d.at_) = fn.map He.DefD.val
  of := fun _ s e => ⟨_, He.frG_in, (He.ba (congrArg (·.1) e)).1, (He.ba (congrArg (·.1) e)).2, congrArg (·.2) e⟩
  keeps := fun _ _ _ ⟨K, hK, c⟩ k => ⟨K, PySem.W.Frag.In.keeps hK k, c⟩
theorem obsX_eq {n : Nat} {chk : PySem.W.Frag → Bool} {fn : List He.DefD} (s : PySem.W.SharedT) : obsX n chk fn (HandSHeadRun.getT s) = (hookX n chk fn).obs s.abs := by
  have e : HandSHeadRun.getT s = s.abs.heap.get? := funext (HandSHeadRun.getT_eq s)
  show obsX n chk fn (HandSHeadRun.getT s) = obsX n chk fn s.abs.heap.get?
  rw [e]
/-- a def's datum: a top statement -/
def defD (x : Str) (st : Stmt) : He.DefD := ⟨(x, none), x, x, defArgs st, defBody st, defScope st, [], []⟩
theorem def_of {K : PySem.W.Frag} {h : Heap} {mg : Str → Option Value} {fn : List He.DefD} (X : K.In h) (G : h.Ns mainGlobals mg) (c1 : fn.all (fun d => d.ok K) = true) (c2 : fn.map (fun d => He.fnW K d.at_) = fn.map He.DefD.val)
    {x : Str} {st : Stmt} (i : Nat) (hi : fn[i]? = some (defD x st)) (hg : (He.Fa.glo x).ok K = true) : Def K mg x st := by
  have e1 : He.fnW K (defD x st).at_ = (defD x st).val := by
    have h1 := congrArg (·[i]?) c2
    simp only [List.getElem?_map, hi, Option.map_some] at h1
    exact Option.some.inj h1
  obtain ⟨fd, F⟩ := He.DefD.funD e1 (List.all_eq_true.mp c1 _ (List.mem_of_getElem? hi))
  exact ⟨He.ga K x, fd, F, He.glo_ok X G hg⟩
/-- what is asked of the machine's own objects -/
def sysB (K : PySem.W.Frag) : Bool := (match K.lookup sysModules with | some o => decide (o.cls = .type "dict") | none => false) && decide (PySem.W.nsIn K cStatics sharingNotToldKey = some none)
theorem sysB_ok {K : PySem.W.Frag} (h : sysB K = true) : Sys K := by
  obtain ⟨h1, h2⟩ := He.ba h
  refine ⟨?_, of_decide_eq_true h2⟩
  cases e : K.lookup sysModules with
  | none => rw [e] at h1; cases h1
  | some o => rw [e] at h1; exact ⟨o, rfl, of_decide_eq_true h1⟩
def chkX (gl : List Str) (more : PySem.W.Frag → Bool) (K : PySem.W.Frag) : Bool := (sysB K && btNames.all fun x => (He.Fa.free x).ok K) && ((gl.all fun x => (He.Fa.glo x).ok K) && more K)
end TS

set_option maxHeartbeats 2000000
/-! ### comprehensions of any kind: one walk for every clause, whatever is done with what comes -/
namespace TS
open PySem PySem.Spec PyProof.Rows L2 PpSet
/-- one turn of a clause: what comes, its store, its tests; then what is done with it -/
def Steps (P : Program) (w : World) (A : Around) (it : Value) (tg : Expr) (cs : List Expr) (env : Env) (act : (Shared → Prop) → Shared → Prop) (E : Value → Shared → Prop) (stop next : Shared → Prop) (s : Shared) : Prop :=
  wpAny (model P w) A (pyNext it) (fun r t => match r with
    | none => stop t
    | some v => wpAny (model P w) A (letOwnedTupleGo tg it v) (fun _ t => wpAny (model P w) A (assign tg env v) (fun _ t => wpAny (model P w) A (forIn cs true fun c r => if r = true then do let ok ← isTrue c env (eval c env); pure (ForInStep.yield ok) else pure (ForInStep.yield r))
        (fun b t => if b = true then act next t else next t) E t) E t) E t) E s
/-- a clause's code goes by such turns -/
def Goes (P : Program) (w : World) (A : Around) (c : Code) (it : Value) (tg : Expr) (cs : List Expr) (env : Env) (act : (Value → Shared → Prop) → (Shared → Prop) → Shared → Prop) : Prop :=
  ∀ (R : Result → Shared → Prop) (I : Nat → Shared → Prop), (∀ n s, I n s → Steps P w A it tg cs env (act (notedBy (model P w) A env fun e t => R (.error e) t)) (notedBy (model P w) A env fun e t => R (.error e) t) (R (.ok .next)) (fun t => ∃ m, m < n ∧ I m t) s) →
    ∀ n s, I n s → codeAny (model P w) A c R s
/-- the turns of one clause, as readings: W by the turn and a measure, Out behind the last one, Body what is asked of an item that passes -/
def Rounds (J : It) (g : TG) (tt : TT) (τ : L2.St) (W : Nat → Nat → Hp → Prop) (Out : Hp → Prop) (ws : L2.St → L2.St) (Body : (Hp → Prop) → L2.St → Hp → Prop) : Prop :=
  ∀ i m H, W i m H → (J.stop i H ∧ Out H) ∨ (J.go i H ∧ ∃ Nx : Hp → Prop, (∀ G, Nx G → ∃ k, k < m ∧ W (i + 1) k G) ∧ ∀ x G, J.yld i H x G → g x τ G fun σ2 H2 => ws σ2 = τ ∧ tt σ2 H2 fun b H3 => if b = true then Body Nx σ2 H3 else Nx H3)
theorem walk_clause {Y : Cx} {c : Code} {tg : Expr} {cs : List Expr} {g : TG} {tt : TT} {it : Addr} {fp : List Addr} {tn : Nat → Heap → Prop} {J : It} {act : (Value → Shared → Prop) → (Shared → Prop) → Shared → Prop} {R : Result → Shared → Prop}
    {pins : List (Addr × Obj)} {τ : L2.St} {W : Nat → Nat → Hp → Prop} {Out : Hp → Prop} {vs : List Nat} {Body : (Hp → Prop) → L2.St → Hp → Prop}
    (goes : Goes Y.prog Y.w Y.A c (.ref it) tg cs Y.env act) (calm : Y.calm = true) (mute : Y.xe = fun _ _ => False) (T : Turn Y.prog Y.w Y.K tg J fp it tn) (pg : PG Y tg g) (pt : PTs Y cs tt)
    (free : ∀ (σ : L2.St) (H : Hp) (s : Shared), Inv Y pins σ H s → ∀ b ∈ fp, H b = none → FpOk Y pins H b)
    (rounds : Rounds J g tt τ W Out (fun σ => wipe σ vs) Body)
    (done : ∀ s H, Inv Y pins τ H s → Out H → R (.ok .next) s)
    (acts : ∀ (E : Value → Shared → Prop) (h : Heap) (s : Shared) (σ2 : L2.St) (H : Hp) (Nx : Hp → Prop) (next : Shared → Prop), Inv Y (pins ++ pinsAt fp h) σ2 H s → wipe σ2 vs = τ → Body Nx σ2 H →
      (∀ s' H' σ', Inv Y (pins ++ pinsAt fp h) σ' H' s' → τ.length = σ'.length → (∀ (j : Nat) v, τ[j]? = some (some v) → σ'[j]? = some (some v)) → Nx H' → next s') → act E next s)
    {s : Shared} {H : Hp} {m : Nat} (I : Inv Y pins τ H s) (st : tn 0 s.heap) (nf : ∀ b ∈ fp, H b = none) (w0 : W 0 m H) : codeAny (model Y.prog Y.w) Y.A c R s := by
  refine goes R (fun n t => ∃ i G, Inv Y pins τ G t ∧ tn i t.heap ∧ (∀ b ∈ fp, G b = none) ∧ W i n G) (fun n t ⟨i, G, IG, sG, nG, wG⟩ => ?_) m s ⟨0, H, I, st, nf, w0⟩
  have fG := fun b hb => free _ _ _ IG b hb (nG b hb)
  rcases rounds i n G wG with ⟨hs, ho⟩ | ⟨hg, Nx, hN, step⟩
  · refine thnF (T.done Y rfl rfl rfl calm i pins t τ G (fun _ _ => False) IG fG sG hs) fun r t1 h => ?_
    obtain ⟨rfl, I1⟩ := h
    exact done t1 G I1 ho
  refine thnF (T.item Y rfl rfl rfl calm i pins t τ G (fun _ _ => False) IG fG sG hg) fun r t1 h => ?_
  obtain ⟨u, rfl, h⟩ := h
  refine thnF h fun _ t2 h => ?_
  obtain ⟨x, G2, I2, rx, hy, s2, n2⟩ := h
  have P2 := I2.pinned (fun b hb => free _ _ _ I2 b hb (n2 b hb)) (T.obj _ _ s2)
  have leave : ∀ (t' : Shared) (G' : Hp) (σ' : L2.St), Inv Y (pins ++ pinsAt fp t2.heap) σ' G' t' → τ.length = σ'.length → (∀ (j : Nat) v, τ[j]? = some (some v) → σ'[j]? = some (some v)) → Nx G' →
      ∃ k, k < n ∧ ∃ i G, Inv Y pins τ G t' ∧ tn i t'.heap ∧ (∀ b ∈ fp, G b = none) ∧ W i k G := fun t' G' σ' I' l e nx => by
    obtain ⟨k, lk, wk⟩ := hN G' nx
    have at_ : ∀ b ∈ fp, ∀ o, t2.heap.get? b = some o → t'.heap.get? b = some o ∧ G' b = none := fun b hb o eo =>
      have p := I'.pin (b, o) (List.mem_append_right _ (List.mem_append_right _ (mem_pinsAt hb eo)))
      ⟨p.1, p.2.1⟩
    exact ⟨k, lk, i + 1, G', I'.unpinned.weak l e, T.keep _ _ _ s2 fun b hb o eo => (at_ b hb o eo).1, fun b hb => let ⟨o, eo, _⟩ := T.obj _ _ s2 b hb; (at_ b hb o eo).2, wk⟩
  have stored := pg.run _ t2 τ G2 x u _ P2 rx (step x G2 hy)
  rw [mute] at stored
  refine thnF stored fun _ t3 h => ?_
  obtain ⟨σ3, G3, I3, hw, h⟩ := h
  have hl : τ.length = σ3.length := by rw [← show wipe σ3 vs = τ from hw, wipe_length]
  have he : ∀ (j : Nat) v, τ[j]? = some (some v) → σ3[j]? = some (some v) := fun j v e => by
    rw [← show wipe σ3 vs = τ from hw] at e
    exact (wipe_some e).1
  have tested := pt.run _ t3 σ3 G3 _ I3 h
  rw [mute] at tested
  refine thnF tested fun b t4 h => ?_
  obtain ⟨G4, I4, h⟩ := h
  cases b with
  | false => exact leave t4 G4 σ3 I4 hl he h
  | true => exact acts _ t2.heap t4 σ3 G4 Nx _ I4 hw h leave
section
variable {X : Cx} {pins : List (Addr × Obj)} {σ : L2.St} {H : Hp} {s : Shared}
/-- a fresh object of the block's, laid by a constructor -/
def Makes (X : Cx) (mk : Sem Value) (o : Addr → HO) : Prop := ∀ (pins : List (Addr × Obj)) (σ : L2.St) (H : Hp) (s : Shared) (Q : Value → Shared → Prop) (E : Value → Shared → Prop), Inv X pins σ H s →
  (∀ (D : Addr) (t : Shared), D = s.heap.objs.size → H D = none → (∀ b u, s.heap.get? b = some u → t.heap.get? b = some u) → t.heap.objs.size = D + 1 → Inv X pins σ (upd H D (o D)) t → Q (.ref D) t) → wpAny (model X.prog X.w) X.A mk Q E s
/-- a comprehension: its constructor, its first clause's turns; what is done with an item is told by Body and act -/
theorem comp_any {Q : VK} {ce tg iter : Expr} {cs : List Expr} {rest : List Comprehension} {scope : Scope} {own : List (PySem.Str × Nat)} {pos : Pos} {wi : TI} {g : TG} {tt : TT} {mk : Sem Value} {o : Addr → HO} {use : Option (Value → Sem Unit)} {Qf : Value → Shared → Prop}
    {act : Value → Env → (Value → Shared → Prop) → (Shared → Prop) → Shared → Prop} {Body : Addr → (Hp → Prop) → L2.St → Hp → Prop}
    (hcl : clausesOf ce = ⟨tg, iter, cs, 0⟩ :: rest) (hmk : Makes X mk o) (goes : ∀ (it acc : Addr) (env : Env), Goes X.prog X.w X.A (.compLoop ce 0 (.ref it) (.ref acc) env) (.ref it) tg cs env (act (.ref acc) env))
    (start : ∀ (R : Result → Shared → Prop) (s : Shared) (it acc : Value) (env : Env), codeAny (model X.prog X.w) X.A (.compLoop ce 0 it acc env) R s →
      wpAny (model X.prog X.w) X.A (pyIter it) (fun it' t => codeAny (model X.prog X.w) X.A (.compLoop ce 0 it' acc env) R t) (notedBy (model X.prog X.w) X.A env fun x t => R (.error x) t) s → codeAny (model X.prog X.w) X.A (.compStart ce 0 it acc env) R s)
    (calm : X.calm = true) (nod : X.N.Nodup) (I : Inv X pins σ H s) (pit : PI X tg iter wi) (bk : BlkOk X.N X.env.scope scope own)
    (ptg : ∀ (s : Shared) (H : Hp) (C : Addr) (cl : List (PySem.Str × Addr)) (fp : List Addr), PG (X.blk s H scope (compEnvC scope cl C X.env) fp) tg g) (ptt : ∀ (s : Shared) (H : Hp) (C : Addr) (cl : List (PySem.Str × Addr)) (fp : List Addr), PTs (X.blk s H scope (compEnvC scope cl C X.env) fp) cs tt)
    (fold : ∀ x, foldedSetIterable iter X.env x = pure x)
    (rd : wi σ H fun J H1 => ∀ D, H1 D = none → ∃ W : Nat → Nat → Hp → Prop, (∃ m, W 0 m (upd H1 D (o D))) ∧ Rounds J g tt (wipe σ (own.map (·.2))) W (fun G => Q (.ref D) G) (fun σ => wipe σ (own.map (·.2))) (Body D))
    (acts : ∀ (s0 : Shared) (H0 : Hp) (C : Addr) (cl : List (PySem.Str × Addr)) (fp : List Addr) (D : Addr) (E : Value → Shared → Prop) (pins : List (Addr × Obj)) (s : Shared) (σ2 : L2.St) (G : Hp) (Nx : Hp → Prop) (next : Shared → Prop), Inv (X.blk s0 H0 scope (compEnvC scope cl C X.env) fp) pins σ2 G s →
      wipe σ2 (own.map (·.2)) = wipe σ (own.map (·.2)) → Body D Nx σ2 G →
      (∀ s' H' σ', Inv (X.blk s0 H0 scope (compEnvC scope cl C X.env) fp) pins σ' H' s' → (wipe σ (own.map (·.2))).length = σ'.length → (∀ (j : Nat) v, (wipe σ (own.map (·.2)))[j]? = some (some v) → σ'[j]? = some (some v)) → Nx H' → next s') → act (.ref D) (compEnvC scope cl C X.env) E next s)
    (back : ∀ D C t m G, Inv X pins σ G t → Q (.ref D) G → t.heap.Ns C m → FpOk X pins G C → compPost (model X.prog X.w) X.A X.xe use Qf (.ref D) C (.ok .next) t) :
    wpAny (model X.prog X.w) X.A (comprehension ce scope X.env pos mk false (eval iter X.env) use) Qf X.xe s := by
  have reach : ∀ y ∈ scope.names, y.2 = .free → ∃ c, X.env.cells.lookup y.1 = some c := fun y hy e => I.ok.has _ (bk.free y hy e)
  refine wpAny_comprehension_free (use := use) hcl fold (closure_ok reach) bk.kind (fun y hy e => (bk.uniq y hy).trans (congrArg some e)) (thn (pit.run pins s σ H _ I rd) fun _ _ h1 => thn h1 fun _ t2 h2 => ?_)
  obtain ⟨it, fp, tn, J, G2, rfl, I2, T, sT, fr, h⟩ := h2
  refine hmk pins σ G2 t2 _ _ I2 fun D t3 eD nD up size I3 => newEnv_comp ?_
  obtain ⟨W, ⟨m, w0⟩, rounds⟩ := h D nD
  have old : ∀ b ∈ fp, b < t2.heap.objs.size := fun b hb => let ⟨u, e, _⟩ := T.obj _ _ sT b hb; Heap.lt_size e
  have fr3 : ∀ b ∈ fp, FpOk X pins (upd G2 D (o D)) b ∧ b < t3.heap.objs.size := fun b hb => by
    have l := old b hb
    exact ⟨⟨(upd_ne (by rw [eD]; exact Nat.ne_of_lt l)).trans (fr b hb).1, (fr b hb).2⟩, by rw [size, eD]; exact Nat.lt_succ_of_lt l⟩
  have I4 := block_start I3 bk nod fr3
  have k4 : ∀ b u, t2.heap.get? b = some u → (pushCells (t3.heap.push { cls := .type "dict", data := .dict #[] }) scope.names).get? b = some u := fun b u e => pushCells_keeps _ _ _ _ (Heap.get?_push_of_some _ (up b u e))
  generalize ecl : cellsFrom (t3.heap.objs.size + 1) scope.names (cloFrom X.env.cells scope.names []) = cl at I4
  generalize eG : upd G2 D (o D) = G3 at I3 I4 w0 fr3
  generalize eC : t3.heap.objs.size = C at I4
  have lC : (compEnvC scope cl C X.env).locals = C := rfl
  refine start _ _ _ _ _ ?_ (T.self X.A 0 _ _ _ (T.keep _ _ _ sT fun b hb u e => k4 b u e) ?_)
  all_goals
    show codeAny _ _ (.compLoop ce 0 (.ref it) (.ref D) (compEnvC scope cl C X.env)) (compPost (model X.prog X.w) X.A X.xe use Qf (.ref D) C) _
    refine walk_clause (Y := X.blk t3 G3 scope (compEnvC scope cl C X.env) fp) (pins := []) (goes it D _) calm rfl T (ptg t3 G3 C cl fp) (ptt t3 G3 C cl fp) (fun τ G t J b hb hn => ⟨hn, (J.ok.exf b hb).1, J.ok.exfs b hb, .inl hb, fun x c e => (J.ok.exf b hb).2 x c e, fun p hp => absurd (show p ∈ ([] : List (Addr × Obj)) ++ [] from hp) (by simp)⟩)
      rounds (fun t G J q => ?_) (fun E h t σ2 G Nx next J e hb fin => acts t3 G3 C cl fp D E _ t σ2 G Nx next J e hb fin) I4 (T.keep _ _ _ sT fun b hb u e => k4 b u e) (fun b hb => (fr3 b hb).1.1) w0
    have K : Inv X pins σ G t := I3.call' (ch := fp) J.os J.base J.hok J.bare fun b hb => let ⟨_, f1, _, f3, f4, f5⟩ := (fr3 b hb).1; ⟨f3, f1, f4, f5⟩
    obtain ⟨mm, hn, _⟩ := J.loc
    exact back D C t mm G K q hn (I3.fpOk (Nat.le_of_eq eC) J.free)
end
end TS

set_option maxHeartbeats 2000000
/-! ### 7. set comprehensions of ints and texts, and how many there are -/
namespace TS
open PySem PySem.Spec PyProof.Rows L2 PpSet
section
variable {X : Cx}
theorem setK_fresh {P : Program} {w : World} {h : Heap} : (h.push { cls := .type "set", dict := none, data := .set #[] 0 (.fresh 0 0 (!w.params.followText "set-order")) }).SetOf (mixKind P w) h.objs.size (fun _ => false) 0 :=
  ⟨_, #[], 0, _, Heap.get?_push_size h rfl, ⟨rfl, rfl, rfl⟩, rfl, (fun e z => by simp at z), (fun k => by simp), (by decide), (by rfl), rfl⟩
theorem makes_set : Makes X (newSet (.type "set")) fun D => SetK X.prog X.w D (fun _ => false) 0 := fun pins σ H s Q E I q => by
  refine newSet_ok (q _ _ rfl (I.hok.fresh (Nat.le_refl _)) (fun b u e => Heap.get?_push_of_some _ e) (Heap.size_push ..) ?_)
  exact I.laid (t' := s.toks) (fun b u e => Heap.get?_push_of_some _ e) (Nat.le_refl _) (setK_new setK_fresh)
theorem addK_ok {pins : List (Addr × Obj)} {σ : L2.St} {H : Hp} {s : Shared} {E : Value → Shared → Prop} {D : Addr} {S : Key → Bool} {n : Nat} {k : Key} {u : Value} {Q : Value → Shared → Prop} (J : Inv X pins σ H s) (eD : H D = some (SetK X.prog X.w D S n)) (rk : RelV (kV k) u)
    (room : n + 1 < scanBound) (q : ∀ t, Inv X pins σ (upd H D (SetK X.prog X.w D (fun j => S j || decide (j = k)) (if S k = true then n else n + 1))) t → Q .none t) : wpAny (model X.prog X.w) X.A (call (.builtin "set.add") [.ref D, u]) Q E s := by
  refine call_set_add (kV_is rk) (key_scan rk) (setK_get J eD) room fun hp sb nw => ?_
  have there : ∃ v, hp.get? D = some v := let ⟨o, _, _, _, ho, _⟩ := nw; ⟨o, ho⟩
  exact q _ (J.write (e := D) (t' := s.toks + 1) (by rw [eD]; trivial) (.inl rfl) (fun b v hb hv => (sb.2 b hb).trans hv) there (setK_new nw))
/-- what is asked of an item that goes into the set D -/
def setBody (P : Program) (w : World) (te : TE) (D : Addr) (Nx : Hp → Prop) (σ2 : L2.St) (H3 : Hp) : Prop :=
  te σ2 H3 fun y H4 => ∃ (k : Key) (S : Key → Bool) (n : Nat), y = kV k ∧ H4 D = some (SetK P w D S n) ∧ n + 1 < scanBound ∧ Nx (upd H4 D (SetK P w D (fun j => S j || decide (j = k)) (if S k = true then n else n + 1)))
/-- {elt for target in iter if ..}, elt an int or a text: D the new set -/
def tScK (P : Program) (w : World) (wi : TI) (g : TG) (tt : TT) (te : TE) (vs : List Nat) : TE := fun σ H Q => wi σ H fun J H1 => ∀ D, H1 D = none → ∃ Wt : Nat → Nat → Hp → Prop, (∃ m, Wt 0 m (upd H1 D (SetK P w D (fun _ => false) 0))) ∧ ∀ i m H, Wt i m H →
  (J.stop i H ∧ Q (.ref D) H) ∨ (J.go i H ∧ ∃ Nx : Hp → Prop, (∀ G, Nx G → ∃ m', m' < m ∧ Wt (i + 1) m' G) ∧ ∀ x G, J.yld i H x G → g x (wipe σ vs) G fun σ2 H2 => wipe σ2 vs = wipe σ vs ∧ tt σ2 H2 fun b H3 =>
    if b = true then te σ2 H3 fun y H4 => ∃ (k : Key) (S : Key → Bool) (n : Nat), y = kV k ∧ H4 D = some (SetK P w D S n) ∧ n + 1 < scanBound ∧ Nx (upd H4 D (SetK P w D (fun j => S j || decide (j = k)) (if S k = true then n else n + 1))) else Nx H3)
/-- as a value -/
theorem pe_scK {elt tg iter : Expr} {ifs : List Expr} {scope : Scope} {own : List (PySem.Str × Nat)} {pos : Pos} {wi : TI} {g : TG} {tt : TT} {te : TE} (calm : X.calm = true) (nod : X.N.Nodup) (pit : PI X tg iter wi) (bk : BlkOk X.N X.env.scope scope own)
    (ptg : ∀ (s : Shared) (H : Hp) (C : Addr) (cl : List (PySem.Str × Addr)) (fps : List Addr), PG (X.blk s H scope (compEnvC scope cl C X.env) fps) tg g) (ptt : ∀ (s : Shared) (H : Hp) (C : Addr) (cl : List (PySem.Str × Addr)) (fps : List Addr), PTs (X.blk s H scope (compEnvC scope cl C X.env) fps) ifs tt)
    (pel : ∀ (s : Shared) (H : Hp) (C : Addr) (cl : List (PySem.Str × Addr)) (fps : List Addr), PE (X.blk s H scope (compEnvC scope cl C X.env) fps) elt te) (fold : ∀ x, foldedSetIterable iter X.env x = pure x := by intro _; rfl) :
    PE X (.SetComp elt [⟨tg, iter, ifs, 0⟩] scope pos) (tScK X.prog X.w wi g tt te (own.map (·.2))) := by
  refine ⟨fun pins s σ H Q I rd => ?_⟩
  rw [eval_SetComp]
  refine comp_any (rest := []) (Body := setBody X.prog X.w te) (act := fun acc env E next s => wpAny (model X.prog X.w) X.A (eval elt env) (fun v t => wpAny (model X.prog X.w) X.A (call (.builtin "set.add") [acc, v]) (fun _ t => next t) E t) E s) rfl makes_set
    (fun it acc env R I turn n s h => compLoopS_any I turn n h) (fun R s it acc env h0 h => codeAny_compStart_set h0 h) calm nod I pit bk ptg ptt fold rd (fun s0 H0 C cl fp D E pins s σ2 G Nx next J e hb fin => ?_)
    fun D C t m G J q hn f => ⟨m, hn, fun h2 sb => ?_⟩
  · refine thnF ((pel s0 H0 C cl fp).run _ s σ2 G _ J hb) fun v t h => ?_
    obtain ⟨y, G2, J2, ry, k, S, n, rfl, eD, room, nx⟩ := h
    refine addK_ok (X := X.blk s0 H0 scope (compEnvC scope cl C X.env) fp) J2 eD ry room fun t2 J3 => fin t2 _ σ2 J3 (by rw [← e, wipe_length]) (fun j x q => ?_) nx
    rw [← e] at q
    exact (wipe_some q).1
  · obtain ⟨f0, f1, _, f3, f4, f5⟩ := f
    exact ⟨.ref D, G, J.turned (t' := t.toks) (fun b o hb e => (sb.2 b hb).trans e) f0 f1 f3 f4 f5, rfl, q⟩
def rLenSet (P : Program) (w : World) : List V → Hp → VK → Prop := fun xs H Q => ∃ (a : Addr) (S : Key → Bool) (n : Nat), xs = [.ref a] ∧ H a = some (SetK P w a S n) ∧ n < 2 ^ 40 ∧ Q (.int n) H
theorem len_setK : CallR X (.builtin "len") (rLenSet X.prog X.w) := by
  intro pins s σ H xs us Q J r rd
  obtain ⟨a, S, n, rfl, ea, hn, q⟩ := rd
  obtain ⟨u, rfl, ra⟩ := vals1 r
  cases ra
  have ⟨o, es, ep, t, ho, hx, hd, h1, h2, h3, h4, h5⟩ := setK_get J ea
  subst h5
  exact call_len_set ho hx hd h4 (by have := hn; omega) ⟨.int es.size, H, J.kept fun _ _ z => z, ⟨_, rfl⟩, q⟩
end
end TS

set_option maxHeartbeats 2000000
/-! ### 8. enumerate over a tuple; readings by either of two ways -/
namespace PySem
open Sem (wp)
open AutoSeq1 (wpAny_loadPart')
theorem ts_enum_newT (l : Addr) (items : Array Value) (n : Nat) (dct : Option Addr) (sl : Array (Option Value)) :
    Meets (Builtin.«enumerate.__new__» ⟨[.type "enumerate", .ref l], []⟩) (fun _ R s => s.heap.get? l = some { cls := .type "tuple", dict := dct, data := .seq items n, slots := sl } ∧
      R (.ok (.ret (.ref (s.heap.push { cls := .type "tuple_iterator", data := .fields #[.ref l, .int 0 0] }).objs.size)))
        { s with heap := (s.heap.push { cls := .type "tuple_iterator", data := .fields #[.ref l, .int 0 0] }).push { cls := .type "enumerate", data := .fields #[.none, .bool false, .ref s.heap.objs.size, rawInt 0, .none, .none] } }) :=
  .of_wp fun prog w A R s h => by
    obtain ⟨hp, g, d, tk, os⟩ := s
    obtain ⟨there, rest⟩ := h
    have se := sub_enumerate
    have tup : Heap.IsTuple (Shared.heap ⟨hp, g, d, tk, os⟩) l items := ⟨_, there, rfl, n, rfl⟩
    wp_walk using wpAny_loadPart' there
    refine wpAny_stack_any fun st => wpAny_pure ?_
    split
    · rename_i c _ _ _ _ _
      cases (c == Value.type "enumerate")
      · wp_walk using wpAny_loadPart' there, wpAny_pyIter_tuple tup
        exact ⟨_, rfl, rest⟩
      · wp_walk using wpAny_loadPart' there, wpAny_pyIter_tuple tup
        exact ⟨_, rfl, rest⟩
    · wp_walk using wpAny_loadPart' there, wpAny_pyIter_tuple tup
      exact ⟨_, rfl, rest⟩
theorem ts_call_enumT {prog : Program} {w : World} {A : Around} {E : Value → Shared → Prop} {s : Shared} {l : Addr} {items : Array Value} {Q : Value → Shared → Prop} (tup : s.heap.IsTuple l items)
    (q : ∀ G, IsEnum G (s.heap.objs.size + 1) s.heap.objs.size 0 .none → G.IsTupleIter s.heap.objs.size l 0 → (∀ b o, s.heap.get? b = some o → G.get? b = some o) → Q (.ref (s.heap.objs.size + 1)) { s with heap := G }) :
    wpAny (model prog w) A (call (.type "enumerate") [.ref l]) Q E s := by
  obtain ⟨⟨c, dct, dt, sl⟩, there, ec, n, ed⟩ := tup
  replace ec : c = .type "tuple" := ec
  replace ed : dt = .seq items n := ed
  subst ec ed
  refine callType_new F.called_enumerate (by decide) (F.typeCall_enumerate_1 _) (F.newCall_enumerate_1 _) (fun z => F.args_object_init_2 z _) F.entry_enumerate_new (ts_enum_newT l items n dct sl) ⟨there, ?_⟩
  have sz : (s.heap.push { cls := .type "tuple_iterator", data := .fields #[.ref l, .int 0 0] }).objs.size = s.heap.objs.size + 1 := Heap.size_push ..
  show _ ∧ _
  rw [sz]
  have en : IsEnum ((s.heap.push { cls := .type "tuple_iterator", data := .fields #[.ref l, .int 0 0] }).push
      { cls := .type "enumerate", data := .fields #[.none, .bool false, .ref s.heap.objs.size, rawInt 0, .none, .none] }) (s.heap.objs.size + 1) s.heap.objs.size 0 .none := by
    have z := Heap.get?_push_size (s.heap.push { cls := .type "tuple_iterator", data := .fields #[.ref l, .int 0 0] })
      (o := { cls := .type "enumerate", data := .fields #[.none, .bool false, .ref s.heap.objs.size, rawInt 0, .none, .none] }) rfl
    rw [sz] at z; exact z
  exact ⟨⟨_, en, rfl⟩, q _ en ⟨_, Heap.get?_push_of_some _ (Heap.get?_push_size _ rfl), rfl, rfl⟩ fun b o x => Heap.get?_push_of_some _ (Heap.get?_push_of_some _ x)⟩
end PySem
namespace TS
open PySem PySem.Spec PyProof.Rows L2
/-- the tuple at a, the items in new pairs with their places -/
def IteT (K : PySem.W.Frag) (a : Addr) : It :=
  ⟨fun i H => ∃ (xs : List V) (x : V), SqT K H a xs ∧ xs[i]? = some x,
    fun i H v G => ∃ T x, v = .ref T ∧ H T = none ∧ G = upd H T (.tup [.int (i : Nat), x]) ∧ ∀ xs, SqT K H a xs → xs[i]? = some x,
    fun i H => ∃ xs : List V, SqT K H a xs ∧ xs.length ≤ i⟩
theorem turn_enumT {P : Program} {w : World} {K : PySem.W.Frag} {elts : List Expr} {kk : Nat} {tpos : Pos} (a e it : Addr) :
    Turn P w K (.Tuple elts kk tpos) (IteT K a) [e, it] e (fun i h => (∃ old, IsEnum h e it i old) ∧ h.IsTupleIter it a i ∧ e ≠ it) where
  mem := by simp
  obj := fun i h st b hb => by
    obtain ⟨⟨old, en⟩, ⟨o, ho, hc, hd⟩, _⟩ := st
    have e' : b = e ∨ b = it := by simpa using hb
    rcases e' with z | z
    · rw [z]; exact ⟨_, en, fun v q => nomatch q⟩
    · rw [z]; exact ⟨o, ho, fun v q => by rw [hd] at q; cases q⟩
  keep := fun i h G st k => let ⟨⟨old, en⟩, ti, ne⟩ := st; ⟨⟨old, k e (by simp) _ en⟩, ti.at fun o q => k it (by simp) o q, ne⟩
  item := by
    intro X hP hw hK hc i pins s σ H E J hf st hg
    subst hP hw hK
    obtain ⟨⟨old, en⟩, ti, ne⟩ := st
    obtain ⟨xs, x, hq, hx⟩ := hg
    obtain ⟨its, rv, p, hz⟩ := J.tuple hq
    obtain ⟨u, hu, ru⟩ := rv.get hx
    have p' : s.heap.IsTuple a its.toArray := p
    have lte : e < s.heap.objs.size := Heap.lt_size en
    have lti : it < s.heap.objs.size := by obtain ⟨_, q, _⟩ := ti; exact Heap.lt_size q
    have nai : a ≠ it := fun z => by
      obtain ⟨o, ho, hc1, hd1⟩ := ti
      obtain ⟨o2, ho2, hc2, _⟩ := p'
      rw [z, ho] at ho2
      cases ho2
      rw [hc1] at hc2
      exact absurd hc2 (by decide +kernel)
    have nae : e ≠ a := fun z => by
      obtain ⟨o2, ho2, hc2, _⟩ := p'
      rw [← z] at ho2
      have en' : s.heap.get? e = some _ := en
      rw [en'] at ho2
      cases ho2
      exact absurd (show Value.type "enumerate" = Value.type "tuple" from hc2) (by decide +kernel)
    have ui : its.toArray[i]? = some u := by simpa using hu
    have lt : i < its.toArray.size := by
      rcases Nat.lt_or_ge i its.toArray.size with z | z
      · exact z
      · rw [Array.getElem?_eq_none z] at ui; cases ui
    have hd := J.ok.hd hc
    refine wpAny_pyNext_enum_itemD (Draws.tuple (by exact hd) it a nai its.toArray) en ⟨ti, p'⟩ lt ne (by simp [ne, nae]) fun y G tk hy ho st' hT hsz hk => ?_
    rw [ui] at hy
    cases hy
    refine ⟨_, rfl, wpAny_letOwnedTupleGo_enum (s := { s with heap := G, toks := tk + 1 }) ho fun G2 en' sb => ?_⟩
    have hT2 : G2.get? s.heap.objs.size = some { cls := .type "tuple", data := .seq #[.int i tk, u] } := (sb.2 _ (Nat.ne_of_gt lte)).trans hT
    have new : ObjOk X.prog X.w (upd H s.heap.objs.size (.tup [.int (i : Nat), x])) G2 s.heap.objs.size (.tup [.int (i : Nat), x]) :=
      ⟨by show 2 ≤ sizeLine; decide, [.int i tk, u], .cons ⟨_, rfl⟩ (.cons ru .nil), ⟨_, hT2, rfl, _, rfl⟩⟩
    have J1 : Inv X pins σ (upd H s.heap.objs.size (.tup [.int (i : Nat), x])) { s with heap := G2, toks := tk + 1 } :=
      J.turnedNew (ch := [e, it]) (fun b ob hb q => (sb.2 b (fun z => hb (by simp [z]))).trans (hk b ob (fun z => hb (by simp [z])) (fun z => hb (by simp [z])) q)) hf (Nat.le_refl _) new
    refine ⟨.ref s.heap.objs.size, _, J1, rfl, ⟨_, x, rfl, J.hok.fresh (Nat.le_refl _), rfl, fun ys hy => by rw [J.tuple_inj hy hq]; exact hx⟩, ⟨⟨u, ?_⟩, st'.1.at fun o q => (sb.2 it (Ne.symm ne)).trans q, ne⟩, fun b hb => ?_⟩
    · have e1 : ((i + 1 : Nat) : Int) = (i : Int) + 1 := by omega
      rw [e1]; exact en'
    · have lb : b < s.heap.objs.size := by
        have e' : b = e ∨ b = it := by simpa using hb
        rcases e' with z | z
        · rw [z]; exact lte
        · rw [z]; exact lti
      rw [upd_ne (Nat.ne_of_lt lb)]
      exact (hf b hb).1
  done := by
    intro X hP hw hK hc i pins s σ H E J hf st hg
    subst hP hw hK
    obtain ⟨⟨old, en⟩, ti, ne⟩ := st
    obtain ⟨xs, hq, hx⟩ := hg
    obtain ⟨its, rv, p, hz⟩ := J.tuple hq
    obtain ⟨f0, f1, f2, f3, f4, f5⟩ := hf it (by simp)
    have hl := rv.length
    have p' : s.heap.IsTuple a its.toArray := p
    have hT : s.TypeIs (.ref e) "enumerate" := ⟨_, en, rfl⟩
    have hd := J.ok.hd hc
    unfold pyNext
    refine wpAny_bind (wpAny_attempt (wpAny_callSpecial?_slot (name := Str.ofString "__next__") hT F.slot_enumerate_next
      (wpAny_call_entry F.slot_enumerate_next hT F.entry_enumerate_next ?_ (F.args_enumerate_next_1 _))))
    show wpAny _ _ (field (.ref e) 2 >>= _) _ _ _
    refine wpAny_bind (wpAny_field en rfl (x := .ref it) rfl ?_)
    refine wpAny_bind (wpAny_nextOf_tuple_end (by exact hd) ti p' (by simp; omega) fun G x eb hx' => ?_)
    obtain ⟨o, ho, hco⟩ := hx'
    refine wpAny_bind (wpAny_isInstance (T := "StopIteration") (b := true) ⟨o, ho, hco⟩ isSubtype_stop ?_)
    exact wpAny_pure ⟨rfl, J.turned (t' := s.toks) (fun b o hb q => eb b o hb q) f0 f1 f3 f4 f5⟩
  self := fun A i s Q E st h => let ⟨⟨_, en⟩, _⟩ := st; wpAny_pyIter_enum en h
def iEnumT (K : PySem.W.Frag) (ta : TA) : TI := fun σ H R => ta σ H fun vs H1 => ∃ a xs, vs = [.ref a] ∧ SqT K H1 a xs ∧ R (IteT K a) H1
theorem pi_enumT {X : Cx} {K : PySem.W.Frag} {e : Expr} {ta : TA} {p pos tpos : Pos} {elts : List Expr} {kk : Nat} (hK : X.K = K) (hg : Gl X "enumerate") (hm : X.mg "enumerate" = none) (ha : PA X [e] ta) (hs : starEach [e] X.env = [(false, eval e X.env)] := by rfl) :
    PI X (.Tuple elts kk tpos) (.Call (.Name "enumerate" p) [e] [] pos) (iEnumT K ta) := by
  subst hK
  refine ⟨fun pins s σ H R J h => ?_⟩
  refine Call_ (ld_blt J hg hm boot_enumerate (PyProof.Rows.callWith_type1 (thn (ha.run pos pins s σ H _ J h) fun us t ⟨vs, H1, J1, r1, q1⟩ => ?_) hs rfl))
  obtain ⟨a, xs, ex, hq, q⟩ := q1
  subst ex
  obtain ⟨u, rfl, ra⟩ := vals1 r1
  cases ra
  obtain ⟨its, rv, p', hz⟩ := J1.tuple hq
  refine ts_call_enumT (show t.heap.IsTuple a its.toArray from p') fun G en ti hk => wpAny_pyIter_enum en ?_
  have J2 : Inv X pins σ H1 { t with heap := G } := J1.kept (t' := t.toks) hk
  refine ⟨t.heap.objs.size + 1, [t.heap.objs.size + 1, t.heap.objs.size], _, _, H1, rfl, J2, turn_enumT a (t.heap.objs.size + 1) t.heap.objs.size, ⟨⟨.none, en⟩, ti, Nat.succ_ne_self _⟩, fun b hb => ?_, q⟩
  have le : t.heap.objs.size ≤ b := by
    have e' : b = t.heap.objs.size + 1 ∨ b = t.heap.objs.size := by simpa using hb
    rcases e' with z | z <;> rw [z]
    · exact Nat.le_add_right _ _
    · exact Nat.le_refl _
  exact J1.fpOk le (J1.hok.fresh le)
theorem walk_enumT {K : PySem.W.Frag} {a : Addr} {xs : List V} : Walk (IteT K a) xs.length (fun H => SqT K H a xs) (YPair (fun i => some (.int (i : Nat))) (fun i => xs[i]?)) := by
  refine ⟨fun i _ hi q => ⟨xs, xs[i], q, by simp [hi]⟩, fun _ q => ⟨xs, q, Nat.le_refl _⟩, fun i H v G _ q y => ?_⟩
  obtain ⟨T, x, h1, h2, h3, h4⟩ := y
  exact ⟨T, .int (i : Nat), x, h1, h2, h3, rfl, h4 xs q⟩
/-! either of two readings -/
section
variable {X : Cx} {e tg : Expr} {t1 t2 : TE} {i1 i2 : TI}
theorem pe_either (h1 : PE X e t1) (h2 : PE X e t2) : PE X e (fun σ H Q => t1 σ H Q ∨ t2 σ H Q) := ⟨fun pins s σ H Q J h => h.elim (h1.run pins s σ H Q J) (h2.run pins s σ H Q J)⟩
theorem pi_either (h1 : PI X tg e i1) (h2 : PI X tg e i2) : PI X tg e (fun σ H R => i1 σ H R ∨ i2 σ H R) := ⟨fun pins s σ H R J h => h.elim (h1.run pins s σ H R J) (h2.run pins s σ H R J)⟩
end
end TS

set_option maxHeartbeats 2000000
/-! ### 9. defs that raise; own exceptions with one field; several except clauses -/
namespace TS
open PySem PySem.Spec PyProof.Rows L2
/-- a method's def at f -/
def DefM (K : PySem.W.Frag) (f : Addr) (m qual : Str) (st : Stmt) : Prop := ∃ fd, FunD K m qual (defArgs st) (defBody st) (defScope st) [] [] f fd
/-- a promise by the def's place -/
def PromA (CX : CXT) (P : Program) (w : World) (K : PySem.W.Frag) (mg : Str → Option Value) (base : Heap) (k : Nat) (f : Addr) (ps : List Str) (sp : Sp) : Prop := ∃ fd, FnOk P w K mg base CX k f fd ps sp ∧ Binds K fd ps []
/-- a def that may raise, by its name -/
def PromX (P : Program) (w : World) (K : PySem.W.Frag) (mg : Str → Option Value) (base : Heap) (k : Nat) (x : Str) (ps : List Str) (sp : Sp) : Prop :=
  ∃ f, PromA (L2.CX P w) P w K mg base k f ps sp ∧ mg x = some (.ref f) ∧ PySem.W.keepIn K (.ref f) = true
section
variable {P : Program} {w : World} {K : PySem.W.Frag} {mg : Str → Option Value} {base : Heap} {N ps : List Str} {k : Nat} {sp : Sp} {x m qual : Str} {st : Stmt} {f : Addr}
theorem meth_mk (D : DefM K f m qual st) (S : FnScope N ps (defScope st)) (len : ∀ vs H Q E, sp vs H Q E → vs.length = ps.length)
    (hb : ∀ (kV doc pm : Value) (an : Option Addr) (cdv ct : Value) (us : List Value), us.length = ps.length → bindArgs (PySem.W.fnOf m qual (defArgs st) (defBody st) (defScope st) .none kV doc pm an cdv ct) ⟨us, []⟩ = pure (ps.zip us))
    (body : ∀ (cdv : Value) (A : Around) (outer : List Env) (s : Shared) (H : Hp) (vs : List V) (Q : VK) (E : XK), Room k (A.deeper (envOfC qual (defScope st) s.heap.objs.size f cdv)) → sp vs H Q E →
      ∃ t, PSs (cxOf CX0 P w K mg base N qual (defScope st) f cdv A outer s H E).nox (defBody st) t ∧ t { nx := fun _ G => Q .non G, rt := Q } (start N vs) H) : PromA CX0 P w K mg base (k + 1) f ps sp := by
  obtain ⟨fd, F⟩ := D
  refine ⟨fd, F.ok S len fun cdv A outer s H vs Q E hr h => ?_, F.bindsN hb⟩
  obtain ⟨t, h1, h2⟩ := body cdv A outer s H vs Q E hr h
  exact ⟨t, h1.nox, h2⟩
theorem methX_mk (D : DefM K f m qual st) (S : FnScope N ps (defScope st)) (len : ∀ vs H Q E, sp vs H Q E → vs.length = ps.length)
    (hb : ∀ (kV doc pm : Value) (an : Option Addr) (cdv ct : Value) (us : List Value), us.length = ps.length → bindArgs (PySem.W.fnOf m qual (defArgs st) (defBody st) (defScope st) .none kV doc pm an cdv ct) ⟨us, []⟩ = pure (ps.zip us))
    (body : ∀ (cdv : Value) (A : Around) (outer : List Env) (s : Shared) (H : Hp) (vs : List V) (Q : VK) (E : XK), Room k (A.deeper (envOfC qual (defScope st) s.heap.objs.size f cdv)) → sp vs H Q E →
      ∃ t, PSs (cxOf (L2.CX P w) P w K mg base N qual (defScope st) f cdv A outer s H E) (defBody st) t ∧ t { nx := fun _ G => Q .non G, rt := Q } (start N vs) H) : PromA (L2.CX P w) P w K mg base (k + 1) f ps sp := by
  obtain ⟨fd, F⟩ := D
  exact ⟨fd, F.ok S len body, F.bindsN hb⟩
theorem promX_mk (D : Def K mg x st) (S : FnScope N ps (defScope st)) (len : ∀ vs H Q E, sp vs H Q E → vs.length = ps.length)
    (hb : ∀ (kV doc pm : Value) (an : Option Addr) (cdv ct : Value) (us : List Value), us.length = ps.length → bindArgs (PySem.W.fnOf x x (defArgs st) (defBody st) (defScope st) .none kV doc pm an cdv ct) ⟨us, []⟩ = pure (ps.zip us))
    (body : ∀ (f : Addr) (cdv : Value) (A : Around) (outer : List Env) (s : Shared) (H : Hp) (vs : List V) (Q : VK) (E : XK), Room k (A.deeper (envOfC x (defScope st) s.heap.objs.size f cdv)) → sp vs H Q E →
      ∃ t, PSs (cxOf (L2.CX P w) P w K mg base N x (defScope st) f cdv A outer s H E) (defBody st) t ∧ t { nx := fun _ G => Q .non G, rt := Q } (start N vs) H) : PromX P w K mg base (k + 1) x ps sp := by
  obtain ⟨f, fd, F, m⟩ := D
  exact ⟨f, ⟨fd, F.ok S len (body f), F.bindsN hb⟩, m, F.kp⟩
/-- in a def that may raise, what it lets out is taken -/
theorem takesF {E : XK} {qual : Str} {scope : Scope} {f : Addr} {cdv : Value} {A : Around} {outer : List Env} {s : Shared} {H : Hp} :
    Takes (cxOf (L2.CX P w) P w K mg base N qual scope f cdv A outer s H E) (fun cls d _ G => E cls d G) := takes_of rfl rfl rfl rfl
end
/-! calls of defs that may raise: what is let out goes to W -/
section
variable {X : Cx} {k : Nat} {f C : Addr} {ps : List Str} {sp : Sp} {W : WX} {x : Str} {p pos : Pos} {e : Expr} {es : List Expr} {t : TA}
theorem pe_pcX (pr : PromX X.prog X.w X.K X.mg X.base k x ps sp) (tk : Takes X W) (hr : Room k X.A) (hg : Gl X x) (ha : PA X (e :: es) t) (hdb : (x == ("__debug__" : Str)) = false := by decide)
    (he : starEach (e :: es) X.env = (false, eval e X.env) :: starEach es X.env := by rfl) (hpl : (backTo pos (starEach es X.env)).any (·.1) = false := by rfl) :
    PE X (.Call (.Name x p) (e :: es) [] pos) (tCallS sp (WE W) t) := by
  obtain ⟨f, ⟨fd, F, b⟩, m, kp⟩ := pr
  exact pe_callS F hr hg m kp b (fun σ => passAt tk σ) ha hdb he hpl
/-- C(e, ..) of an own class whose __init__ may raise -/
def tMakeS (C : Addr) (sp : Sp) (W : WX) (t : TA) : TE := fun σ H Q => t σ H fun vs H1 => ∀ x dx, H1 x = none → H1 dx = none → dx ≠ x →
  sp (.ref x :: vs) (upd (upd H1 dx (.own x)) x (.ins C dx [])) (fun v H2 => v = .non ∧ Q (.ref x) H2) (WE W σ)
theorem make_runS {fd : FuncData} {pins : List (Addr × Obj)} {σ : L2.St} {H : Hp} {s : Shared} {Q : VK} {us : List Value} {vs : List V} (M : Mk X.K C f) (F : FnOk X.prog X.w X.K X.mg X.base (L2.CX X.prog X.w) k f fd ps sp) (hr : Room (k + 1) X.A) (hb : Binds X.K fd ps [])
    (tk : Takes X W) (J : Inv X pins σ H s) (r : Vals vs us)
    (h : ∀ x dx, H x = none → H dx = none → dx ≠ x → sp (.ref x :: vs) (upd (upd H dx (.own x)) x (.ins C dx [])) (fun v H2 => v = .non ∧ Q (.ref x) H2) (WE W σ)) :
    wpAny (model X.prog X.w) X.A (call (.ref C) us) (EP X pins σ Q) X.xe s := by
  have q := h (s.heap.objs.size + 1) s.heap.objs.size (J.hok.fresh (Nat.le_succ _)) (J.hok.fresh (Nat.le_refl _)) (Nat.ne_of_lt (Nat.lt_succ_self _))
  have J2 := Inv.made (C := C) J
  have r2 : Vals (V.ref (s.heap.objs.size + 1) :: vs) (Value.ref (s.heap.objs.size + 1) :: us) := .cons rfl r
  have hl : (Value.ref (s.heap.objs.size + 1) :: us).length = ps.length := by rw [← r2.length]; exact F.len _ _ _ _ q
  have b := hb _ (Value.ref (s.heap.objs.size + 1) :: us) J2.kIn (by rw [List.append_nil]; exact hl)
  rw [List.append_nil] at b
  refine wpAny_call (make_map (f := f) J.kIn M.makes M.init (beq_iff_eq.mp M.fn) (codeAny_mono (F.run _ X.stack _ _ ⟨Value.ref (s.heap.objs.size + 1) :: us, []⟩ (Value.ref (s.heap.objs.size + 1) :: us) _ _ (WE W σ) (hr.make C us [])
    (J2.env0.make C us []) b r2 q) fun o t z => ?_))
  match o, z with
  | .error e, z => exact passAt tk σ pins _ _ e t J2 z
  | .ok (.ret u), z =>
    obtain ⟨v, G, J3, rv, ev, q3⟩ := J2.after z
    subst ev
    exact ⟨rv, ⟨V.ref (s.heap.objs.size + 1), G, J3, rfl, q3⟩⟩
theorem pe_makeS (M : Mk X.K C f) (pr : PromA (L2.CX X.prog X.w) X.prog X.w X.K X.mg X.base k f ps sp) (tk : Takes X W) (hr : Room (k + 1) X.A) (hg : Gl X x) (hm : X.mg x = some (.ref C)) (ha : PA X (e :: es) t) (hdb : (x == ("__debug__" : Str)) = false := by decide)
    (he : starEach (e :: es) X.env = (false, eval e X.env) :: starEach es X.env := by rfl) (hpl : (backTo pos (starEach es X.env)).any (·.1) = false := by rfl) :
    PE X (.Call (.Name x p) (e :: es) [] pos) (tMakeS C sp W t) := by
  obtain ⟨fd, F, b⟩ := pr
  refine ⟨fun pins s σ H Q J h => wpAny_Call_Name_kw (ld_glob J hg hm ?_ hdb)⟩
  exact PySem.W.callWith_K (h₀ := X.base) J.ok.mod.kin M.kp (thn (ha.run pos pins s σ H _ J h) fun us t ⟨vs, H1, J1, r, q⟩ => ⟨J1.kIn, make_runS M F hr b tk J1 r q⟩) he hpl
end
/-! len of an instance with its own __len__ -/
def rLenOwn (C : Addr) (sp : Sp) : List V → Hp → VK → Prop := fun xs H Q => ∃ a dx fs, xs = [.ref a] ∧ H a = some (.ins C dx fs) ∧ sp [.ref a] H (fun v G => ∃ n : Nat, v = .int n ∧ n < 2 ^ 40 ∧ Q (.int n) G) E0
theorem len_own {X : Cx} {k : Nat} {C f : Addr} {ps : List Str} {sp : Sp} (M : Meth X.K C "__len__" f) (pr : PromA CX0 X.prog X.w X.K X.mg X.base k f ps sp) (hr : Room (k + 1) X.A) : CallR X (.builtin "len") (rLenOwn C sp) := by
  intro pins s σ H xs us Q J r rd
  obtain ⟨a, dx, fs, rfl, ea, q⟩ := rd
  obtain ⟨u, rfl, ra⟩ := vals1 r
  cases ra
  obtain ⟨fd, F, hb⟩ := pr
  obtain ⟨mA, O, rr, _, _, _⟩ := ins_get J.hok ea
  obtain ⟨od, at_, _⟩ := O.look
  have b := hb s [.ref a] J.kIn (F.len _ _ _ _ q)
  refine Calls.call_function_entry PySem.kind_len PySem.plain_len PySem.entry_len (PySem.args_len1 _) ?_
  unfold Builtin.«len»
  refine wpAny_bind (m := oneArg "len" _) (wpAny_pure ?_)
  refine wpAny_bind (m := callSpecial? (.ref a) (Str.ofString "__len__")) (PySem.W.special_fn J.kIn at_ M.at_ (beq_iff_eq.mp M.fn) ?_)
  refine wpAny_call (codeAny_mono (F.run X.A.in1 X.stack s H ⟨[.ref a], []⟩ [.ref a] [.ref a] _ E0 hr.in1 J.env0.in1 b (.cons rfl .nil) q) fun o t z => ?_)
  match o, z with
  | .error e, z => exact pass0 pins σ H s e t J z
  | .ok (.ret u), z =>
    obtain ⟨v, G, J2, rv, n, rfl, hn, q2⟩ := J.after z
    obtain ⟨tk, rfl⟩ := rv
    show wpAny _ _ _ _ _ _
    refine wpAny_bind (wpAny_holding (wpAny_pure ?_))
    refine wpAny_bind (wpAny_letGo ?_)
    show wpAny _ _ (if ((n : Nat) : Int) < 0 then _ else _) _ _ _
    rw [if_neg (by omega)]
    show wpAny _ _ (if ((n : Nat) : Int) ≥ 2 ^ 63 then _ else _) _ _ _
    rw [if_neg (by omega)]
    exact wpAny_bind (wpAny_mkInt (wpAny_pure ⟨_, rfl, .int n, G, J2.kept fun _ _ z => z, ⟨_, rfl⟩, q2⟩))
end TS

set_option maxHeartbeats 2000000
namespace TS
open PySem PySem.Spec PyProof.Rows L2
/-- B is an own class over ValueError without an __init__ of its own -/
structure FamV (K : PySem.W.Frag) (B : Addr) : Prop where
  rd : ClX.CRead K B (.type "type")
  ini : PySem.W.findCls K (.ref B) (.type "type") "__init__" = some (.val (.builtin "ValueError.__init__"))
/-- C is an own class of exceptions over ValueError, with an __init__ of its own, and no other thing called f -/
structure OwnV (K : PySem.W.Frag) (C : Addr) (f : Str) : Prop where
  ox : OexC K C
  xf : XfC K C
  ini : PySem.W.findIn K (.ref C) "__init__" = some (some (.ref (He.ma K C "__init__")))
  fn : PySem.W.typeIn K (.ref (He.ma K C "__init__")) = some (.type "function")
  no : PySem.W.findIn K (.ref C) f = some none
section
variable {X : Cx} {B : Addr} {x : Str} {e : Expr} {es : List Expr} {ta : TA} {p1 p2 pos : Pos}
/-- B.__init__(self, ..) -/
theorem pe_famInit {pl : Sem Bool} (T : FamV X.K B) (hg : Gl X x) (hm : X.mg x = some (.ref B)) (ha : PA X (e :: es) ta) (hdb : (x == ("__debug__" : Str)) = false := by decide)
    (hc : eval (.Call (.Attribute (.Name x p1) "__init__" p2) (e :: es) [] pos) X.env = (do
      let ov ← eval (.Name x p1) X.env
      standAt p2.atName
      let (f, first) ← holding [ov] (getMethod ov "__init__" pl)
      callWith pos f first (backTo pos (starEach (e :: es) X.env)) (backToKw pos (keywordEach [] X.env))) := by rfl)
    (he : starEach (e :: es) X.env = (false, eval e X.env) :: starEach es X.env := by rfl) (hpl : (backTo pos (starEach es X.env)).any (·.1) = false := by rfl) :
    PE X (.Call (.Attribute (.Name x p1) "__init__" p2) (e :: es) [] pos) (tVeI X.K ta) := by
  refine ⟨fun pins s σ H Q J h => ?_⟩
  refine PySem.W.methodCall_KW (ld_glob J hg hm ?_ hdb) hc
  refine PySem.W.method_cls J.kIn T.rd.ga (PySem.W.cls_value J.kIn T.rd.rd T.ini rfl ?_)
  show wpAny _ _ (callWith pos (Value.builtin "ValueError.__init__") [] (backTo pos (starEach (e :: es) X.env)) []) _ _ _
  refine PyProof.Rows.callWith_method1 (thn (ha.run pos pins _ σ H _ (J.tok _) h) fun us t ⟨vs, H1, J1, r1, a, C, ws, ev, hl, O, ea, q⟩ => ?_) he hpl
  subst ev
  cases r1 with
  | @cons _ u0 _ ur ra rw' =>
    obtain rfl : u0 = Value.ref a := ra
    exact oinit_ok O J1 ea (by rw [← Paired.length rw', sizeLine_eq]; omega) fun t' J2 => ⟨.non, H1, J2, rfl, q⟩
end
/-- what the __init__ of such a class keeps -/
def spIni (C : Addr) (f : Str) : Sp := fun vs H Q _ => ∃ a v, vs = [.ref a, v] ∧ H a = some (exo a C none) ∧ ∀ dx, H dx = none → dx ≠ a → Q .non (upd (upd H dx (exd dx [(f, v)])) a (exo a C (some dx)))
/-- a reading, weakened -/
def tMono (te : TE) : TE := fun σ H Q => ∃ R : VK, te σ H R ∧ ∀ v G, R v G → Q v G
theorem pe_mono {X : Cx} {e : Expr} {te : TE} (he : PE X e te) : PE X e (tMono te) := ⟨fun pins s σ H Q J ⟨R, h, m⟩ => thn (he.run pins s σ H R J h) fun _ _ ⟨v, G, J1, r, q⟩ => ⟨v, G, J1, r, m v G q⟩⟩
/-- raise C(e) -/
def tRaise1 (C : Addr) (f : Str) (te : TE) (W : WX) : TS := fun _ σ H => te σ H fun v H1 => ∀ d, H1 d = none → W (.ref C) (some d) σ (upd H1 d (.xd [(f, v)]))
theorem upd_swap {H : Hp} {a d : Addr} {o u v w : HO} (h : d ≠ a) (n : H a = none) : upd (del (upd (upd (upd H a o) d u) a v) a) d w = upd H d w := by
  funext b
  by_cases hb : b = d
  · rw [hb, upd_same, upd_same]
  · rw [upd_ne hb, upd_ne hb]
    by_cases ha : b = a
    · rw [ha, del_same, n]
    · rw [del_ne ha, upd_ne ha, upd_ne hb, upd_ne ha]
section
variable {X : Cx} {C : Addr} {f x : Str} {k : Nat} {ps : List Str} {e : Expr} {te : TE} {W : WX} {p pos pos2 : Pos}
theorem ps_raise1 (T : OwnV X.K C f) (pr : PromA CX0 X.prog X.w X.K X.mg X.base k (He.ma X.K C "__init__") ps (spIni C f)) (hc : X.calm = true) (tk : Takes X W) (hr : Room (k + 1) X.A) (hg : Gl X x) (hm : X.mg x = some (.ref C)) (he : PE X e te)
    (hdb : (x == ("__debug__" : Str)) = false := by decide) (hs : starEach [e] X.env = (false, eval e X.env) :: starEach [] X.env := by rfl) (hpl : (backTo pos (starEach [] X.env)).any (·.1) = false := by rfl) :
    PS X (.Raise (some (.Call (.Name x p) [e] [] pos)) none pos2) (tRaise1 C f te W) := by
  obtain ⟨fd, F, b⟩ := pr
  have mk := pmk_oex (p := p) (pos := pos) (dvs := []) (ds := []) T.ox T.ini T.fn F hr b .nil pass0 hg hm (pa_cons (pe_mono he) pa_nil hs) hdb hs hpl
  refine ⟨fun pins s σ H D J h => (ps_raise hc tk mk).run pins s σ H D J ?_⟩
  refine ⟨_, h, fun v H1 q => ⟨by show 1 ≤ 1000; decide, fun a na => ⟨a, v, rfl, upd_same .., fun dx nd ne => ⟨rfl, dx, [(f, v)], upd_same .., ?_, ?_, ?_⟩⟩⟩⟩
  · rw [upd_ne ne, upd_same]
  · rw [upd_ne ne] at nd; exact nd
  · rw [upd_ne ne] at nd
    rw [upd_swap ne na]
    exact q dx nd
end
end TS

set_option maxHeartbeats 2000000
/-! ### 10. try with several clauses, named ones and others; what lies behind them is never reached -/
namespace TS
open PySem PySem.Spec PyProof.Rows L2
/-- behind a named clause its name is unbound -/
def Ends.drop (D : Ends) (i : Nat) : Ends := { nx := fun τ G => D.nx (τ.set i none) G, rt := D.rt, bk := fun τ G => D.bk (τ.set i none) G, ct := fun τ G => D.ct (τ.set i none) G }
abbrev Clause := Value × Option Nat × (Addr → Value → Option Addr → TS)
def wClauses (K : PySem.W.Frag) (D : Ends) : List Clause → WX
  | [] => fun _ _ _ _ => False
  | (c, some i, ts) :: r => fun cls d σ H => ∃ b, PySem.W.exmOne K cls c = some b ∧ (b = true → ∀ a, H a = none → ts a cls d (Ends.drop D i) (σ.set i (some (.ref a))) H) ∧ (b = false → wClauses K D r cls d σ H)
  | (c, none, ts) :: r => fun cls d σ H => ∃ b, PySem.W.exmOne K cls c = some b ∧ (b = true → ∀ a, H a = none → ts a cls d D σ H) ∧ (b = false → wClauses K D r cls d σ H)
abbrev SuiteOk (X : Cx) (st : List Stmt) (ts : Addr → Value → Option Addr → TS) : Prop :=
  ∀ (a : Addr) (oe : Obj) (cls : Value) (d : Option Addr) (pn : List (Addr × Obj)), Zc cls d oe → (∃ vs, oe.data = .fields vs) → PSs (X.suite a ((a, oe) :: pn)) st (ts a cls d)
inductive ClausesOk (X : Cx) : List ExceptHandler → List Clause → Prop
  | stop {l : List ExceptHandler} : ClausesOk X l []
  | as_ {x n : Str} {i : Nat} {c : Value} {ts : Addr → Value → Option Addr → TS} {b₀ : Stmt} {suite : List Stmt} {np pp : Pos} {l : List ExceptHandler} {r : List Clause} (hi : X.N[i]? = some n) (hln : X.env.kindOf n = some .local) (hc : Names X x c)
      (hsu : SuiteOk X (b₀ :: suite) ts) (t : ClausesOk X l r) : ClausesOk X (.ExceptHandler (some (.Name x np)) (some n) (b₀ :: suite) pp :: l) ((c, some i, ts) :: r)
  | only {x : Str} {c : Value} {ts : Addr → Value → Option Addr → TS} {b₀ : Stmt} {suite : List Stmt} {np pp : Pos} {l : List ExceptHandler} {r : List Clause} (hc : Names X x c)
      (hsu : SuiteOk X (b₀ :: suite) ts) (t : ClausesOk X l r) : ClausesOk X (.ExceptHandler (some (.Name x np)) none (b₀ :: suite) pp :: l) ((c, none, ts) :: r)
section
variable {X : Cx} {body : List Stmt} {h₀ : ExceptHandler} {hs' : List ExceptHandler} {cl : List Clause} {pos : Pos} {tb : WX → TS}
theorem ps_try (stk : X.stack = X.env :: X.outer) (frm : X.env.frame = some X.env.locals) (nod : X.N.Nodup)
    (bod : ∀ (W : WX) (pn : List (Addr × Obj)) (xe : Value → Shared → Prop), Takes (X.tr pn xe) W → PassesOwn (model X.prog X.w) X.A X.env xe → PSs (X.tr pn xe) body (tb W))
    (cls' : ClausesOk X (h₀ :: hs') cl) : PS X (.Try body (h₀ :: hs') [] [] pos) (fun D σ H => tb (wClauses X.K D cl) D σ H) := by
  refine ⟨fun pins s σ H D J rd => ?_⟩
  have xok := J.ok
  have afr : X.A.frames = some (X.env :: X.outer) := by rw [xok.frames, stk]
  refine wpAny_Try_except ?_
  refine wpAny_mono ((bod (wClauses X.K D cl) (X.pn ++ pins) (fun u t1 => wpAny (model X.prog X.w) X.A (noteFrame u X.env) (fun _ t2 => wpAny (model X.prog X.w) X.A (setFlight u none) (fun _ t3 =>
    wpAny (model X.prog X.w) X.A (handleBy u X.env (h₀ :: hs')) (SP X pins D) X.xe t3) X.xe t2) X.xe t1) (fun u t air => ?_) PassesOwn.looking).run [] s σ H D (J.toTry _) rd) (fun fl t1 sp => ?_) (fun u t1 z => z)
  · obtain ⟨a, gr, sA, pins', σ', H', cls, d, rfl, J', ngr, up, sky, na, os, ag, wish⟩ := air
    have J1 : Inv X pins σ' H' sA := J'.ofTry xok
    have sky1 : Sky gr (X.env :: X.outer) a (Zc cls d) X.env.locals t.heap := by rw [← stk]; exact sky
    show wpAny (model X.prog X.w) X.A (noteFrame (.ref a) X.env) _ _ _
    refine Sky.land Zc.steady afr frm sky1 fun h3 fl3 up3 => ?_
    have J3 : Inv X pins σ' H' { t with heap := h3 } := J1.landed ngr fl3.1 (up.trans up3) os ag
    obtain ⟨oe3, vs3, get3, zc3, dat3⟩ := fl3.there
    have off : ∀ {h : Heap} {o : Obj} {vs : Array Value}, h.FunFrames gr (X.env :: X.outer) → h.get? a = some o → o.data = .fields vs → a ∉ frs (X.env :: X.outer) := fun {h o vs} ff g dd m => by
      obtain ⟨_, o', g', nf⟩ := ff.mem m
      rw [g] at g'; cases g'
      exact nf _ dd
    have offA := off fl3.2.2.1 get3 dat3
    have neL : a ≠ X.env.locals := fun z => offA (List.mem_filterMap.mpr ⟨X.env, List.mem_cons_self, by rw [frm, z]⟩)
    have neF : a ∉ X.fs := fun m => by
      obtain ⟨en, me, q⟩ := List.mem_filterMap.mp m
      exact offA (List.mem_filterMap.mpr ⟨en, List.mem_cons_of_mem _ me, q⟩)
    have S3 := J3.suite get3 dat3 na neL neF
    have ld : ∀ {x : Str} {c : Value} {np : Pos}, Names X x c → ∀ {Q : Value → Shared → Prop} {E : Value → Shared → Prop}, Q c { t with heap := h3 } → wpAny (model X.prog X.w) (X.A.mark (some (.ref a))) (eval (.Name x np) X.env) Q E { t with heap := h3 } := fun {x c np} nm {Q E} q => by
      obtain ⟨g, db, m | ⟨m, v, nn⟩⟩ := nm
      · exact ld_glob (X := X.suite a ((a, oe3) :: (X.pn ++ pins))) S3 g m q db
      · exact ld_blt (X := X.suite a ((a, oe3) :: (X.pn ++ pins))) S3 g m v q nn db
    have LT : PySem.W.Looks (model X.prog X.w) h3 (typeOf (.ref a)) cls := fun A Q E s k q => wpAny_typeOf_ref (k _ _ get3) (by rw [zc3.1]; exact q)
    have go : ∀ {l : List ExceptHandler} {r : List Clause}, ClausesOk X l r → wClauses X.K D r cls d σ' H' → wpAny (model X.prog X.w) X.A (handleBy (.ref a) X.env l) (SP X pins D) X.xe { t with heap := h3 } := by
      intro l r ck
      induction ck with
      | stop => intro w; exact False.elim w
      | @as_ x n i c ts b₀ suite np pp l r hi hln hc hsu t2 ih =>
        intro w
        obtain ⟨b, eb, yes, no⟩ := w
        refine wpAny_handleBy_cons (codeAny_handlers_test ?_) (by intro q; cases q)
        refine ld hc ((PySem.W.exm_one (M := model X.prog X.w) J3.kIn LT eb).here ?_)
        cases b with
        | false =>
          show wpAny _ X.A (handleBy (.ref a) X.env l) _ _ _
          exact ih (no rfl)
        | true =>
          refine codeAny_handlers_suite_as ?_
          refine HandSPX.lands_againZ fl3 fun h4 fl4 up4 => ?_
          have J4 : Inv X pins σ' H' { t with heap := h4 } := J1.landed ngr fl4.1 ((up.trans up3).trans up4) os ag
          obtain ⟨oe4, vs4, get4, zc4, dat4⟩ := fl4.there
          have S4 := J4.suite get4 dat4 na neL neF
          refine store_ok (X := X.suite a ((a, oe4) :: (X.pn ++ pins))) (v := .ref a) S4 nod hi (.inl hln) rfl (fun t5 S5 => ?_) (.inr hln)
          refine wpAny_mono ((hsu a oe4 cls d (X.pn ++ pins) zc4 ⟨_, dat4⟩).run [] t5 _ H' _ S5 (yes rfl a na)) (fun fl t6 sp => ?_) (fun _ _ z => False.elim z)
          have un : ∀ {σ6 : L2.St} {H6 : Hp} {Q : Shared → Prop}, Inv (X.suite a ((a, oe4) :: (X.pn ++ pins))) [] σ6 H6 t6 → (∀ t7, Inv X pins (σ6.set i none) H6 t7 → Q t7) →
              wpAny (model X.prog X.w) X.A (do bindName X.env n .none; unbindBehindTheSuite X.env n pp) (fun _ t7 => Q t7) X.xe t6 := fun {σ6 H6 Q} S6 q => gone_ok (S6.unsuite xok) nod hi hln q
          cases fl with
          | next => exact let ⟨_, _, S6, q6⟩ := sp; un S6 fun t7 J7 => ⟨_, _, J7, q6⟩
          | brk => exact let ⟨_, _, S6, q6⟩ := sp; un S6 fun t7 J7 => ⟨_, _, J7, q6⟩
          | cont => exact let ⟨_, _, S6, q6⟩ := sp; un S6 fun t7 J7 => ⟨_, _, J7, q6⟩
          | ret u => exact let ⟨_, _, _, S6, r6, q6⟩ := sp; un S6 fun t7 J7 => ⟨_, _, _, J7, r6, q6⟩
      | @only x c ts b₀ suite np pp l r hc hsu t2 ih =>
        intro w
        obtain ⟨b, eb, yes, no⟩ := w
        refine wpAny_handleBy_cons (codeAny_handlers_test ?_) (by intro q; cases q)
        refine ld hc ((PySem.W.exm_one (M := model X.prog X.w) J3.kIn LT eb).here ?_)
        cases b with
        | false =>
          show wpAny _ X.A (handleBy (.ref a) X.env l) _ _ _
          exact ih (no rfl)
        | true =>
          refine codeAny_handlers_suite ?_
          refine HandSPX.lands_againZ fl3 fun h4 fl4 up4 => ?_
          have J4 : Inv X pins σ' H' { t with heap := h4 } := J1.landed ngr fl4.1 ((up.trans up3).trans up4) os ag
          obtain ⟨oe4, vs4, get4, zc4, dat4⟩ := fl4.there
          have S4 := J4.suite get4 dat4 na neL neF
          refine wpAny_mono ((hsu a oe4 cls d (X.pn ++ pins) zc4 ⟨_, dat4⟩).run [] _ _ H' _ S4 (yes rfl a na)) (fun fl t6 sp => ?_) (fun _ _ z => False.elim z)
          cases fl with
          | next => exact let ⟨_, _, S6, q6⟩ := sp; ⟨_, _, S6.unsuite xok, q6⟩
          | brk => exact let ⟨_, _, S6, q6⟩ := sp; ⟨_, _, S6.unsuite xok, q6⟩
          | cont => exact let ⟨_, _, S6, q6⟩ := sp; ⟨_, _, S6.unsuite xok, q6⟩
          | ret u => exact let ⟨_, _, _, S6, r6, q6⟩ := sp; ⟨_, _, _, S6.unsuite xok, r6, q6⟩
    exact go cls' wish
  · cases fl with
    | next => exact let ⟨σ', H', J', q⟩ := sp; wpAny_execs_nil ⟨σ', H', J'.ofTry xok, q⟩
    | brk => exact let ⟨σ', H', J', q⟩ := sp; ⟨σ', H', J'.ofTry xok, q⟩
    | cont => exact let ⟨σ', H', J', q⟩ := sp; ⟨σ', H', J'.ofTry xok, q⟩
    | ret u => exact let ⟨v, σ', H', J', r, q⟩ := sp; ⟨v, σ', H', J'.ofTry xok, r, q⟩
end
end TS

/-! ### 11. data: kinds, sizes -/
namespace TS
open PySem PySem.Spec PyProof.Rows L2
def tyN : PyData → String
  | .none => "NoneType"
  | .bool _ => "bool"
  | .int _ => "int"
  | .str _ => "str"
  | .list _ => "list"
  | .tuple _ => "tuple"
  | .dict _ => "dict"
theorem Dt.ty {K : PySem.W.Frag} {H : Hp} : ∀ {v : V} {d : PyData}, Dt K H v d → TyX K H v (.type (tyN d))
  | _, _, .non => .base .non
  | _, _, .bl b => .base (.bl b)
  | _, _, .int i => .base (.int i)
  | _, _, .str x => .base (.str x)
  | _, _, .lst h _ => by
    rcases h with (h | ⟨o, h⟩) | ⟨o, its, n, hk, hc, _⟩
    · exact .base (.lst h)
    · exact .base (.frz h)
    · exact .kList hk hc
  | _, _, .tup h _ => by
    rcases h with (h | ⟨o, h⟩) | ⟨o, its, n, hk, hc, _⟩
    · exact .base (.tup h)
    · exact .fTuple h
    · exact .kTuple hk hc
  | _, _, .dct h _ _ => .base (.dK h)
/-- isinstance of data -/
def isD (c : String) (d : PyData) : Bool := kitB (tyN d) c == some true
def kinds : List String := ["NoneType", "bool", "int", "str", "list", "tuple", "dict"]
theorem tyN_mem (d : PyData) : tyN d ∈ kinds := by cases d <;> simp [tyN, kinds]
section
variable {K : PySem.W.Frag} {d : PyData}
theorem isi_str : PySem.W.kitOne K (.type (tyN d)) (.type "str") = some (isD "str" d) := kit_ty ((by decide +kernel : ∀ n ∈ kinds, kitB n "str" = some (kitB n "str" == some true)) _ (tyN_mem d))
theorem isi_int : PySem.W.kitOne K (.type (tyN d)) (.type "int") = some (isD "int" d) := kit_ty ((by decide +kernel : ∀ n ∈ kinds, kitB n "int" = some (kitB n "int" == some true)) _ (tyN_mem d))
theorem isi_bool : PySem.W.kitOne K (.type (tyN d)) (.type "bool") = some (isD "bool" d) := kit_ty ((by decide +kernel : ∀ n ∈ kinds, kitB n "bool" = some (kitB n "bool" == some true)) _ (tyN_mem d))
theorem isi_list : PySem.W.kitOne K (.type (tyN d)) (.type "list") = some (isD "list" d) := kit_ty ((by decide +kernel : ∀ n ∈ kinds, kitB n "list" = some (kitB n "list" == some true)) _ (tyN_mem d))
theorem isi_tuple : PySem.W.kitOne K (.type (tyN d)) (.type "tuple") = some (isD "tuple" d) := kit_ty ((by decide +kernel : ∀ n ∈ kinds, kitB n "tuple" = some (kitB n "tuple" == some true)) _ (tyN_mem d))
theorem isi_dict : PySem.W.kitOne K (.type (tyN d)) (.type "dict") = some (isD "dict" d) := kit_ty ((by decide +kernel : ∀ n ∈ kinds, kitB n "dict" = some (kitB n "dict" == some true)) _ (tyN_mem d))
theorem isi_lt : PySem.W.kitAny K (.type (tyN d)) [.type "list", .type "tuple"] = some (isD "list" d || isD "tuple" d) :=
  kitAny_cons isi_list (fun h1 => kitAny_cons isi_tuple (fun h => by rw [h1, h]; rfl) (fun h => by rw [h, Bool.or_true])) (fun h => by rw [h, Bool.true_or])
theorem isD_str (h : isD "str" d = true) : ∃ z, d = .str z := by
  have e := (by decide +kernel : ∀ n ∈ kinds, (kitB n "str" == some true) = true → n = "str") _ (tyN_mem d) h
  cases d <;> first | exact ⟨_, rfl⟩ | exact absurd e (by simp [tyN])
theorem isD_int (h : isD "int" d = true) : (∃ i, d = .int i) ∨ ∃ b, d = .bool b := by
  have e := (by decide +kernel : ∀ n ∈ kinds, (kitB n "int" == some true) = true → n = "int" ∨ n = "bool") _ (tyN_mem d) h
  cases d <;> first | exact .inl ⟨_, rfl⟩ | exact .inr ⟨_, rfl⟩ | exact absurd e (by simp [tyN])
theorem isD_bool (h : isD "bool" d = true) : ∃ b, d = .bool b := by
  have e := (by decide +kernel : ∀ n ∈ kinds, (kitB n "bool" == some true) = true → n = "bool") _ (tyN_mem d) h
  cases d <;> first | exact ⟨_, rfl⟩ | exact absurd e (by simp [tyN])
theorem isD_list (h : isD "list" d = true) : ∃ l, d = .list l := by
  have e := (by decide +kernel : ∀ n ∈ kinds, (kitB n "list" == some true) = true → n = "list") _ (tyN_mem d) h
  cases d <;> first | exact ⟨_, rfl⟩ | exact absurd e (by simp [tyN])
theorem isD_tuple (h : isD "tuple" d = true) : ∃ l, d = .tuple l := by
  have e := (by decide +kernel : ∀ n ∈ kinds, (kitB n "tuple" == some true) = true → n = "tuple") _ (tyN_mem d) h
  cases d <;> first | exact ⟨_, rfl⟩ | exact absurd e (by simp [tyN])
theorem isD_dict (h : isD "dict" d = true) : ∃ l, d = .dict l := by
  have e := (by decide +kernel : ∀ n ∈ kinds, (kitB n "dict" == some true) = true → n = "dict") _ (tyN_mem d) h
  cases d <;> first | exact ⟨_, rfl⟩ | exact absurd e (by simp [tyN])
theorem isD_strs (z : Str) : isD "str" (.str z) = true := by show (kitB "str" "str" == some true) = true; decide +kernel
theorem isD_lists (l : List PyData) : isD "list" (.list l) = true := by show (kitB "list" "list" == some true) = true; decide +kernel
theorem isD_tuples (l : List PyData) : isD "tuple" (.tuple l) = true := by show (kitB "tuple" "tuple" == some true) = true; decide +kernel
theorem isD_ints (i : Int) : isD "int" (.int i) = true := by show (kitB "int" "int" == some true) = true; decide +kernel
theorem isD_intb (i : Int) : isD "bool" (.int i) = false := by show (kitB "int" "bool" == some true) = false; decide +kernel
theorem isD_bools (i : Bool) : isD "bool" (.bool i) = true := by show (kitB "bool" "bool" == some true) = true; decide +kernel
theorem isD_boolt (i : Bool) : isD "int" (.bool i) = true := by show (kitB "bool" "int" == some true) = true; decide +kernel
end
/-! values of data by their kind -/
section
variable {K : PySem.W.Frag} {H : Hp} {v : V}
theorem Dt.str_inv {z : Str} (h : Dt K H v (.str z)) : v = .str z := by cases h; rfl
theorem Dt.int_inv {i : Int} (h : Dt K H v (.int i)) : v = .int i := by cases h; rfl
theorem Dt.bool_inv {i : Bool} (h : Dt K H v (.bool i)) : v = .bl i := by cases h; rfl
theorem Dt.list_inv {l : List PyData} (h : Dt K H v (.list l)) : ∃ a xs, v = .ref a ∧ SqL K H a xs ∧ DtAll K H xs l := by cases h with | lst a b => exact ⟨_, _, rfl, a, b⟩
theorem Dt.tup_inv {l : List PyData} (h : Dt K H v (.tuple l)) : ∃ a xs, v = .ref a ∧ SqT K H a xs ∧ DtAll K H xs l := by cases h with | tup a b => exact ⟨_, _, rfl, a, b⟩
theorem DtAll.get : ∀ {xs : List V} {ds : List PyData} {i : Nat} {x : V}, DtAll K H xs ds → xs[i]? = some x → ∃ d, ds[i]? = some d ∧ Dt K H x d
  | _, _, 0, _, .cons h _, e => by cases e; exact ⟨_, rfl, h⟩
  | _ :: _, _ :: _, i + 1, _, .cons _ t, e => DtAll.get (i := i) t (by simpa using e)
  | _, _, _, _, .nil, e => by simp at e
theorem DtAll.getD : ∀ {xs : List V} {ds : List PyData} {i : Nat} {d : PyData}, DtAll K H xs ds → ds[i]? = some d → ∃ x, xs[i]? = some x ∧ Dt K H x d
  | _, _, 0, _, .cons h _, e => by cases e; exact ⟨_, rfl, h⟩
  | _ :: _, _ :: _, i + 1, _, .cons _ t, e => DtAll.getD (i := i) t (by simpa using e)
  | _, _, _, _, .nil, e => by simp at e
theorem DtAll.append : ∀ {xs ys : List V} {ds es : List PyData}, DtAll K H xs ds → DtAll K H ys es → DtAll K H (xs ++ ys) (ds ++ es)
  | _, _, _, _, .nil, b => b
  | _, _, _, _, .cons h t, b => .cons h (DtAll.append t b)
theorem DtAll.set : ∀ {xs : List V} {ds : List PyData} {i : Nat} {x : V} {d : PyData}, DtAll K H xs ds → Dt K H x d → DtAll K H (xs.set i x) (ds.set i d)
  | _, _, _, _, _, .nil, _ => .nil
  | _, _, 0, _, _, .cons _ t, h => .cons h t
  | _, _, i + 1, _, _, .cons a t, h => .cons a (DtAll.set t h)
theorem DtAll.of : ∀ {xs : List V} {ds : List PyData}, xs.length = ds.length → (∀ (i : Nat) (x : V) (d : PyData), xs[i]? = some x → ds[i]? = some d → Dt K H x d) → DtAll K H xs ds
  | [], [], _, _ => .nil
  | x :: xs, d :: ds, h, q => .cons (q 0 x d rfl rfl) (DtAll.of (by simpa using h) fun i y e a b => q (i + 1) y e a b)
end
/-! ### sizes: what may be shown -/
structure Shows (d : PyData) : Prop where
  ok : d.showable = true
  deep : d.depth ≤ 40
  size : d.shown.length ≤ sizeLine
def smB (k n : Nat) (d : PyData) : Bool := d.showable && decide (d.depth ≤ k) && d.leavesShort 40 && decide (d.weight ≤ n)
def Sm (k n : Nat) (d : PyData) : Prop := smB k n d = true
theorem Sm.of {k n : Nat} {d : PyData} (a : d.showable = true) (b : d.depth ≤ k) (c : d.leavesShort 40 = true) (e : d.weight ≤ n) : Sm k n d := by
  unfold Sm smB
  rw [a, decide_eq_true b, c, decide_eq_true e]; rfl
theorem Sm.to {k n : Nat} {d : PyData} (h : Sm k n d) : d.showable = true ∧ d.depth ≤ k ∧ d.leavesShort 40 = true ∧ d.weight ≤ n := by
  unfold Sm smB at h
  simp only [Bool.and_eq_true, decide_eq_true_eq] at h
  exact ⟨h.1.1.1, h.1.1.2, h.1.2, h.2⟩
theorem Sm.mono {k n k' n' : Nat} {d : PyData} (h : Sm k n d) (hk : k ≤ k') (hn : n ≤ n') : Sm k' n' d := let ⟨a, b, c, e⟩ := h.to; .of a (by omega) c (by omega)
theorem Sm.shows {k n : Nat} {d : PyData} (h : Sm k n d) (hk : k ≤ 40 := by decide) (hn : n ≤ 300000 := by decide) : Shows d := by
  obtain ⟨a, b, c, e⟩ := h.to
  refine ⟨a, by omega, Nat.le_trans (PyData.shown_le 40 (by decide) d c) ?_⟩
  rw [sizeLine_eq]
  omega
theorem Sm.str {z : Str} {k n : Nat} (hc : ∀ c ∈ z.cps.toList, c < 16 ^ 8) (h : z.length ≤ n) : Sm k n (.str z) := by
  refine .of rfl (Nat.zero_le _) ?_ h
  unfold PyData.leavesShort
  rw [List.all_eq_true]
  exact fun c m => decide_eq_true (hc c m)
section
variable {k n : Nat}
theorem all_show : ∀ {ds : List PyData}, (∀ d ∈ ds, d.showable = true) → PyData.showableAll ds = true
  | [], _ => rfl
  | d :: r, h => by unfold PyData.showableAll; rw [h d (by simp), all_show fun x m => h x (List.mem_cons_of_mem _ m)]; rfl
theorem all_deep : ∀ {ds : List PyData}, (∀ d ∈ ds, d.depth ≤ k) → PyData.depthAll ds ≤ k
  | [], _ => Nat.zero_le _
  | d :: r, h => by
    unfold PyData.depthAll
    have a := h d (by simp)
    have b := all_deep fun x m => h x (List.mem_cons_of_mem d m)
    omega
theorem all_short : ∀ {ds : List PyData}, (∀ d ∈ ds, d.leavesShort 40 = true) → PyData.leavesShortAll 40 ds = true
  | [], _ => rfl
  | d :: r, h => by unfold PyData.leavesShortAll; rw [h d (by simp), all_short fun x m => h x (List.mem_cons_of_mem _ m)]; rfl
theorem all_weight : ∀ {ds : List PyData}, (∀ d ∈ ds, d.weight ≤ n) → PyData.weightAll ds ≤ ds.length * (n + 1)
  | [], _ => Nat.zero_le _
  | d :: r, h => by
    unfold PyData.weightAll
    have a := h d (by simp)
    have b := all_weight fun x m => h x (List.mem_cons_of_mem d m)
    rw [List.length_cons, Nat.succ_mul]
    omega
theorem Sm.list {ds : List PyData} {m : Nat} (h : ∀ d ∈ ds, Sm k n d) (hl : ds.length ≤ m) : Sm (k + 1) (m * (n + 1)) (.list ds) := by
  refine .of (by unfold PyData.showable; exact all_show fun d m => (h d m).to.1) (by unfold PyData.depth; have := all_deep fun d m => (h d m).to.2.1; omega) (by unfold PyData.leavesShort; exact all_short fun d m => (h d m).to.2.2.1) ?_
  unfold PyData.weight
  exact Nat.le_trans (all_weight fun d m => (h d m).to.2.2.2) (Nat.mul_le_mul_right _ hl)
theorem Sm.tuple {ds : List PyData} {m : Nat} (h : ∀ d ∈ ds, Sm k n d) (hl : ds.length ≤ m) : Sm (k + 1) (m * (n + 1)) (.tuple ds) := by
  refine .of (by unfold PyData.showable; exact all_show fun d m => (h d m).to.1) (by unfold PyData.depth; have := all_deep fun d m => (h d m).to.2.1; omega) (by unfold PyData.leavesShort; exact all_short fun d m => (h d m).to.2.2.1) ?_
  unfold PyData.weight
  exact Nat.le_trans (all_weight fun d m => (h d m).to.2.2.2) (Nat.mul_le_mul_right _ hl)
end
/-! small numbers -/
theorem Sm.int {i : Int} {k : Nat} (h0 : -100 ≤ i) (h1 : i ≤ 150) : Sm k 10 (.int i) := by
  have all : ∀ j ∈ (List.range 251).map (fun n : Nat => (n : Int) - 100), smB 0 10 (.int j) = true := by decide +kernel
  have m : i ∈ (List.range 251).map (fun n : Nat => (n : Int) - 100) := List.mem_map.mpr ⟨(i + 100).toNat, List.mem_range.mpr (by omega), by omega⟩
  exact Sm.mono (k := 0) (all i m) (Nat.zero_le _) (Nat.le_refl _)
theorem Sm.bool {b : Bool} {k n : Nat} : Sm k n (.bool b) := .of rfl (Nat.zero_le _) rfl (Nat.zero_le _)
theorem Sm.none {k n : Nat} : Sm k n .none := .of rfl (Nat.zero_le _) rfl (Nat.zero_le _)
end TS

/-! ### 12. walks over lists or tuples; comprehensions whose turns only add to the heap -/
namespace TS
open PySem PySem.Spec PyProof.Rows L2
theorem yes {σ : L2.St} {H : Hp} {C : Bool → Hp → Prop} (h : C true H) : tYes σ H C := h
/-- a list or a tuple -/
def Sq (K : PySem.W.Frag) (H : Hp) (a : Addr) (xs : List V) : Prop := SqL K H a xs ∨ SqT K H a xs
theorem Sq.same {K : PySem.W.Frag} {H H' : Hp} {a : Addr} {xs : List V} (e : Same H H') (h : Sq K H a xs) : Sq K H' a xs := h.imp (fun q => e.seq q) (fun q => SqT.same e q)
theorem Sq.len {K : PySem.W.Frag} {H : Hp} {a : Addr} {xs : List V} (h : Sq K H a xs) : LenV K (.ref a) H xs.length := h.imp (fun q => ⟨xs, q, rfl⟩) (fun q => ⟨xs, q, rfl⟩)
theorem seq_it {K : PySem.W.Frag} {H : Hp} {a : Addr} {xs : List V} {i : Nat} {σ : L2.St} {R : It → Hp → Prop} (hv : σ[i]? = some (some (.ref a))) (h : Sq K H a xs)
    (k : ∀ (J : It) (G : Hp → Prop), Walk J xs.length G (YAt xs) → (∀ H', Same H H' → G H') → R J H) : iList K (tVar i) σ H R ∨ iTup K (tVar i) σ H R := by
  rcases h with h | h
  · exact .inl ⟨_, hv, a, rfl, ⟨xs, h⟩, k _ _ walk_list fun _ e => e.seq h⟩
  · exact .inr ⟨_, hv, a, rfl, ⟨xs, h⟩, k _ _ walk_tup fun _ e => SqT.same e h⟩
theorem seq_it0 {K : PySem.W.Frag} {H0 H : Hp} {a : Addr} {xs : List V} {i : Nat} {σ : L2.St} {R : It → Hp → Prop} (hv : σ[i]? = some (some (.ref a))) (h : Sq K H0 a xs) (s : Same H0 H)
    (k : ∀ (J : It) (G : Hp → Prop), Walk J xs.length G (YAt xs) → (∀ H', Same H0 H' → G H') → R J H) : iList K (tVar i) σ H R ∨ iTup K (tVar i) σ H R := by
  rcases h with h | h
  · exact .inl ⟨_, hv, a, rfl, ⟨xs, s.seq h⟩, k _ _ walk_list fun _ e => e.seq h⟩
  · exact .inr ⟨_, hv, a, rfl, ⟨xs, SqT.same s h⟩, k _ _ walk_tup fun _ e => SqT.same e h⟩
section
variable {J : It} {n : Nat} {G : Hp → Prop} {Y : Nat → Hp → V → Hp → Prop}
theorem scK_it {P : Program} {w : World} (wk : Walk J n G Y) {g : TG} {tt : TT} {te : TE} {vs : List Nat} {σ : L2.St} {H1 : Hp} {D : Addr} {Qd : Hp → Prop} (Pv : Nat → Hp → Prop) (h0 : Pv 0 (upd H1 D (SetK P w D (fun _ => false) 0))) (hG : ∀ i H, i ≤ n → Pv i H → G H)
    (hs : ∀ i x H H', i < n → Pv i H → Y i H x H' → g x (wipe σ vs) H' fun σ2 H2 => wipe σ2 vs = wipe σ vs ∧ tt σ2 H2 fun b H3 =>
      if b = true then te σ2 H3 fun y H4 => ∃ (k : Key) (S : Key → Bool) (m : Nat), y = kV k ∧ H4 D = some (SetK P w D S m) ∧ m + 1 < scanBound ∧ Pv (i + 1) (upd H4 D (SetK P w D (fun j => S j || decide (j = k)) (if S k = true then m else m + 1))) else Pv (i + 1) H3) (hd : ∀ H, Pv n H → Qd H) :
    ∃ W : Nat → Nat → Hp → Prop, (∃ m, W 0 m (upd H1 D (SetK P w D (fun _ => false) 0))) ∧ ∀ i m H, W i m H →
      (J.stop i H ∧ Qd H) ∨ (J.go i H ∧ ∃ Nx : Hp → Prop, (∀ H', Nx H' → ∃ m', m' < m ∧ W (i + 1) m' H') ∧ ∀ x H', J.yld i H x H' → g x (wipe σ vs) H' fun σ2 H2 => wipe σ2 vs = wipe σ vs ∧ tt σ2 H2 fun b H3 =>
        if b = true then te σ2 H3 fun y H4 => ∃ (k : Key) (S : Key → Bool) (m : Nat), y = kV k ∧ H4 D = some (SetK P w D S m) ∧ m + 1 < scanBound ∧ Nx (upd H4 D (SetK P w D (fun j => S j || decide (j = k)) (if S k = true then m else m + 1))) else Nx H3) := by
  refine ⟨fun i m H => m = n - i ∧ i ≤ n ∧ Pv i H, ⟨n, by simp, Nat.zero_le _, h0⟩, ?_⟩
  rintro i m H ⟨rfl, hi, p⟩
  have q := hG i H hi p
  rcases Nat.lt_or_ge i n with hlt | hge
  · exact .inr ⟨wk.goes i H hlt q, Pv (i + 1), fun G' p' => ⟨n - (i + 1), by omega, rfl, hlt, p'⟩, fun x G' y => hs i x H G' hlt p (wk.yields i H x G' hlt q y)⟩
  · obtain rfl : i = n := by omega
    exact .inl ⟨wk.stops H q, hd H p⟩
theorem dc_it (wk : Walk J n G Y) {g : TG} {tt : TT} {tk tv : TE} {vs : List Nat} {σ : L2.St} {H1 : Hp} {D : Addr} {Qd : Hp → Prop} (Pv : Nat → Hp → Prop) (h0 : Pv 0 (upd H1 D (.dK []))) (hG : ∀ i H, i ≤ n → Pv i H → G H)
    (hs : ∀ i x H H', i < n → Pv i H → Y i H x H' → g x (wipe σ vs) H' fun σ2 H2 => wipe σ2 vs = wipe σ vs ∧ tt σ2 H2 fun b H3 =>
      if b = true then tk σ2 H3 fun y H4 => tv σ2 H4 fun z H5 => ∃ kvs k, y = kV k ∧ H5 D = some (.dK kvs) ∧ kvs.length < sizeLine ∧ Pv (i + 1) (upd H5 D (.dK (putK kvs k z))) else Pv (i + 1) H3) (hd : ∀ H, Pv n H → Qd H) :
    ∃ W : Nat → Nat → Hp → Prop, (∃ m, W 0 m (upd H1 D (.dK []))) ∧ ∀ i m H, W i m H →
      (J.stop i H ∧ Qd H) ∨ (J.go i H ∧ ∃ Nx : Hp → Prop, (∀ H', Nx H' → ∃ m', m' < m ∧ W (i + 1) m' H') ∧ ∀ x H', J.yld i H x H' → g x (wipe σ vs) H' fun σ2 H2 => wipe σ2 vs = wipe σ vs ∧ tt σ2 H2 fun b H3 =>
        if b = true then tk σ2 H3 fun y H4 => tv σ2 H4 fun z H5 => ∃ kvs k, y = kV k ∧ H5 D = some (.dK kvs) ∧ kvs.length < sizeLine ∧ Nx (upd H5 D (.dK (putK kvs k z))) else Nx H3) := by
  refine ⟨fun i m H => m = n - i ∧ i ≤ n ∧ Pv i H, ⟨n, by simp, Nat.zero_le _, h0⟩, ?_⟩
  rintro i m H ⟨rfl, hi, p⟩
  have q := hG i H hi p
  rcases Nat.lt_or_ge i n with hlt | hge
  · exact .inr ⟨wk.goes i H hlt q, Pv (i + 1), fun G' p' => ⟨n - (i + 1), by omega, rfl, hlt, p'⟩, fun x G' y => hs i x H G' hlt p (wk.yields i H x G' hlt q y)⟩
  · obtain rfl : i = n := by omega
    exact .inl ⟨wk.stops H q, hd H p⟩
end
/-- a list comprehension without tests, each turn adding to the heap alone: the i-th value is f i -/
theorem lc_same {J : It} {G : Hp → Prop} {xs : List V} (wk : Walk J xs.length G (YAt xs)) {H H1 : Hp} {te : TE} {vs : List Nat} {j : Nat} {σ : L2.St} {D : Addr} {Qd : Hp → Prop} (hG : ∀ H', Same H H' → G H') (hl : xs.length ≤ 100000) (s1 : Same H H1) (hD : H1 D = none) (f : Nat → V)
    (hw : ∀ x, wipe ((wipe σ vs).set j (some x)) vs = wipe σ vs)
    (step : ∀ i x H2 (C : VK), xs[i]? = some x → Same H H2 → (∀ H4, Same H2 H4 → C (f i) H4) → te ((wipe σ vs).set j (some x)) H2 C)
    (fin : ∀ H2, Same H1 H2 → H2 D = some (.lst ((List.range xs.length).map f)) → Qd H2) :
    ∃ W : Nat → Nat → Hp → Prop, (∃ m, W 0 m (upd H1 D (.lst []))) ∧ ∀ i m H, W i m H →
      (J.stop i H ∧ Qd H) ∨ (J.go i H ∧ ∃ Nx : Hp → Prop, (∀ H', Nx H' → ∃ m', m' < m ∧ W (i + 1) m' H') ∧ ∀ x H', J.yld i H x H' → gName j x (wipe σ vs) H' fun σ2 H2 => wipe σ2 vs = wipe σ vs ∧ tYes σ2 H2 fun b H3 =>
        if b = true then te σ2 H3 fun y H4 => ∃ acc, H4 D = some (.lst acc) ∧ acc.length < sizeLine ∧ Nx (upd H4 D (.lst (acc ++ [y]))) else Nx H3) := by
  refine lc_it wk (fun i G' => Same H1 G' ∧ G' D = some (.lst ((List.range i).map f))) ⟨Same.new (Same.refl _) hD, upd_same ..⟩ (fun i G' _ p => hG G' (s1.trans p.1)) ?_ (fun G' p => fin G' p.1 p.2)
  rintro i x H2 H3 hi ⟨p1, p2⟩ ⟨rfl, hx⟩
  refine ⟨hw x, ?_⟩
  unfold tYes
  dsimp only
  rw [if_pos rfl]
  refine step i x _ _ hx (s1.trans p1) fun H4 s4 => ⟨_, s4 _ _ p2, ?_, ?_, ?_⟩
  · rw [List.length_map, List.length_range]
    exact Nat.lt_of_lt_of_le hi (Nat.le_trans hl (by decide))
  · intro a o e
    rw [upd_ne (ne_of_none e hD)]
    exact s4 _ _ (p1 _ _ e)
  · rw [upd_same, List.range_succ, List.map_append]
    rfl
theorem pg_tupK {X : Cx} {K : PySem.W.Frag} {es : List Expr} {k : Nat} {t : TGs} {n : Nat} {pos : Pos} (hK : X.K = K) (hc : X.calm = true) (h : PGs X es t)
    (hn : (assignEach es X.env).length = n := by rfl) (hst : (assignEach es X.env).findIdx? (·.1) = none := by rfl) : PG X (.Tuple es k pos) (gTup K n t) := by subst hK; exact pg_tup hc h hn hst
/-- enumerate over a list or a tuple -/
theorem enum_it {K : PySem.W.Frag} {H : Hp} {a : Addr} {xs : List V} {i : Nat} {σ : L2.St} {R : It → Hp → Prop} (hv : σ[i]? = some (some (.ref a))) (h : Sq K H a xs)
    (k : ∀ (J : It) (G : Hp → Prop), Walk J xs.length G (YPair (fun i => some (.int (i : Nat))) (fun i => xs[i]?)) → (∀ H', Same H H' → G H') → R J H) : iEnum K (tCons (tVar i) tNil) σ H R ∨ iEnumT K (tCons (tVar i) tNil) σ H R := by
  rcases h with h | h
  · exact .inl ⟨_, hv, a, xs, rfl, h, k _ _ walk_enum fun _ e => e.seq h⟩
  · exact .inr ⟨_, hv, a, xs, rfl, h, k _ _ walk_enumT fun _ e => SqT.same e h⟩
end TS

/-! ### 13. draws: what a def of a bag gives back; comprehensions and loops that draw -/
namespace TS
open PySem PySem.Spec PyProof.Rows L2
theorem atI_in {α : Type} {xs : List α} {i : Int} (h0 : 0 ≤ i) (h1 : i < xs.length) : ∃ v, atI xs i = some v ∧ v ∈ xs := by
  have hj : i.toNat < xs.length := by omega
  refine ⟨xs[i.toNat], ?_, List.getElem_mem _⟩
  have e : ((i.toNat : Nat) : Int) = i := by omega
  have h := atI_nat (xs := xs) (List.getElem?_eq_getElem hj)
  rw [e] at h
  exact h
/-- the bag b drawn of (n draws left at least), all else as it was -/
structure Dr (b : Addr) (n : Nat) (H H' : Hp) : Prop where
  fx : Fx b H H'
  bag : ∃ o, H' b = some o ∧ Bag n o
theorem Dr.trans {b : Addr} {m n : Nat} {H H1 H2 : Hp} (x : Dr b m H H1) (y : Dr b n H1 H2) : Dr b n H H2 := ⟨x.fx.trans y.fx, y.bag⟩
theorem Dr.refl {b : Addr} {n : Nat} {H : Hp} (h : ∃ o, H b = some o ∧ Bag n o) : Dr b n H H := ⟨Fx.refl b H, h⟩
theorem Dr.mono {b : Addr} {m n : Nat} {H H' : Hp} (x : Dr b m H H') (h : n ≤ m) : Dr b n H H' := ⟨x.fx, let ⟨o, e, g⟩ := x.bag; ⟨o, e, g.mono h⟩⟩
theorem Dr.same {b : Addr} {n : Nat} {H H' : Hp} (e : Same H H') (h : ∃ o, H b = some o ∧ Bag n o) : Dr b n H H' := ⟨Fx.of e, let ⟨o, q, g⟩ := h; ⟨o, e _ _ q, g⟩⟩
theorem Dr.draw {b : Addr} {n : Nat} {H : Hp} {o : HO} (g : Bag n o) : Dr b n H (upd H b o) := ⟨(Fx.refl b H).upd, o, upd_same .., g⟩
theorem Dr.new {b p : Addr} {n : Nat} {H H' : Hp} {o : HO} (x : Dr b n H H') (h : H' p = none) : Dr b n H (upd H' p o) := x.trans (.same (Same.new (Same.refl _) h) x.bag)
theorem Dr.ne {b p : Addr} {n : Nat} {H H' : Hp} (x : Dr b n H H') (h : H' p = none) : p ≠ b := fun e => by
  obtain ⟨o, q, _⟩ := x.bag
  rw [e, q] at h
  cases h
theorem Dr.at {b a : Addr} {n : Nat} {H H' : Hp} {o : HO} (x : Dr b n H H') (h : a ≠ b) (e : H a = some o) : H' a = some o := x.fx a o h e
theorem Dr.hide {b : Addr} {n : Nat} {H H' : Hp} (x : Dr b n H H') : Same (hide H b) (hide H' b) := x.fx.hide
theorem Dr.free {b p : Addr} {n : Nat} {H H' : Hp} (x : Dr b n H H') (h : H' p = none) : H p = none := by
  cases e : H p with
  | none => rfl
  | some o =>
    have := x.fx p o (x.ne h) e
    rw [h] at this
    cases this
/-- a draw, by spTake -/
theorem take_of {b : Addr} {n : Nat} {H : Hp} {many : Int} {Q : VK} {E : XK} (h : ∃ o, H b = some o ∧ Bag (n + 1) o) (m0 : 0 < many) (m1 : many < 2 ^ 200) (q : ∀ (d : Int) (H' : Hp), 0 ≤ d → d < many → Dr b n H H' → Q (.int d) H') : spTake [.ref b, .int many] H Q E := by
  obtain ⟨o, e, g⟩ := h
  exact ⟨b, o, n, many, rfl, e, g, m0, m1, fun d o' h0 h1 g' => q d _ h0 h1 (.draw g')⟩
/-- the heap without the bag and the list that is being made -/
abbrev hide2 (H : Hp) (b D : Addr) : Hp := hide (hide H b) D
theorem hide2_at {H : Hp} {b D p : Addr} {o : HO} (h1 : p ≠ b) (h2 : p ≠ D) (e : H p = some o) : hide2 H b D p = some o := by show hide (hide H b) D p = some o; rw [hide_ne h2, hide_ne h1]; exact e
theorem hide2_fx {H H' : Hp} {b D : Addr} (h : ∀ a o, a ≠ b → a ≠ D → H a = some o → H' a = some o) : Same (hide2 H b D) (hide2 H' b D) := fun a o e => by
  show hide (hide H' b) D a = some o
  replace e : hide (hide H b) D a = some o := e
  have h2 : a ≠ D := fun z => by rw [z, hide_self] at e; cases e
  rw [hide_ne h2] at e ⊢
  have h1 : a ≠ b := fun z => by rw [z, hide_self] at e; cases e
  rw [hide_ne h1] at e ⊢
  exact h a o h1 h2 e
/-- a comprehension without tests, each turn drawing at most k times -/
theorem lc_draw {J : It} {m : Nat} {G : Hp → Prop} {f : Nat → V} (wk : Walk J m G (YFn f)) {b : Addr} {k N : Nat} {H1 : Hp} {te : TE} {vs : List Nat} {j : Nat} {σ : L2.St} {D : Addr} {Qd : Hp → Prop} (F : Nat → Hp → V → Prop)
    (hF : ∀ i H H' v, Same H H' → F i H v → F i H' v) (hG : ∀ H', Fx b H1 H' → G H') (hm : m ≤ 100000) (hD : H1 D = none) (hb : ∃ o, H1 b = some o ∧ Bag (N + k * m) o) (hw : ∀ x, wipe ((wipe σ vs).set j (some x)) vs = wipe σ vs)
    (step : ∀ (i n : Nat) (H2 : Hp) (C : VK), i < m → Fx b H1 H2 → (∃ o, H2 b = some o ∧ Bag (n + k) o) → (∃ o, H2 D = some o) → (∀ v H4, F i (hide2 H4 b D) v → Dr b n H2 H4 → C v H4) → te ((wipe σ vs).set j (some (f i))) H2 C)
    (fin : ∀ H2 (xs : List V), Dr b N H1 H2 → xs.length = m → (∀ (i : Nat) (v : V), xs[i]? = some v → F i (hide2 H2 b D) v) → H2 D = some (.lst xs) → D ≠ b → Qd H2) :
    ∃ W : Nat → Nat → Hp → Prop, (∃ m, W 0 m (upd H1 D (.lst []))) ∧ ∀ i m H, W i m H →
      (J.stop i H ∧ Qd H) ∨ (J.go i H ∧ ∃ Nx : Hp → Prop, (∀ H', Nx H' → ∃ m', m' < m ∧ W (i + 1) m' H') ∧ ∀ x H', J.yld i H x H' → gName j x (wipe σ vs) H' fun σ2 H2 => wipe σ2 vs = wipe σ vs ∧ tYes σ2 H2 fun b H3 =>
        if b = true then te σ2 H3 fun y H4 => ∃ acc, H4 D = some (.lst acc) ∧ acc.length < sizeLine ∧ Nx (upd H4 D (.lst (acc ++ [y]))) else Nx H3) := by
  have neD : D ≠ b := fun e => by
    obtain ⟨o, q, _⟩ := hb
    rw [e, q] at hD
    cases hD
  refine lc_it wk (fun i G' => Dr b (N + k * (m - i)) H1 G' ∧ ∃ xs : List V, xs.length = i ∧ (∀ (i : Nat) (v : V), xs[i]? = some v → F i (hide2 G' b D) v) ∧ G' D = some (.lst xs)) ⟨.same (Same.new (Same.refl _) hD) hb, [], rfl, fun i v e => by simp at e, upd_same ..⟩ (fun i G' _ p => hG G' p.1.fx) ?_ ?_
  · rintro i x H2 H3 hi ⟨dr, xs, hl, hx, eD⟩ ⟨rfl, rfl⟩
    refine ⟨hw _, yes (iteT ?_)⟩
    have ek : N + k * (m - (i + 1)) + k = N + k * (m - i) := by
      have : m - i = m - (i + 1) + 1 := by omega
      rw [this, Nat.mul_add, Nat.mul_one, Nat.add_assoc]
    refine step i (N + k * (m - (i + 1))) _ _ hi dr.fx (by rw [ek]; exact dr.bag) ⟨_, eD⟩ fun v H4 hv d4 => ⟨xs, d4.at neD eD, by rw [hl]; exact Nat.lt_of_lt_of_le hi (Nat.le_trans hm (by decide)), ⟨fun a o ha e => ?_, ?_⟩, xs ++ [v], by simp [hl], fun i2 v2 e2 => ?_, upd_same ..⟩
    · rw [upd_ne (ne_of_none e hD)]
      exact (dr.trans d4).fx a o ha e
    · obtain ⟨o, q, g⟩ := d4.bag
      exact ⟨o, by rw [upd_ne neD.symm]; exact q, g⟩
    · have s5 : Same (hide2 H4 b D) (hide2 (upd H4 D (.lst (xs ++ [v]))) b D) := hide2_fx fun a o _ h e => by rw [upd_ne h]; exact e
      rcases Nat.lt_or_ge i2 i with z | z
      · rw [List.getElem?_append_left (by omega)] at e2
        exact hF _ _ _ _ ((hide2_fx fun a o h _ e => d4.fx a o h e).trans s5) (hx i2 v2 e2)
      · rw [List.getElem?_append_right (by omega)] at e2
        have e3 : i2 = i := by
          rcases Nat.lt_or_ge i i2 with y | y
          · rw [List.getElem?_eq_none (by simp; omega)] at e2
            cases e2
          · omega
        rw [e3, hl, Nat.sub_self] at e2
        cases e2
        rw [e3]
        exact hF _ _ _ _ s5 hv
  · rintro G' ⟨dr, xs, hl, hx, eD⟩
    exact fin G' xs (by rw [Nat.sub_self] at dr; exact dr) hl hx eD neD
/-- a comprehension without tests that only adds to the heap, by any walk -/
theorem lc_sameF {J : It} {n : Nat} {G : Hp → Prop} {g : Nat → V} (wk : Walk J n G (YFn g)) {H : Hp} {te : TE} {vs : List Nat} {j : Nat} {σ : L2.St} {D : Addr} {Qd : Hp → Prop} (hG : ∀ H', Same H H' → G H') (hl : n ≤ 100000) (hD : H D = none) (f : Nat → V)
    (hw : ∀ x, wipe ((wipe σ vs).set j (some x)) vs = wipe σ vs)
    (step : ∀ i H2 (C : VK), i < n → Same H H2 → (∀ H4, Same H2 H4 → C (f i) H4) → te ((wipe σ vs).set j (some (g i))) H2 C)
    (fin : ∀ H2, Same H H2 → H2 D = some (.lst ((List.range n).map f)) → Qd H2) :
    ∃ W : Nat → Nat → Hp → Prop, (∃ m, W 0 m (upd H D (.lst []))) ∧ ∀ i m H, W i m H →
      (J.stop i H ∧ Qd H) ∨ (J.go i H ∧ ∃ Nx : Hp → Prop, (∀ H', Nx H' → ∃ m', m' < m ∧ W (i + 1) m' H') ∧ ∀ x H', J.yld i H x H' → gName j x (wipe σ vs) H' fun σ2 H2 => wipe σ2 vs = wipe σ vs ∧ tYes σ2 H2 fun b H3 =>
        if b = true then te σ2 H3 fun y H4 => ∃ acc, H4 D = some (.lst acc) ∧ acc.length < sizeLine ∧ Nx (upd H4 D (.lst (acc ++ [y]))) else Nx H3) := by
  refine lc_it wk (fun i G' => Same H G' ∧ G' D = some (.lst ((List.range i).map f))) ⟨Same.new (Same.refl _) hD, upd_same ..⟩ (fun i G' _ p => hG G' p.1) ?_ (fun G' p => fin G' p.1 p.2)
  rintro i x H2 H3 hi ⟨p1, p2⟩ ⟨rfl, rfl⟩
  refine ⟨hw _, yes (iteT (step i _ _ hi p1 fun H4 s4 => ⟨_, s4 _ _ p2, ?_, ?_, ?_⟩))⟩
  · rw [List.length_map, List.length_range]
    exact Nat.lt_of_lt_of_le hi (Nat.le_trans hl (by decide))
  · intro a o e
    rw [upd_ne (ne_of_none e hD)]
    exact s4 _ _ (p1 _ _ e)
  · rw [upd_same, List.range_succ, List.map_append]
    rfl
theorem walk_at {J : It} {n : Nat} {G : Hp → Prop} {xs : List V} (w : Walk J n G (YAt xs)) : Walk J n G (YFn fun i => xs.getD i .non) :=
  w.mono (fun _ h => h) fun i H x H' _ _ y => ⟨y.1, by show x = xs.getD i .non; rw [List.getD_eq_getElem?_getD, y.2]; rfl⟩
theorem same_of {H G : Hp} {p : Addr} {o : HO} (h : L2.upd H p o = G) (hp : H p = none) : Same H G := h ▸ Same.new (Same.refl _) hp
theorem at_of {H G : Hp} {p : Addr} {o : HO} (h : L2.upd H p o = G) : G p = some o := h ▸ upd_same ..
theorem dr_of {H G : Hp} {b : Addr} {n : Nat} {o : HO} (h : L2.upd H b o = G) (g : Bag n o) : Dr b n H G := h ▸ Dr.draw g
/-- list == [] -/
def rEqNil (K : PySem.W.Frag) : R2 := fun x y H Q => ∃ a p xs, x = .ref a ∧ y = .ref p ∧ SqL K H a xs ∧ SqL K H p [] ∧ Q (.bl xs.isEmpty) H
theorem op_eqNil {X : Cx} {K : PySem.W.Frag} (hu : X.A.units + 64 < cLine) (hK : X.K = K := by rfl) : OpR X (compareOp .Eq) (rEqNil K) := by
  subst hK
  intro pins s σ H x y v u Q J rx ry h
  obtain ⟨a, p, xs, rfl, rfl, ha, hp, q⟩ := h
  cases rx
  cases ry
  obtain ⟨its, rv, l1, _⟩ := J.list ha
  obtain ⟨its2, rv2, l2, _⟩ := J.list hp
  cases rv2
  have hl := rv.length
  cases xs with
  | nil =>
    cases rv
    exact SeqAt.eq_listAt (e := fun _ => true) l1.isList l2.isList rfl (by omega) (fun i h => by simp at h) ⟨.bl true, H, J.kept fun _ _ z => z, rfl, q⟩
  | cons x r =>
    exact SeqAt.eq_list_lengthsAt l1.isList l2.isList (by simp; intro z; rw [z] at hl; simp at hl) (by omega) ⟨.bl false, H, J.kept fun _ _ z => z, rfl, q⟩
end TS

/-! ### what the head tells of classes -/
namespace TS
open PySem PySem.Spec PyProof.Rows L2
/-- a method's datum -/
def methD (C m q : Str) (st : Stmt) : He.DefD := ⟨(C, some m), m, q, defArgs st, defBody st, defScope st, [], []⟩
theorem meth_of {K : PySem.W.Frag} {fn : List He.DefD} (c1 : fn.all (fun d => d.ok K) = true) (c2 : fn.map (fun d => He.fnW K d.at_) = fn.map He.DefD.val)
    {C m q : Str} {st : Stmt} (i : Nat) (hi : fn[i]? = some (methD C m q st)) : DefM K (He.ma K (He.ga K C) m) m q st := by
  have e1 : He.fnW K (methD C m q st).at_ = (methD C m q st).val := by
    have h1 := congrArg (·[i]?) c2
    simp only [List.getElem?_map, hi, Option.map_some] at h1
    exact Option.some.inj h1
  obtain ⟨fd, F⟩ := He.DefD.funD e1 (List.all_eq_true.mp c1 _ (List.mem_of_getElem? hi))
  exact ⟨fd, F⟩
def famB (K : PySem.W.Frag) (x : Str) : Bool := (PySem.W.readsIn K (He.ga K x) (.type "type") && He.eqO (PySem.W.specialIn K (.ref (He.ga K x)) "__getattribute__") (some (some (.builtin "type.__getattribute__")))) &&
  (match PySem.W.findCls K (.ref (He.ga K x)) (.type "type") "__init__" with
    | some (.val (.builtin s)) => decide (s = "ValueError.__init__")
    | _ => false)
theorem famB_ok {K : PySem.W.Frag} {x : Str} (h : famB K x = true) : FamV K (He.ga K x) := by
  obtain ⟨h1, h2⟩ := He.ba h
  obtain ⟨h3, h4⟩ := He.ba h1
  refine ⟨⟨h3, He.eqO_ok h4⟩, ?_⟩
  split at h2
  · rename_i s e
    rw [e, of_decide_eq_true h2]
  · cases h2
def oexB (K : PySem.W.Frag) (C : Addr) : Bool := match K.lookup C with
  | some ⟨c, dd, .cls cd, sl⟩ => (match cd.mro, sl.toList with
    | .ref C' :: bm, [k0, k1, k2, k3, some (.builtin n), k5] => decide (c = .type "type") && (decide (C' = C) && (decide (n = "ValueError.__new__") && (cd.hasDict && (!cd.hasDel && PySem.HandSPX.refsVE bm))))
    | _, _ => false)
  | _ => false
theorem oexB_ok {K : PySem.W.Frag} {C : Addr} (h : oexB K C = true) : ∃ nm q N bs bm sn sub ab col dd k0 k1 k2 k3 k5, K.lookup C = some (excClassObj nm q C N bs bm true sn sub ab col dd k0 k1 k2 k3 k5 "ValueError.__new__") ∧ PySem.HandSPX.refsVE bm = true := by
  unfold oexB at h
  split at h
  · rename_i c dd cd sl ho
    split at h
    · rename_i C' bm k0 k1 k2 k3 n k5 hm hs
      obtain ⟨a1, h⟩ := He.ba h
      obtain ⟨a2, h⟩ := He.ba h
      obtain ⟨a3, h⟩ := He.ba h
      obtain ⟨a4, h⟩ := He.ba h
      obtain ⟨a5, a6⟩ := He.ba h
      have a1 := of_decide_eq_true a1
      have a2 := of_decide_eq_true a2
      have a3 := of_decide_eq_true a3
      obtain ⟨nm, bs, mro, ns, qn, hd, sn, sb, ab, col, del⟩ := cd
      dsimp only at hm a4 a5
      have a5 : del = false := by simpa using a5
      subst a1 a2 a3 hm a4 a5
      have hsl : sl = #[k0, k1, k2, k3, some (.builtin "ValueError.__new__"), k5] := by
        obtain ⟨l⟩ := sl
        simp only at hs
        rw [hs]
      subst hsl
      exact ⟨nm, qn, ns, bs, bm, sn, sb, ab, col, dd, k0, k1, k2, k3, k5, ho, a6⟩
    · cases h
  · cases h
def ownB (K : PySem.W.Frag) (x f : Str) : Bool := (oexB K (He.ga K x) && (He.eqO (PySem.W.findIn K (.ref (He.ga K x)) "__setattr__") (some (some (.builtin "object.__setattr__"))) && (decide (PySem.W.subIn K (.ref (He.ga K x)) (.type "BaseException") = some true) &&
  (decide (PySem.W.typeIn K (.ref (He.ga K x)) = some (.type "type")) && PySem.W.keepIn K (.ref (He.ga K x)))))) && ((xfB K (He.ga K x) && He.eqO (PySem.W.findIn K (.ref (He.ga K x)) "__init__") (some (some (.ref (He.ma K (He.ga K x) "__init__"))))) &&
  (decide (PySem.W.typeIn K (.ref (He.ma K (He.ga K x) "__init__")) = some (.type "function")) && He.eqO (PySem.W.findIn K (.ref (He.ga K x)) f) (some none)))
theorem ownB_ok {K : PySem.W.Frag} {x f : Str} (h : ownB K x f = true) : OwnV K (He.ga K x) f := by
  obtain ⟨h1, h⟩ := He.ba h
  obtain ⟨a1, h1⟩ := He.ba h1
  obtain ⟨a2, h1⟩ := He.ba h1
  obtain ⟨a3, h1⟩ := He.ba h1
  obtain ⟨a4, a5⟩ := He.ba h1
  obtain ⟨h2, h⟩ := He.ba h
  obtain ⟨b1, b2⟩ := He.ba h2
  obtain ⟨b3, b4⟩ := He.ba h
  exact ⟨⟨oexB_ok a1, He.eqO_ok a2, of_decide_eq_true a3, of_decide_eq_true a4, a5⟩, xfB_ok b1, He.eqO_ok b2, of_decide_eq_true b3, He.eqO_ok b4⟩
end TS

/-! ### 14. keyword-only parameters with defaults, no other defaults -/
namespace TS
open PySem PySem.Spec PyProof.Rows L2
def DefK (K : PySem.W.Frag) (mg : Str → Option Value) (x : Str) (st : Stmt) (kws : List (Str × V)) : Prop := ∃ f fd, FunD K x x (defArgs st) (defBody st) (defScope st) [] kws f fd ∧ mg x = some (.ref f)
/-- a call with n positional values and the keywords ks keeps sp, the lacking ones being ms -/
def PromK (P : Program) (w : World) (K : PySem.W.Frag) (mg : Str → Option Value) (base : Heap) (k : Nat) (x : Str) (ps : List Str) (sp : Sp) (n : Nat) (ks : List Str) (gV : List V → List V → List V) : Prop :=
  ∃ f fd g, FnOk P w K mg base CX0 k f fd ps sp ∧ mg x = some (.ref f) ∧ PySem.W.keepIn K (.ref f) = true ∧ KBn K fd ps n ks g gV
theorem kbinds0 {K : PySem.W.Frag} {x qual : Str} {params : Arguments} {body : List Stmt} {scope : Scope} {kws : List (Str × V)} {f : Addr} {fd : FuncData} {ps : List Str} (F : FunD K x qual params body scope [] kws f fd) (n : Nat) (ks : List Str) (ms : List (Str × V))
    (g : {α : Type} → List α → List α → List α → List α) (hk : kws ≠ []) (hms : ∀ q ∈ ms, q ∈ kws) (hrel : ∀ {vs mz zs : List V} {us mv ws : List Value}, Vals vs us → Vals mz mv → Vals zs ws → Vals (g vs mz zs) (g us mv ws))
    (h : ∀ (D : Addr) (doc pm : Value) (an : Option Addr) (cdv ct : Value) (us mv ws : List Value), us.length = n → mv.length = ms.length → ws.length = ks.length →
      KwChain D ((ms.map (·.1)).zip mv) (bindArgs (PySem.W.fnOf x qual params body scope .none (.ref D) doc pm an cdv ct) ⟨us, ks.zip ws⟩) (ps.zip (g us mv ws))) :
    ∃ mv : List Value, KBn K fd ps n ks (fun us ws => g us mv ws) (fun vs zs => g vs (ms.map (·.2)) zs) := by
  obtain ⟨oc, od, dV, kV, doc, pm, an, cdv, ct, osl, rfl, lk, hcd, dd, kk⟩ := F.ex
  rcases dd with ⟨_, rfl⟩ | ⟨e, _⟩
  · rcases kk with e | ⟨D, rfl, hq⟩
    · exact absurd e hk
    · obtain ⟨mv, l, r, a⟩ := kwd_vals (ms := ms) fun q m => hq q (hms q m)
      exact ⟨mv, ⟨fun s us ws X l1 l2 => BindsTo.of_looks fun M => KwChain.looks X a (h D doc pm an cdv ct us mv ws l1 l l2), fun r1 r2 => hrel r1 r r2⟩⟩
  · exact absurd rfl e
section
variable {X : Cx} {k n : Nat} {ps ks : List Str} {sp : Sp} {x : Str} {p pos : Pos} {e : Expr} {es : List Expr} {kws : List Keyword} {t tk : TA} {gV : List V → List V → List V}
theorem pe_pcK (pr : PromK X.prog X.w X.K X.mg X.base k x ps sp n ks gV) (hr : Room k X.A) (hg : Gl X x) (ha : PA X (e :: es) t) (hkw : PK X kws tk) (hall : (backToKw pos (keywordEach kws X.env)).all (·.1.isSome) = true := by rfl)
    (hks : (backToKw pos (keywordEach kws X.env)).filterMap (·.1) = ks := by rfl) (hdb : (x == ("__debug__" : Str)) = false := by decide) (he : starEach (e :: es) X.env = (false, eval e X.env) :: starEach es X.env := by rfl)
    (hpl : ((backTo pos (starEach (e :: es) X.env)).any (·.1) || (backToKw pos (keywordEach kws X.env)).any (·.1.isNone)) = false := by rfl) :
    PE X (.Call (.Name x p) (e :: es) kws pos) (tCallN n ks.length sp gV E0 t tk) := by
  obtain ⟨f, fd, g, F, m, kp, b⟩ := pr
  exact pe_callN F hr hg m kp b pass0 ha hkw hall hks hdb he hpl
end
section
variable {P : Program} {w : World} {K : PySem.W.Frag} {mg : Str → Option Value} {base : Heap} {N ps ks : List Str} {k n : Nat} {sp : Sp} {x : Str} {st : Stmt} {kws ms : List (Str × V)}
theorem promK_mk (D : DefK K mg x st kws) (S : FnScope N ps (defScope st)) (len : ∀ vs H Q E, sp vs H Q E → vs.length = ps.length) (ms : List (Str × V)) (g : {α : Type} → List α → List α → List α → List α) (hk : kws ≠ []) (hms : ∀ q ∈ ms, q ∈ kws)
    (hrel : ∀ {vs mz zs : List V} {us mv ws : List Value}, Vals vs us → Vals mz mv → Vals zs ws → Vals (g vs mz zs) (g us mv ws))
    (h : ∀ (D : Addr) (doc pm : Value) (an : Option Addr) (cdv ct : Value) (us mv ws : List Value), us.length = n → mv.length = ms.length → ws.length = ks.length →
      KwChain D ((ms.map (·.1)).zip mv) (bindArgs (PySem.W.fnOf x x (defArgs st) (defBody st) (defScope st) .none (.ref D) doc pm an cdv ct) ⟨us, ks.zip ws⟩) (ps.zip (g us mv ws)))
    (body : ∀ (f : Addr) (cdv : Value) (A : Around) (outer : List Env) (s : Shared) (H : Hp) (vs : List V) (Q : VK) (E : XK), Room k (A.deeper (envOfC x (defScope st) s.heap.objs.size f cdv)) → sp vs H Q E →
      ∃ t, PSs (cxOf CX0 P w K mg base N x (defScope st) f cdv A outer s H E).nox (defBody st) t ∧ t { nx := fun _ H' => Q .non H', rt := Q } (start N vs) H) : PromK P w K mg base (k + 1) x ps sp n ks (fun vs zs => g vs (ms.map (·.2)) zs) := by
  obtain ⟨f, fd, F, m⟩ := D
  obtain ⟨mv, b⟩ := kbinds0 F n ks ms g hk hms hrel h
  refine ⟨f, fd, _, F.ok S len fun cdv A outer s H vs Q E hr h => ?_, m, F.kp, b⟩
  obtain ⟨t, h1, h2⟩ := body f cdv A outer s H vs Q E hr h
  exact ⟨t, h1.nox, h2⟩
end
/-- its datum -/
def defKD (x : Str) (st : Stmt) (kwd : List (Str × He.Dv)) : He.DefD := ⟨(x, none), x, x, defArgs st, defBody st, defScope st, [], kwd⟩
theorem defK_of {K : PySem.W.Frag} {h : Heap} {mg : Str → Option Value} {fn : List He.DefD} (X : K.In h) (G : h.Ns mainGlobals mg) (c1 : fn.all (fun d => d.ok K) = true) (c2 : fn.map (fun d => He.fnW K d.at_) = fn.map He.DefD.val)
    {x : Str} {st : Stmt} {kwd : List (Str × He.Dv)} (i : Nat) (hi : fn[i]? = some (defKD x st kwd)) (hg : (He.Fa.glo x).ok K = true) : DefK K mg x st (kwd.map fun q => (q.1, q.2.v K)) := by
  have e1 : He.fnW K (defKD x st kwd).at_ = (defKD x st kwd).val := by
    have h1 := congrArg (·[i]?) c2
    simp only [List.getElem?_map, hi, Option.map_some] at h1
    exact Option.some.inj h1
  obtain ⟨fd, F⟩ := He.DefD.funD e1 (List.all_eq_true.mp c1 _ (List.mem_of_getElem? hi))
  exact ⟨He.ga K x, fd, F, He.glo_ok X G hg⟩
end TS

/-! ### 15. C(e, .., k = v, ..) of an own class whose __init__ may raise -/
namespace TS
open PySem PySem.Spec PyProof.Rows L2
/-- a method with keyword-only parameters, called with n positional values (self among them) and the keywords ks -/
def PromAK (P : Program) (w : World) (K : PySem.W.Frag) (mg : Str → Option Value) (base : Heap) (k : Nat) (f : Addr) (ps : List Str) (sp : Sp) (n : Nat) (ks : List Str) (gV : List V → List V → List V) : Prop :=
  ∃ fd g, FnOk P w K mg base (L2.CX P w) k f fd ps sp ∧ KBn K fd ps n ks g gV
def tMakeSK (C : Addr) (n m : Nat) (sp : Sp) (gV : List V → List V → List V) (W : WX) (t tk : TA) : TE := fun σ H Q => t σ H fun vs H1 => tk σ H1 fun zs H2 => vs.length = n ∧ zs.length = m ∧ ∀ x dx, H2 x = none → H2 dx = none → dx ≠ x →
  sp (gV (.ref x :: vs) zs) (upd (upd H2 dx (.own x)) x (.ins C dx [])) (fun v H3 => v = .non ∧ Q (.ref x) H3) (WE W σ)
section
variable {X : Cx} {k n : Nat} {f C : Addr} {ps ks : List Str} {sp : Sp} {W : WX} {x : Str} {p pos : Pos} {e : Expr} {es : List Expr} {kws : List Keyword} {t tk : TA} {gV : List V → List V → List V}
theorem make_runSK {fd : FuncData} {g : List Value → List Value → List Value} {pins : List (Addr × Obj)} {σ : L2.St} {H : Hp} {s : Shared} {Q : VK} {us ws : List Value} {vs zs : List V} (M : Mk X.K C f) (F : FnOk X.prog X.w X.K X.mg X.base (L2.CX X.prog X.w) k f fd ps sp)
    (hr : Room (k + 1) X.A) (hb : KBn X.K fd ps (n + 1) ks g gV) (tkn : Takes X W) (J : Inv X pins σ H s) (r : Vals vs us) (rz : Vals zs ws) (l1 : vs.length = n) (l2 : zs.length = ks.length)
    (h : ∀ x dx, H x = none → H dx = none → dx ≠ x → sp (gV (.ref x :: vs) zs) (upd (upd H dx (.own x)) x (.ins C dx [])) (fun v H2 => v = .non ∧ Q (.ref x) H2) (WE W σ)) :
    wpAny (model X.prog X.w) X.A (call (.ref C) us (ks.zip ws)) (EP X pins σ Q) X.xe s := by
  have q := h (s.heap.objs.size + 1) s.heap.objs.size (J.hok.fresh (Nat.le_succ _)) (J.hok.fresh (Nat.le_refl _)) (Nat.ne_of_lt (Nat.lt_succ_self _))
  have J2 := Inv.made (C := C) J
  have r1 : Vals (V.ref (s.heap.objs.size + 1) :: vs) (Value.ref (s.heap.objs.size + 1) :: us) := .cons rfl r
  have n1 : (Value.ref (s.heap.objs.size + 1) :: us).length = n + 1 := by rw [List.length_cons, ← r.length, l1]
  refine wpAny_call (make_map (f := f) J.kIn M.makes M.init (beq_iff_eq.mp M.fn) (codeAny_mono (F.run _ X.stack _ _ ⟨Value.ref (s.heap.objs.size + 1) :: us, ks.zip ws⟩ (g (Value.ref (s.heap.objs.size + 1) :: us) ws) _ _ (WE W σ) (hr.make C us (ks.zip ws))
    (J2.env0.make C us (ks.zip ws)) (hb.to _ (Value.ref (s.heap.objs.size + 1) :: us) ws J2.kIn n1 (rz.length.symm.trans l2)) (hb.rel r1 rz) q) fun o t z => ?_))
  match o, z with
  | .error e, z => exact passAt tkn σ pins _ _ e t J2 z
  | .ok (.ret u), z =>
    obtain ⟨v, G, J3, rv, ev, q3⟩ := J2.after z
    subst ev
    exact ⟨rv, ⟨V.ref (s.heap.objs.size + 1), G, J3, rfl, q3⟩⟩
theorem pe_makeSK (M : Mk X.K C f) (pr : PromAK X.prog X.w X.K X.mg X.base k f ps sp (n + 1) ks gV) (tkn : Takes X W) (hr : Room (k + 1) X.A) (hg : Gl X x) (hm : X.mg x = some (.ref C)) (ha : PA X (e :: es) t) (hkw : PK X kws tk)
    (hall : (backToKw pos (keywordEach kws X.env)).all (·.1.isSome) = true := by rfl) (hks : (backToKw pos (keywordEach kws X.env)).filterMap (·.1) = ks := by rfl) (hdb : (x == ("__debug__" : Str)) = false := by decide)
    (he : starEach (e :: es) X.env = (false, eval e X.env) :: starEach es X.env := by rfl) (hpl : ((backTo pos (starEach (e :: es) X.env)).any (·.1) || (backToKw pos (keywordEach kws X.env)).any (·.1.isNone)) = false := by rfl) :
    PE X (.Call (.Name x p) (e :: es) kws pos) (tMakeSK C n ks.length sp gV W t tk) := by
  obtain ⟨fd, g, F, b⟩ := pr
  refine ⟨fun pins s σ H Q J h => wpAny_Call_Name_kw (ld_glob J hg hm ?_ hdb)⟩
  refine PySem.W.callWith_KW (h₀ := X.base) J.ok.mod.kin M.kp hall (thn (ha.run pos pins s σ H _ J h) fun us s1 ⟨vs, H1, J1, r, q⟩ => ?_) hpl he
  refine thn (hkw.run pos pins s1 σ H1 _ J1 q) fun ws s2 ⟨zs, H2, J2, rz, l1, l2, q2⟩ => ⟨J2.kIn, ?_⟩
  rw [hks]
  exact make_runSK M F hr b tkn J2 r rz l1 l2 q2
end
theorem units1 {k : Nat} {A : Around} (r : Room k A) : A.units + 1 < cLine := by
  have := r.units
  omega
/-! methods by their promises -/
section
variable {X : Cx} {k : Nat} {f C : Addr} {ps : List Str} {sp : Sp} {m : Str} {pos apos : Pos} {e o : Expr} {es : List Expr} {ta : TE} {t : TA}
theorem pe_pm {pl : Sem Bool} (c : Cls X.K C) (hm : Meth X.K C m f) (pr : PromA CX0 X.prog X.w X.K X.mg X.base k f ps sp) (hr : Room k X.A) (he : PE X o ta) (ha : PA X (e :: es) t)
    (hst : starEach (e :: es) X.env = (false, eval e X.env) :: starEach es X.env := by rfl) (hpl : (backTo pos (starEach es X.env)).any (·.1) = false := by rfl)
    (ht : eval (.Call (.Attribute o m apos) (e :: es) [] pos) X.env = (do
      let ov ← eval o X.env
      standAt apos.atName
      let (f, first) ← holding [ov] (getMethod ov m pl)
      callWith pos f first (backTo pos (starEach (e :: es) X.env)) (backToKw pos (keywordEach [] X.env))) := by rfl) : PE X (.Call (.Attribute o m apos) (e :: es) [] pos) (tMeth C m sp [] E0 ta t) := by
  obtain ⟨fd, F, b⟩ := pr
  exact pe_meth he c hm F hr b .nil pass0 ha hst hpl ht
theorem pe_pm0 {pl : Sem Bool} (c : Cls X.K C) (hm : Meth X.K C m f) (pr : PromA CX0 X.prog X.w X.K X.mg X.base k f ps sp) (hr : Room k X.A) (he : PE X o ta)
    (ht : eval (.Call (.Attribute o m apos) [] [] pos) X.env = (do
      let ov ← eval o X.env
      standAt apos.atName
      let (f, first) ← holding [ov] (getMethod ov m pl)
      callWith pos f first (backTo pos (starEach [] X.env)) (backToKw pos (keywordEach [] X.env))) := by rfl) : PE X (.Call (.Attribute o m apos) [] [] pos) (tMeth C m sp [] E0 ta tNil) := by
  obtain ⟨fd, F, b⟩ := pr
  exact pe_meth0 he c hm F hr b .nil pass0 ht
end
end TS

/-! ### 16. isinstance by an own class -/
namespace TS
open PySem PySem.Spec PyProof.Rows L2
structure IsC (K : PySem.W.Frag) (C : Addr) : Prop where
  cl : Cls K C
  ha : PySem.W.findIn K (.ref C) "__class__" = some (some (.builtin "object.__class__"))
  hn : PySem.W.specialIn K (.builtin "object.__class__") "__get__" = some (some (.builtin "getset_descriptor.__get__"))
  ht : PySem.W.takesIn K (.builtin "object.__class__") = some true
  hm : PySem.W.mroIn K C (.type "object") = some true
  yes : PySem.W.kitOne K (.ref C) (.ref C) = some true
  no : ∀ n ∈ kinds, PySem.W.kitOne K (.type n) (.ref C) = some false
def isCB (K : PySem.W.Frag) (C : Addr) : Bool := (He.eqO (PySem.W.findIn K (.ref C) "__class__") (some (some (.builtin "object.__class__"))) && (He.eqO (PySem.W.specialIn K (.builtin "object.__class__") "__get__") (some (some (.builtin "getset_descriptor.__get__"))) &&
  (decide (PySem.W.takesIn K (.builtin "object.__class__") = some true) && decide (PySem.W.mroIn K C (.type "object") = some true)))) && (decide (PySem.W.kitOne K (.ref C) (.ref C) = some true) && kinds.all fun n => decide (PySem.W.kitOne K (.type n) (.ref C) = some false))
theorem isCB_ok {K : PySem.W.Frag} {C : Addr} (c : Cls K C) (h : isCB K C = true) : IsC K C := by
  obtain ⟨h1, h2⟩ := He.ba h
  obtain ⟨a1, h1⟩ := He.ba h1
  obtain ⟨a2, h1⟩ := He.ba h1
  obtain ⟨a3, a4⟩ := He.ba h1
  obtain ⟨b1, b2⟩ := He.ba h2
  exact ⟨c, He.eqO_ok a1, He.eqO_ok a2, of_decide_eq_true a3, of_decide_eq_true a4, of_decide_eq_true b1, fun n m => of_decide_eq_true (List.all_eq_true.mp b2 n m)⟩
theorem IsC.ty {K : PySem.W.Frag} {C : Addr} (T : IsC K C) {H : Hp} {a dx : Addr} {fs : List (Str × V)} (e : H a = some (.ins C dx fs)) : TyX K H (.ref a) (.ref C) := .base (.ins e T.cl T.ha T.hn T.ht T.hm)
theorem IsC.data {K : PySem.W.Frag} {C : Addr} (T : IsC K C) (d : PyData) : PySem.W.kitOne K (.type (tyN d)) (.ref C) = some false := T.no _ (tyN_mem d)
end TS

/-! ### 17. terms as trees: signs in reading order, where parts end -/
namespace TS
open PySem
mutual
inductive Tm where
  | mk (s : Str) (ts : Fs)
inductive Fs where
  | nil
  | cons (t : Tm) (r : Fs)
end
def Fs.len : Fs → Nat
  | .nil => 0
  | .cons _ r => r.len + 1
mutual
def Tm.size : Tm → Nat
  | .mk _ ts => ts.size + 1
def Fs.size : Fs → Nat
  | .nil => 0
  | .cons t r => t.size + r.size
end
mutual
def Tm.flat : Tm → List Str
  | .mk s ts => s :: ts.flat
def Fs.flat : Fs → List Str
  | .nil => []
  | .cons t r => t.flat ++ r.flat
end
/-! each sign with its places -/
mutual
def Tm.wf (pl : Str → Option Nat) : Tm → Prop
  | .mk s ts => pl s = some ts.len ∧ ts.wf pl
def Fs.wf (pl : Str → Option Nat) : Fs → Prop
  | .nil => True
  | .cons t r => t.wf pl ∧ r.wf pl
end
/-! where each part ends, from the place o on -/
mutual
def Tm.ends (o : Nat) : Tm → List Nat
  | .mk s ts => (o + ts.size + 1) :: ts.ends (o + 1)
def Fs.ends (o : Nat) : Fs → List Nat
  | .nil => []
  | .cons t r => t.ends o ++ r.ends (o + t.size)
end
mutual
theorem Tm.flat_len : ∀ t : Tm, t.flat.length = t.size
  | .mk s ts => by
    unfold Tm.flat Tm.size
    rw [List.length_cons, Fs.flat_len ts]
theorem Fs.flat_len : ∀ r : Fs, r.flat.length = r.size
  | .nil => rfl
  | .cons t r => by
    unfold Fs.flat Fs.size
    rw [List.length_append, Tm.flat_len t, Fs.flat_len r]
end
mutual
theorem Tm.ends_len : ∀ (t : Tm) (o : Nat), (t.ends o).length = t.size
  | .mk s ts, o => by
    unfold Tm.ends Tm.size
    rw [List.length_cons, Fs.ends_len ts]
theorem Fs.ends_len : ∀ (r : Fs) (o : Nat), (r.ends o).length = r.size
  | .nil, _ => rfl
  | .cons t r, o => by
    unfold Fs.ends Fs.size
    rw [List.length_append, Tm.ends_len t, Fs.ends_len r]
end
theorem Tm.size_pos (t : Tm) : 0 < t.size := by
  cases t with
  | mk s ts => unfold Tm.size; omega
/-! how a list of signs is read: k parts lack -/
/-- what is lacking behind the signs; none: a sign that is none, or a sign behind the end -/
def lacks (pl : Str → Option Nat) : Nat → List Str → Option Nat
  | k, [] => some k
  | 0, _ :: _ => none
  | k + 1, z :: r => (pl z).bind fun p => lacks pl (k + p) r
def Fs.app : Fs → Fs → Fs
  | .nil, b => b
  | .cons t r, b => .cons t (r.app b)
theorem Fs.split : ∀ (r : Fs) (p k : Nat), r.len = k + p → ∃ a b : Fs, r = a.app b ∧ a.len = p ∧ b.len = k
  | r, 0, k, h => ⟨.nil, r, rfl, rfl, by simpa using h⟩
  | .nil, p + 1, k, h => by simp [Fs.len] at h
  | .cons t r, p + 1, k, h => by
    obtain ⟨a, b, e, ha, hb⟩ := Fs.split r p k (by simp only [Fs.len] at h; omega)
    exact ⟨.cons t a, b, by rw [e]; rfl, by simp only [Fs.len]; omega, hb⟩
theorem Fs.flat_app : ∀ a b : Fs, (a.app b).flat = a.flat ++ b.flat
  | .nil, b => rfl
  | .cons t r, b => by
    show t.flat ++ (r.app b).flat = (t.flat ++ r.flat) ++ b.flat
    rw [Fs.flat_app r b, List.append_assoc]
theorem Fs.wf_app {pl : Str → Option Nat} : ∀ {a b : Fs}, (a.app b).wf pl → a.wf pl ∧ b.wf pl
  | .nil, b, h => ⟨by simp [Fs.wf], h⟩
  | .cons t r, b, h => by
    have h' : t.wf pl ∧ (r.app b).wf pl := h
    obtain ⟨h1, h2⟩ := Fs.wf_app h'.2
    exact ⟨⟨h'.1, h1⟩, h2⟩
/-- signs that are read to their end are k trees -/
theorem parse {pl : Str → Option Nat} : ∀ (zs : List Str) (k : Nat), lacks pl k zs = some 0 → ∃ r : Fs, r.flat = zs ∧ r.wf pl ∧ r.len = k
  | [], k, h => by
    have e : k = 0 := by simpa [lacks] using h
    subst e
    exact ⟨.nil, rfl, by simp [Fs.wf], rfl⟩
  | z :: r, 0, h => by simp [lacks] at h
  | z :: r, k + 1, h => by
    cases hp : pl z with
    | none => simp [lacks, hp] at h
    | some p =>
      have h' : lacks pl (k + p) r = some 0 := by simpa [lacks, hp] using h
      obtain ⟨f, hf, hw, hl⟩ := parse r (k + p) h'
      obtain ⟨a, b, rfl, ha, hb⟩ := f.split p k hl
      obtain ⟨w1, w2⟩ := Fs.wf_app hw
      refine ⟨.cons (.mk z a) b, ?_, ⟨⟨by rw [ha]; exact hp, w1⟩, w2⟩, by simp only [Fs.len]; omega⟩
      show (z :: a.flat) ++ b.flat = z :: r
      rw [← hf, Fs.flat_app]
      rfl
/-! jumps from part to part -/
def jump (E : List Nat) : Nat → Nat → Option Nat
  | 0, s => some s
  | n + 1, s => (E[s]?).bind (jump E n)
theorem Tm.ends_head (t : Tm) (o : Nat) : (t.ends o)[0]? = some (o + t.size) := by
  cases t with
  | mk s ts =>
    unfold Tm.ends Tm.size
    rw [List.getElem?_cons_zero, Nat.add_assoc]
theorem Fs.jumps : ∀ (r : Fs) (o : Nat) (E : List Nat), (∀ i, i < r.size → E[o + i]? = (r.ends o)[i]?) → jump E r.len o = some (o + r.size)
  | .nil, o, E, _ => by simp [Fs.len, Fs.size, jump]
  | .cons t r, o, E, h => by
    have tp := t.size_pos
    have h0 : E[o]? = some (o + t.size) := by
      have := h 0 (by unfold Fs.size; omega)
      rw [Nat.add_zero] at this
      rw [this]
      show (t.ends o ++ r.ends (o + t.size))[0]? = _
      rw [List.getElem?_append_left (by rw [Tm.ends_len]; exact tp), Tm.ends_head]
    show (E[o]?).bind (jump E r.len) = _
    rw [h0]
    show jump E r.len (o + t.size) = _
    rw [Fs.jumps r (o + t.size) E fun i hi => ?_]
    · show _ = some (o + (t.size + r.size))
      rw [Nat.add_assoc]
    · have := h (t.size + i) (by unfold Fs.size; omega)
      rw [← Nat.add_assoc] at this
      rw [this]
      show (t.ends o ++ r.ends (o + t.size))[t.size + i]? = _
      rw [List.getElem?_append_right (by rw [Tm.ends_len]; omega), Tm.ends_len, Nat.add_sub_cancel_left]
/-- what stands at a place: its sign, its parts behind it, where it ends -/
structure NodeAt (pl : Str → Option Nat) (flat : List Str) (ends : List Nat) (o i : Nat) (s : Str) (ts : Fs) : Prop where
  sign : flat[i]? = some s
  wf : ts.wf pl
  many : pl s = some ts.len
  stop : ends[i]? = some (o + i + 1 + ts.size)
  in_ : i + ts.size < flat.length
  kids : ∀ j, j < ts.size → ends[i + 1 + j]? = (ts.ends (o + i + 1))[j]?
mutual
theorem Tm.node {pl : Str → Option Nat} : ∀ (t : Tm) (o i : Nat), t.wf pl → i < t.size → ∃ s ts, NodeAt pl t.flat (t.ends o) o i s ts
  | .mk s ts, o, 0, hw, _ => by
    have hw' : pl s = some ts.len ∧ ts.wf pl := hw
    refine ⟨s, ts, rfl, hw'.2, hw'.1, ?_, ?_, fun j hj => ?_⟩
    · show some (o + ts.size + 1) = _
      congr 1
      omega
    · rw [Tm.flat_len]
      show 0 + ts.size < ts.size + 1
      omega
    · show ((o + ts.size + 1) :: ts.ends (o + 1))[0 + 1 + j]? = _
      rw [show 0 + 1 + j = j + 1 by omega, List.getElem?_cons_succ]
  | .mk s ts, o, i + 1, hw, hi => by
    have hw' : pl s = some ts.len ∧ ts.wf pl := hw
    obtain ⟨s2, ts2, n⟩ := Fs.node ts (o + 1) i hw'.2 (by unfold Tm.size at hi; omega)
    refine ⟨s2, ts2, ?_, n.wf, n.many, ?_, ?_, fun j hj => ?_⟩
    · show (s :: ts.flat)[i + 1]? = _
      rw [List.getElem?_cons_succ]; exact n.sign
    · show ((o + ts.size + 1) :: ts.ends (o + 1))[i + 1]? = _
      rw [List.getElem?_cons_succ, n.stop]
      congr 1
      omega
    · have := n.in_
      rw [Fs.flat_len] at this
      rw [Tm.flat_len]
      show i + 1 + ts2.size < ts.size + 1
      omega
    · show ((o + ts.size + 1) :: ts.ends (o + 1))[i + 1 + 1 + j]? = _
      rw [show i + 1 + 1 + j = (i + 1 + j) + 1 by omega, List.getElem?_cons_succ, n.kids j hj, show o + 1 + i + 1 = o + (i + 1) + 1 by omega]
theorem Fs.node {pl : Str → Option Nat} : ∀ (r : Fs) (o i : Nat), r.wf pl → i < r.size → ∃ s ts, NodeAt pl r.flat (r.ends o) o i s ts
  | .nil, o, i, _, hi => absurd hi (by unfold Fs.size; omega)
  | .cons t r, o, i, hw, hi => by
    have hw' : t.wf pl ∧ r.wf pl := hw
    by_cases h : i < t.size
    · obtain ⟨s, ts, n⟩ := Tm.node t o i hw'.1 h
      have ni := n.in_
      rw [Tm.flat_len] at ni
      refine ⟨s, ts, ?_, n.wf, n.many, ?_, ?_, fun j hj => ?_⟩
      · show (t.flat ++ r.flat)[i]? = _
        rw [List.getElem?_append_left (by rw [Tm.flat_len]; exact h)]; exact n.sign
      · show (t.ends o ++ r.ends (o + t.size))[i]? = _
        rw [List.getElem?_append_left (by rw [Tm.ends_len]; exact h)]; exact n.stop
      · rw [Fs.flat_len]
        show i + ts.size < t.size + r.size
        omega
      · show (t.ends o ++ r.ends (o + t.size))[i + 1 + j]? = _
        rw [List.getElem?_append_left (by rw [Tm.ends_len]; omega)]; exact n.kids j hj
    · have hi2 : i - t.size < r.size := by unfold Fs.size at hi; omega
      obtain ⟨s, ts, n⟩ := Fs.node r (o + t.size) (i - t.size) hw'.2 hi2
      have ni := n.in_
      rw [Fs.flat_len] at ni
      refine ⟨s, ts, ?_, n.wf, n.many, ?_, ?_, fun j hj => ?_⟩
      · show (t.flat ++ r.flat)[i]? = _
        rw [List.getElem?_append_right (by rw [Tm.flat_len]; omega), Tm.flat_len]; exact n.sign
      · show (t.ends o ++ r.ends (o + t.size))[i]? = _
        rw [List.getElem?_append_right (by rw [Tm.ends_len]; omega), Tm.ends_len, n.stop]
        congr 1
        omega
      · rw [Fs.flat_len]
        show i + ts.size < t.size + r.size
        omega
      · show (t.ends o ++ r.ends (o + t.size))[i + 1 + j]? = _
        rw [List.getElem?_append_right (by rw [Tm.ends_len]; omega), Tm.ends_len, show i + 1 + j - t.size = i - t.size + 1 + j by omega, n.kids j hj, show o + t.size + (i - t.size) + 1 = o + i + 1 by omega]
end
theorem Fs.len_size : ∀ r : Fs, r.len ≤ r.size
  | .nil => Nat.le_refl _
  | .cons t r => by
    have h1 := t.size_pos
    have h2 := Fs.len_size r
    show r.len + 1 ≤ t.size + r.size
    omega
end TS

/-! ### 18. methods with keyword-only parameters -/
namespace TS
open PySem PySem.Spec PyProof.Rows L2
def DefMK (K : PySem.W.Frag) (f : Addr) (m qual : Str) (st : Stmt) (kws : List (Str × V)) : Prop := ∃ fd, FunD K m qual (defArgs st) (defBody st) (defScope st) [] kws f fd
section
variable {P : Program} {w : World} {K : PySem.W.Frag} {mg : Str → Option Value} {base : Heap} {N ps ks : List Str} {k n : Nat} {sp : Sp} {m qual : Str} {st : Stmt} {f : Addr} {kws : List (Str × V)}
theorem methXK_mk (D : DefMK K f m qual st kws) (S : FnScope N ps (defScope st)) (len : ∀ vs H Q E, sp vs H Q E → vs.length = ps.length)
    (body : ∀ (cdv : Value) (A : Around) (outer : List Env) (s : Shared) (H : Hp) (vs : List V) (Q : VK) (E : XK), Room k (A.deeper (envOfC qual (defScope st) s.heap.objs.size f cdv)) → sp vs H Q E →
      ∃ t, PSs (cxOf (L2.CX P w) P w K mg base N qual (defScope st) f cdv A outer s H E) (defBody st) t ∧ t { nx := fun _ G => Q .non G, rt := Q } (start N vs) H) :
    ∃ fd, FunD K m qual (defArgs st) (defBody st) (defScope st) [] kws f fd ∧ FnOk P w K mg base (L2.CX P w) (k + 1) f fd ps sp := by
  obtain ⟨fd, F⟩ := D
  exact ⟨fd, F, F.ok S len body⟩
theorem promAK_of (h : ∃ fd, FunD K m qual (defArgs st) (defBody st) (defScope st) [] kws f fd ∧ FnOk P w K mg base (L2.CX P w) k f fd ps sp) (n : Nat) (ks : List Str) (ms : List (Str × V)) (g : {α : Type} → List α → List α → List α → List α) (hk : kws ≠ []) (hms : ∀ q ∈ ms, q ∈ kws)
    (hrel : ∀ {vs mz zs : List V} {us mv ws : List Value}, Vals vs us → Vals mz mv → Vals zs ws → Vals (g vs mz zs) (g us mv ws))
    (hb : ∀ (D : Addr) (doc pm : Value) (an : Option Addr) (cdv ct : Value) (us mv ws : List Value), us.length = n → mv.length = ms.length → ws.length = ks.length →
      KwChain D ((ms.map (·.1)).zip mv) (bindArgs (PySem.W.fnOf m qual (defArgs st) (defBody st) (defScope st) .none (.ref D) doc pm an cdv ct) ⟨us, ks.zip ws⟩) (ps.zip (g us mv ws))) :
    PromAK P w K mg base k f ps sp n ks (fun vs zs => g vs (ms.map (·.2)) zs) := by
  obtain ⟨fd, F, ok⟩ := h
  obtain ⟨mv, b⟩ := kbinds0 F n ks ms g hk hms hrel hb
  exact ⟨fd, _, ok, b⟩
end
def methKD (C m q : Str) (st : Stmt) (kwd : List (Str × He.Dv)) : He.DefD := ⟨(C, some m), m, q, defArgs st, defBody st, defScope st, [], kwd⟩
theorem methK_of {K : PySem.W.Frag} {fn : List He.DefD} (c1 : fn.all (fun d => d.ok K) = true) (c2 : fn.map (fun d => He.fnW K d.at_) = fn.map He.DefD.val)
    {C m q : Str} {st : Stmt} {kwd : List (Str × He.Dv)} (i : Nat) (hi : fn[i]? = some (methKD C m q st kwd)) : DefMK K (He.ma K (He.ga K C) m) m q st (kwd.map fun q => (q.1, q.2.v K)) := by
  have e1 : He.fnW K (methKD C m q st kwd).at_ = (methKD C m q st kwd).val := by
    have h1 := congrArg (·[i]?) c2
    simp only [List.getElem?_map, hi, Option.map_some] at h1
    exact Option.some.inj h1
  obtain ⟨fd, F⟩ := He.DefD.funD e1 (List.all_eq_true.mp c1 _ (List.mem_of_getElem? hi))
  exact ⟨fd, F⟩
section
variable {X : Cx} {k : Nat} {ps : List Str} {sp : Sp} {x : Str} {p pos : Pos}
/-- a guarded def called with nothing -/
theorem pe_pcG0 (pr : PromG X.prog X.w X.K X.mg X.base k x ps sp) (hgd : X.A.guards = some []) (hr : Room k X.A) (hg : Gl X x) (hdb : (x == ("__debug__" : Str)) = false := by decide) :
    PE X (.Call (.Name x p) [] [] pos) (tCall sp [] E0 tNil) := by
  obtain ⟨f, fd, F, m, kp, b⟩ := pr
  refine ⟨fun pins s σ H Q I h => wpAny_Call_Name_kw (ld_glob I hg m ?_ hdb)⟩
  exact PySem.W.callWith_K0 I.kIn kp (run_G (us := []) F hgd hr b .nil pass0 I .nil h)
end
end TS

namespace TS
open PySem PySem.Spec PyProof.Rows L2 TL
def top (i : Nat) : Stmt := PySem.Challenge.pw_termshelf_k08_terms_refused.main.body.getD i (.Pass ⟨0, 0, 0, 0⟩)

/-! ### marks: whole numbers, names -/
def wholeD (lo hi : Int) : PyData → Bool
  | .int i => decide (lo ≤ i) && decide (i ≤ hi)
  | _ => false
def smallS (z : Str) : Bool := z.cps.toList.all fun c => decide (97 ≤ c) && decide (c ≤ 122)
def nameS (z : Str) : Bool := decide (1 ≤ z.length) && decide (z.length ≤ 8) && smallS z
def nameD : PyData → Bool
  | .str z => nameS z
  | _ => false
def SMALLs : Str := "abcdefghijklmnopqrstuvwxyz"
theorem in_small (c : Nat) : decide (c ∈ SMALLs.cps.toList) = (decide (97 ≤ c) && decide (c ≤ 122)) := by
  have e : SMALLs.cps.toList = (List.range 26).map (· + 97) := by decide +kernel
  rw [e]
  by_cases h : 97 ≤ c ∧ c ≤ 122
  · rw [decide_eq_true h.1, decide_eq_true h.2]
    exact decide_eq_true (List.mem_map.mpr ⟨c - 97, List.mem_range.mpr (by omega), by omega⟩)
  · have n : c ∉ (List.range 26).map (· + 97) := fun m => by
      obtain ⟨k, hk, rfl⟩ := List.mem_map.mp m
      have := List.mem_range.mp hk
      omega
    rw [decide_eq_false n]
    by_cases h1 : 97 ≤ c
    · rw [decide_eq_true h1, decide_eq_false (fun h2 => h ⟨h1, h2⟩)]; rfl
    · rw [decide_eq_false h1]; rfl
theorem sz5' {n : Nat} (h : n ≤ 100000) : n < sizeLine := Nat.lt_of_le_of_lt h (by decide)
theorem sz5 {n : Nat} (h : n ≤ 100000) : n ≤ sizeLine := Nat.le_trans h (by decide)
theorem take_map {α β : Type} (f : α → β) {l : List α} {i : Nat} {c : α} (h : l[i]? = some c) : (l.take (i + 1)).map f = (l.take i).map f ++ [f c] := by
  rw [List.take_add_one, h, List.map_append]
  rfl
/-- a comprehension over a text's signs, one value a sign -/
theorem lc_signs {z : Str} {g : TG} {te : TE} {vs : List Nat} {σ : L2.St} {H1 : Hp} {D : Addr} {Qd : Hp → Prop} (f : Nat → V) (hz : z.length ≤ 100000) (hs : ∀ c H' (C : VK), C (f c) H' → g (.str ⟨#[c]⟩) (wipe σ vs) H' fun σ2 H2 => wipe σ2 vs = wipe σ vs ∧ te σ2 H2 C)
    (hd : Qd (L2.upd H1 D (.lst ((tl z).map f)))) (hg : ∀ x σ H C C', (∀ s h, C s h → C' s h) → g x σ H C → g x σ H C') :
    ∃ W : Nat → Nat → Hp → Prop, (∃ m, W 0 m (L2.upd H1 D (.lst []))) ∧ ∀ i m H, W i m H →
      ((Its z).stop i H ∧ Qd H) ∨ ((Its z).go i H ∧ ∃ Nx : Hp → Prop, (∀ H', Nx H' → ∃ m', m' < m ∧ W (i + 1) m' H') ∧ ∀ x H', (Its z).yld i H x H' → g x (wipe σ vs) H' fun σ2 H2 => wipe σ2 vs = wipe σ vs ∧ tYes σ2 H2 fun b H3 =>
        if b = true then te σ2 H3 fun y H4 => ∃ acc, H4 D = some (.lst acc) ∧ acc.length < sizeLine ∧ Nx (L2.upd H4 D (.lst (acc ++ [y]))) else Nx H3) := by
  refine lc_it walk_str (fun i H' => H' = L2.upd H1 D (.lst (((tl z).take i).map f))) rfl (fun _ _ _ _ => trivial) ?_ ?_
  · rintro i x H2 H3 hi rfl ⟨rfl, c, hc, rfl⟩
    have hc' : (tl z)[i]? = some c := by rw [← hc]; simp [tl]
    refine hg _ _ _ _ _ (fun s h q => ⟨q.1, by
      unfold tYes
      dsimp only
      rw [if_pos rfl]
      exact q.2⟩) (hs c _ (fun y H4 => ∃ acc, H4 D = some (.lst acc) ∧ acc.length < sizeLine ∧ L2.upd H4 D (.lst (acc ++ [y])) = L2.upd H1 D (.lst (((tl z).take (i + 1)).map f))) ⟨_, upd_same, ?_, ?_⟩)
    · refine sz5' ?_
      rw [len_tl] at hz
      rw [List.length_map, List.length_take]
      omega
    · rw [upd_upd, take_map f hc']
  · rintro H2 rfl
    have e : (tl z).take z.cps.size = tl z := List.take_of_length_le (by simp [tl])
    rw [e]
    exact hd
theorem gName_mono {i : Nat} (x : V) (σ : L2.St) (H : Hp) (C C' : L2.St → Hp → Prop) (h : ∀ s h, C s h → C' s h) (q : gName i x σ H C) : gName i x σ H C' := h _ _ q
def spWhole (K : PySem.W.Frag) : Sp := fun vs H Q _ => ∃ (x : V) (d : PyData) (lo hi : Int), vs = [x, .int lo, .int hi] ∧ Dt K H x d ∧ Q (.bl (wholeD lo hi d)) H
def spName (K : PySem.W.Frag) : Sp := fun vs H Q _ => ∃ (x : V) (d : PyData), vs = [x] ∧ Dt K H x d ∧ (∀ z, d = .str z → z.length ≤ 100000) ∧ ∀ H', Same H H' → Q (.bl (nameD d)) H'
section
variable {P : Program} {w : World} {K : PySem.W.Frag} {mg : Str → Option Value} {base : Heap}
abbrev s_is_whole : Stmt := top 19
theorem sc_is_whole : FnScope ["thing", "low", "high"] ["thing", "low", "high"] (defScope s_is_whole) := ⟨rfl, rfl, rfl, by decide +kernel, rfl, by decide +kernel, by decide +kernel⟩

theorem ok_is_whole (bt : Bt mg) (D : Def K mg "is_whole" s_is_whole) : Prom P w K mg base 1 "is_whole" ["thing", "low", "high"] (spWhole K) := by
  refine prom_mk D sc_is_whole (fun vs H Q E h => ?_) (fun _ _ _ _ _ _ us hl => match us, hl with | [_, _, _], _ => rfl) (fun f cdv A outer s H vs Q E hr h => ?_)
  · obtain ⟨x, d, lo, hi, rfl, _⟩ := h
    rfl
  · obtain ⟨x, d, lo, hi, rfl, hd, q⟩ := h
    refine ⟨_, (pss_one (ps_ret (pe_and (pe_callB (id := "isinstance") (isiK (K := K)) (by rfl) bt.isinstance_ (by decide +kernel) (pa_cons (pv 0) (pa_cons (pe_bltn (v := .ty "int") rfl bt.int_ (by decide +kernel) rfl) pa_nil))) (pe_and (pe_not (pe_callB (id := "isinstance") (isiK (K := K)) (by rfl) bt.isinstance_ (by decide +kernel) (pa_cons (pv 0) (pa_cons (pe_bltn (v := .ty "bool") rfl bt.bool_ (by decide +kernel) rfl) pa_nil)))) (pe_one (pe_chain op_le op_le (pv 1) (pv 0) (pv 2))))))), ?_⟩
    refine ⟨_, rfl, _, _, _, _, isD "int" d, rfl, .ty "int", hd.ty, isi_int, _, rfl, ite2 (fun c => ?_) (fun c => ?_)⟩
    · refine ⟨_, rfl, _, _, _, _, isD "bool" d, rfl, .ty "bool", hd.ty, isi_bool, _, rfl, _, rfl, ?_⟩
      rcases isD_int c with ⟨i, rfl⟩ | ⟨b, rfl⟩
      · cases hd
        rw [isD_intb]
        refine iteT ⟨_, rfl, _, rfl, _, _, rfl, rfl, _, rfl, ?_⟩
        replace q : Q (.bl (decide (lo ≤ i) && decide (i ≤ hi))) H := q
        by_cases h1 : lo ≤ i
        · rw [decide_eq_true h1] at q ⊢
          exact iteT ⟨_, rfl, _, _, rfl, rfl, q⟩
        · rw [decide_eq_false h1] at q ⊢
          exact iteF q
      · rw [isD_bools]
        exact iteF q
    · have e : wholeD lo hi d = false := by
        cases d <;> first | rfl | exact absurd (isD_ints _) c
      rw [e] at q
      exact q
abbrev s_is_name : Stmt := top 20
theorem sc_is_name : FnScope ["thing", "sign"] ["thing"] (defScope s_is_name) := ⟨rfl, rfl, rfl, by decide +kernel, rfl, by decide +kernel, by decide +kernel⟩

theorem ok_is_name (bt : Bt mg) (k_MOST_SIGNS_marks : ∃ t, mg "MOST_SIGNS_marks" = some (.int 8 t)) (k_SMALL : ∃ t, mg "SMALL" = some (.str "abcdefghijklmnopqrstuvwxyz" t)) (D : Def K mg "is_name" s_is_name) : Prom P w K mg base 1 "is_name" ["thing"] (spName K) := by
  obtain ⟨t_MOST_SIGNS_marks, c_MOST_SIGNS_marks⟩ := k_MOST_SIGNS_marks
  obtain ⟨t_SMALL, c_SMALL⟩ := k_SMALL
  refine prom_mk D sc_is_name (fun vs H Q E h => ?_) (fun _ _ _ _ _ _ us hl => match us, hl with | [_], _ => rfl) (fun f cdv A outer s H vs Q E hr h => ?_)
  · obtain ⟨x, d, rfl, _⟩ := h
    rfl
  · obtain ⟨x, d, rfl, hd, hz, q⟩ := h
    refine ⟨_, (pss_cons (ps_if (PW.pt (pw_or (pt_not (pt_val (pe_callB (id := "isinstance") (isiK (K := K)) (by rfl) bt.isinstance_ (by decide +kernel) (pa_cons (pv 0) (pa_cons (pe_bltn (v := .ty "str") rfl bt.str_ (by decide +kernel) rfl) pa_nil))))) (pw_or1 (pt_not (pt_chain op_le op_le pe_int (pe_callB (id := "len") (lenK (K := K)) (by rfl) bt.len_ (by decide +kernel) (pa_cons (pv 0) pa_nil)) (pe_glob (v := .int 8) rfl c_MOST_SIGNS_marks ⟨_, rfl⟩)))))) (pss_one (ps_ret pe_bl)) pss_nil)
      (pss_one (ps_ret (pe_callB (id := "all") (allK (K := K) rfl) (by rfl) bt.all_ (by decide +kernel) (pa_cons (pe_lc (own := [("sign", 1)]) (g := gName 1) rfl sc_is_name.nd (pi_str (pv 0)) (blkOk_by (N := ["thing", "sign"]) (sc := defScope s_is_name) (by decide +kernel)) (fun _ _ _ _ _ => (pg_name (i := 1) sc_is_name.nd rfl (Or.inl rfl))) (fun _ _ _ _ _ => pts_nil) (fun _ _ _ _ _ => (pe_cmpR op_in_sign (pv 1) (pe_glob (v := .str "abcdefghijklmnopqrstuvwxyz") rfl c_SMALL ⟨_, rfl⟩) rfl))) pa_nil))))), ?_⟩
    refine ⟨_, rfl, _, _, _, _, isD "str" d, rfl, .ty "str", hd.ty, isi_str, _, rfl, ?_⟩
    cases c : isD "str" d with
    | false =>
      have e : nameD d = false := by
        cases d <;> first | rfl | (rw [isD_strs] at c; cases c)
      rw [e] at q
      exact iteT (iteT (q _ (Same.refl _)))
    | true =>
      obtain ⟨z, rfl⟩ := isD_str c
      cases hd
      have hz' := hz z rfl
      refine iteF ⟨_, rfl, _, _, rfl, ⟨sz5 hz', rfl⟩, _, _, rfl, rfl, _, rfl, ?_⟩
      replace q : ∀ G, Same H G → Q (.bl (nameS z)) G := q
      unfold nameS at q
      by_cases h1 : 1 ≤ z.length
      · rw [decide_eq_true (show (1 : Int) ≤ (z.length : Nat) by omega)]
        rw [decide_eq_true h1] at q
        refine iteT ⟨_, _, rfl, rfl, _, rfl, ?_⟩
        by_cases h2 : z.length ≤ 8
        · rw [decide_eq_true (show ((z.length : Nat) : Int) ≤ 8 by omega)]
          rw [decide_eq_true h2] at q
          refine iteF ⟨_, rfl, z, rfl, fun L hL => ?_⟩
          refine lc_signs (fun c => V.bl (decide (c ∈ SMALLs.cps.toList))) hz' (fun c G C qq => ⟨rfl, _, rfl, c, SMALLs, rfl, rfl, qq⟩) ?_ gName_mono
          refine ⟨L, (tl z).map fun c => decide (c ∈ SMALLs.cps.toList), rfl, .inl (.inl (by rw [upd_same, List.map_map]; rfl)), ?_⟩
          have e : ((tl z).map fun c => decide (c ∈ SMALLs.cps.toList)).all id = smallS z := by
            rw [List.all_map]
            unfold smallS
            show (tl z).all _ = (tl z).all _
            congr 1
            funext c
            exact in_small c
          rw [e]
          exact q _ (Same.new (Same.refl _) hL)
        · rw [decide_eq_false (show ¬ ((z.length : Nat) : Int) ≤ 8 by omega)]
          rw [decide_eq_false h2] at q
          exact iteT (q _ (Same.refl _))
      · rw [decide_eq_false (show ¬ (1 : Int) ≤ (z.length : Nat) by omega)]
        rw [decide_eq_false h1] at q
        exact iteF ⟨_, rfl, iteT (q _ (Same.refl _))⟩
end

end TS

namespace TS
open PySem PySem.Spec PyProof.Rows L2 TL

/-! ### rows of words -/
def rowD : PyData → Bool
  | .tuple [a, b] => nameD a && wholeD 0 4 b
  | _ => false
theorem weight_mem : ∀ {ds : List PyData} {d : PyData}, d ∈ ds → d.weight ≤ PyData.weightAll ds
  | x :: r, d, h => by
    unfold PyData.weightAll
    rcases List.mem_cons.mp h with e | m
    · rw [e]; omega
    · have := weight_mem m; omega
theorem weight_tup {ds : List PyData} {d : PyData} {n : Nat} (h : (PyData.tuple ds).weight ≤ n) (m : d ∈ ds) : d.weight ≤ n := by
  unfold PyData.weight at h
  exact Nat.le_trans (weight_mem m) h
theorem weight_list {ds : List PyData} {d : PyData} {n : Nat} (h : (PyData.list ds).weight ≤ n) (m : d ∈ ds) : d.weight ≤ n := by
  unfold PyData.weight at h
  exact Nat.le_trans (weight_mem m) h
theorem weight_strD {d : PyData} {n : Nat} (h : d.weight ≤ n) : ∀ z, d = .str z → z.length ≤ n := fun z e => by
  rw [e] at h
  unfold PyData.weight at h
  exact h
theorem iteT' {b : Bool} {A B : Prop} (h : b = true) (a : A) : if b = true then A else B := by rw [h]; exact iteT a
theorem iteF' {b : Bool} {A B : Prop} (h : b = false) (a : B) : if b = true then A else B := by rw [h]; exact iteF a
theorem neV_int {i j : Int} : (!decide (V.int i = V.int j)) = !decide (i = j) := by
  by_cases h : i = j
  · rw [h]; simp
  · rw [decide_eq_false h, decide_eq_false (fun z => h (V.int.inj z))]
theorem eqV_int {i j : Int} : decide (V.int i = V.int j) = decide (i = j) := by
  by_cases h : i = j
  · rw [h]; simp
  · rw [decide_eq_false h, decide_eq_false (fun z => h (V.int.inj z))]
theorem two_of {α : Type} {l : List α} (h : l.length = 2) : ∃ a b, l = [a, b] := match l, h with | [a, b], _ => ⟨a, b, rfl⟩
def spRow (K : PySem.W.Frag) : Sp := fun vs H Q _ => ∃ (x : V) (d : PyData), vs = [x] ∧ Dt K H x d ∧ d.weight ≤ 100000 ∧ ∀ H', Same H H' → Q (.bl (rowD d)) H'
section
variable {P : Program} {w : World} {K : PySem.W.Frag} {mg : Str → Option Value} {base : Heap}
abbrev s_is_row : Stmt := top 26
theorem sc_is_row : FnScope ["thing"] ["thing"] (defScope s_is_row) := ⟨rfl, rfl, rfl, by decide +kernel, rfl, by decide +kernel, by decide +kernel⟩

theorem ok_is_row (bt : Bt mg) (k_MOST_PLACES : ∃ t, mg "MOST_PLACES" = some (.int 4 t)) (p_is_name : Prom P w K mg base 1 "is_name" ["thing"] (spName K)) (p_is_whole : Prom P w K mg base 1 "is_whole" ["thing", "low", "high"] (spWhole K)) (D : Def K mg "is_row" s_is_row) :
    Prom P w K mg base 2 "is_row" ["thing"] (spRow K) := by
  obtain ⟨t_MOST_PLACES, c_MOST_PLACES⟩ := k_MOST_PLACES
  refine prom_mk D sc_is_row (fun vs H Q E h => ?_) (fun _ _ _ _ _ _ us hl => match us, hl with | [_], _ => rfl) (fun f cdv A outer s H vs Q E hr h => ?_)
  · obtain ⟨x, d, rfl, _⟩ := h
    rfl
  · obtain ⟨x, d, rfl, hd, hw, q⟩ := h
    refine ⟨_, (pss_cons (ps_if (PW.pt (pw_or (pt_not (pt_val (pe_callB (id := "isinstance") (isiK (K := K)) (by rfl) bt.isinstance_ (by decide +kernel) (pa_cons (pv 0) (pa_cons (pe_bltn (v := .ty "tuple") rfl bt.tuple_ (by decide +kernel) rfl) pa_nil))))) (pw_or1 (pt_cmpR op_ne (pe_callB (id := "len") (lenK (K := K)) (by rfl) bt.len_ (by decide +kernel) (pa_cons (pv 0) pa_nil)) pe_int (nomark _))))) (pss_one (ps_ret pe_bl)) pss_nil)
      (pss_one (ps_ret (pe_and (pe_pc p_is_name (hr.mono (by decide)) rfl (pa_cons (pe_ix (ix_tupK (K := K)) (pv 0) pe_int (fun _ _ => rfl)) pa_nil)) (pe_one (pe_pc p_is_whole (hr.mono (by decide)) rfl (pa_cons (pe_ix (ix_tupK (K := K)) (pv 0) pe_int (fun _ _ => rfl)) (pa_cons pe_int (pa_cons (pe_glob (v := .int 4) rfl c_MOST_PLACES ⟨_, rfl⟩) pa_nil))))))))), ?_⟩
    refine ⟨_, rfl, _, _, _, _, isD "tuple" d, rfl, .ty "tuple", hd.ty, isi_tuple, _, rfl, ?_⟩
    cases c : isD "tuple" d with
    | false =>
      have e : rowD d = false := by
        cases d <;> first | rfl | (rw [isD_tuples] at c; cases c)
      rw [e] at q
      exact iteT (iteT (q _ (Same.refl _)))
    | true =>
      obtain ⟨l, rfl⟩ := isD_tuple c
      obtain ⟨a, xs, rfl, hT, hA⟩ := hd.tup_inv
      have hl := hA.length
      refine iteF ⟨_, rfl, _, _, rfl, .inr ⟨xs, hT, rfl⟩, rfl, _, rfl, ?_⟩
      rw [neV_int]
      by_cases h2 : l.length = 2
      · obtain ⟨d0, d1, rfl⟩ := two_of h2
        obtain ⟨x0, x1, rfl⟩ := two_of (hl.trans h2)
        cases hA with
        | cons h0 t => cases t with
        | cons h1 t =>
        refine iteF' rfl ?_
        refine ⟨_, rfl, a, _, _, x0, rfl, rfl, hT, rfl, x0, d0, rfl, h0, weight_strD (weight_tup hw (by simp)), fun G sG => ⟨_, rfl, ?_⟩⟩
        replace q : ∀ G, Same H G → Q (.bl (nameD d0 && wholeD 0 4 d1)) G := q
        cases hn : nameD d0 with
        | false =>
          rw [hn] at q
          exact iteF (q G sG)
        | true =>
          rw [hn] at q
          exact iteT ⟨_, rfl, a, _, _, x1, rfl, rfl, SqT.same sG hT, rfl, x1, d1, _, _, rfl, Dt.same sG h1, q G sG⟩
      · have e : rowD (.tuple l) = false := by
          match l, h2 with
          | [], _ => rfl
          | [_], _ => rfl
          | [_, _], h => exact absurd rfl h
          | _ :: _ :: _ :: _, _ => rfl
        rw [e] at q
        refine iteT' ?_ (q _ (Same.refl _))
        rw [decide_eq_false (show ¬ ((xs.length : Nat) : Int) = 2 by omega)]
        rfl
end

end TS

namespace TS
open PySem PySem.Spec PyProof.Rows L2 TL

/-! ### lists of rows -/
def nmOf : PyData → Str
  | .tuple (.str z :: _) => z
  | _ => ""
/-- how many unlike ones -/
def dc : List Str → Nat
  | [] => 0
  | x :: r => if x ∈ r then dc r else dc r + 1
theorem dc_le : ∀ l : List Str, dc l ≤ l.length
  | [] => Nat.le_refl _
  | x :: r => by
    unfold dc
    have := dc_le r
    split <;> simp only [List.length_cons] <;> omega
theorem dc_nodup : ∀ l : List Str, dc l = l.length ↔ l.Nodup
  | [] => by simp [dc]
  | x :: r => by
    have := dc_le r
    rw [List.nodup_cons, ← dc_nodup r, show dc (x :: r) = if x ∈ r then dc r else dc r + 1 from rfl]
    split
    · rename_i h
      simp only [List.length_cons]
      constructor
      · intro z; omega
      · intro z; exact absurd h z.1
    · rename_i h
      simp only [List.length_cons]
      constructor
      · intro z; exact ⟨h, by omega⟩
      · intro z; omega
theorem nodup_rev {l : List Str} : l.reverse.Nodup ↔ l.Nodup := by
  unfold List.Nodup
  rw [List.pairwise_reverse]
  constructor <;> exact fun h => h.imp fun z e => z e.symm
def rowsL (ds : List PyData) : Bool := decide (1 ≤ ds.length) && decide (ds.length ≤ 12) && (ds.all rowD && decide ((ds.map nmOf).Nodup))
def seqD : PyData → Option (List PyData)
  | .list ds => some ds
  | .tuple ds => some ds
  | _ => none
def rowsD (d : PyData) : Bool := match seqD d with
  | some ds => rowsL ds
  | none => false
theorem seq_kind {d : PyData} : (isD "list" d || isD "tuple" d) = true → ∃ ds, seqD d = some ds := fun h => by
  rcases Bool.or_eq_true_iff.mp h with h | h
  · obtain ⟨l, rfl⟩ := isD_list h; exact ⟨l, rfl⟩
  · obtain ⟨l, rfl⟩ := isD_tuple h; exact ⟨l, rfl⟩
theorem seq_nokind {d : PyData} (h : (isD "list" d || isD "tuple" d) = false) : seqD d = none := by
  cases d <;> first | rfl | (rw [isD_lists] at h; cases h) | (rw [isD_tuples, Bool.or_true] at h; cases h)
theorem Dt.seq {K : PySem.W.Frag} {H : Hp} {v : V} {d : PyData} {ds : List PyData} (h : Dt K H v d) (e : seqD d = some ds) : ∃ a xs, v = .ref a ∧ Sq K H a xs ∧ DtAll K H xs ds := by
  cases h with
  | lst a b => cases e; exact ⟨_, _, rfl, .inl a, b⟩
  | tup a b => cases e; exact ⟨_, _, rfl, .inr a, b⟩
  | _ => cases e
theorem weight_seq {d x : PyData} {ds : List PyData} {n : Nat} (h : d.weight ≤ n) (e : seqD d = some ds) (m : x ∈ ds) : x.weight ≤ n := by
  cases d with
  | list l => cases e; exact weight_list h m
  | tuple l => cases e; exact weight_tup h m
  | _ => cases e
theorem row_is {d : PyData} (h : rowD d = true) : ∃ z b, d = .tuple [.str z, b] ∧ nameS z = true ∧ wholeD 0 4 b = true := by
  unfold rowD at h
  split at h
  · rename_i a b
    obtain ⟨h1, h2⟩ := Bool.and_eq_true_iff.mp h
    unfold nameD at h1
    split at h1
    · exact ⟨_, _, rfl, h1, h2⟩
    · cases h1
  · cases h
def spRows (K : PySem.W.Frag) : Sp := fun vs H Q _ => ∃ (x : V) (d : PyData), vs = [x] ∧ Dt K H x d ∧ d.weight ≤ 100000 ∧ (∀ ds, seqD d = some ds → ds.length ≤ 1000) ∧ ∀ H', Same H H' → Q (.bl (rowsD d)) H'
section
variable {P : Program} {w : World} {K : PySem.W.Frag} {mg : Str → Option Value} {base : Heap}
abbrev s_are_rows : Stmt := top 27
theorem sc_are_rows : FnScope ["thing", "row"] ["thing"] (defScope s_are_rows) := ⟨rfl, rfl, rfl, by decide +kernel, rfl, by decide +kernel, by decide +kernel⟩

theorem ok_are_rows (bt : Bt mg) (k_MOST_WORDS : ∃ t, mg "MOST_WORDS" = some (.int 12 t)) (p_is_row : Prom P w K mg base 2 "is_row" ["thing"] (spRow K)) (D : Def K mg "are_rows" s_are_rows) :
    Prom P w K mg base 3 "are_rows" ["thing"] (spRows K) := by
  obtain ⟨t_MOST_WORDS, c_MOST_WORDS⟩ := k_MOST_WORDS
  refine prom_mk D sc_are_rows (fun vs H Q E h => ?_) (fun _ _ _ _ _ _ us hl => match us, hl with | [_], _ => rfl) (fun f cdv A outer s H vs Q E hr h => ?_)
  · obtain ⟨x, d, rfl, _⟩ := h
    rfl
  · obtain ⟨x, d, rfl, hd, hw, hn, q⟩ := h
    refine ⟨_, (pss_cons (ps_if (PW.pt (pw_or (pt_not (pt_val (pe_callB (id := "isinstance") (isiTK (K := K)) (by rfl) bt.isinstance_ (by decide +kernel) (pa_cons (pv 0) (pa_cons (pe_tup (pa_cons (pe_bltn (v := .ty "list") rfl bt.list_ (by decide +kernel) rfl) (pa_cons (pe_bltn (v := .ty "tuple") rfl bt.tuple_ (by decide +kernel) rfl) pa_nil))) pa_nil))))) (pw_or1 (pt_not (pt_chain op_le op_le pe_int (pe_callB (id := "len") (lenK (K := K)) (by rfl) bt.len_ (by decide +kernel) (pa_cons (pv 0) pa_nil)) (pe_glob (v := .int 12) rfl c_MOST_WORDS ⟨_, rfl⟩)))))) (pss_one (ps_ret pe_bl)) pss_nil)
      (pss_one (ps_ret (pe_and (pe_callB (id := "all") (allK (K := K) rfl) (by rfl) bt.all_ (by decide +kernel) (pa_cons (pe_lc (own := [("row", 1)]) (g := gName 1) rfl sc_are_rows.nd (pi_either (pi_listK (K := K) rfl (pv 0)) (pi_tupK (K := K) rfl (pv 0))) (blkOk_by (N := ["thing", "row"]) (sc := defScope s_are_rows) (by decide +kernel)) (fun _ _ _ _ _ => (pg_name (i := 1) sc_are_rows.nd rfl (Or.inl rfl))) (fun _ _ _ _ _ => pts_nil) (fun _ _ _ _ _ => (pe_pc p_is_row (hr.mono (by decide)) rfl (pa_cons (pv 1) pa_nil)))) pa_nil)) (pe_one (pe_cmpR op_eq (pe_callB (id := "len") len_setK (by rfl) bt.len_ (by decide +kernel) (pa_cons (pe_scK (own := [("row", 1)]) (g := gName 1) rfl sc_are_rows.nd (pi_either (pi_listK (K := K) rfl (pv 0)) (pi_tupK (K := K) rfl (pv 0))) (blkOk_by (N := ["thing", "row"]) (sc := defScope s_are_rows) (by decide +kernel)) (fun _ _ _ _ _ => (pg_name (i := 1) sc_are_rows.nd rfl (Or.inl rfl))) (fun _ _ _ _ _ => pts_nil) (fun _ _ _ _ _ => (pe_ix (ix_tupK (K := K)) (pv 1) pe_int (fun _ _ => rfl)))) pa_nil)) (pe_callB (id := "len") (lenK (K := K)) (by rfl) bt.len_ (by decide +kernel) (pa_cons (pv 0) pa_nil)) (nomark _))))))), ?_⟩
    refine ⟨_, rfl, (by show 2 ≤ sizeLine; decide), fun T hT => ⟨_, T, [.ty "list", .ty "tuple"], _, _, isD "list" d || isD "tuple" d, rfl, upd_same .., .cons (.ty "list") (.cons (.ty "tuple") .nil), (Dt.same (Same.new (Same.refl _) hT) hd).ty, isi_lt, _, rfl, ?_⟩⟩
    have sT : Same H (L2.upd H T (.tup [.ty "list", .ty "tuple"])) := Same.new (Same.refl _) hT
    generalize L2.upd H T (.tup [.ty "list", .ty "tuple"]) = H0 at sT ⊢
    unfold rowsD at q
    cases c : (isD "list" d || isD "tuple" d) with
    | false =>
      rw [seq_nokind c] at q
      exact iteT (iteT (q _ sT))
    | true =>
      obtain ⟨ds, es⟩ := seq_kind c
      rw [es] at q
      obtain ⟨a, xs, rfl, hS, hA⟩ := (Dt.same sT hd).seq es
      have hl := hA.length
      replace q : ∀ G, Same H G → Q (.bl (rowsL ds)) G := q
      unfold rowsL at q
      have h12 := hn ds es
      refine iteF ⟨_, rfl, _, _, rfl, hS.len, _, _, rfl, rfl, _, rfl, ?_⟩
      by_cases h1 : 1 ≤ ds.length
      · rw [decide_eq_true (show (1 : Int) ≤ (xs.length : Nat) by omega)]
        rw [decide_eq_true h1] at q
        refine iteT ⟨_, _, rfl, rfl, _, rfl, ?_⟩
        by_cases h2 : ds.length ≤ 12
        · rw [decide_eq_true (show ((xs.length : Nat) : Int) ≤ 12 by omega)]
          rw [decide_eq_true h2, Bool.and_true, Bool.true_and] at q
          refine iteF (seq_it rfl hS fun J G wk hG L hL => lc_same wk hG (by omega) (Same.refl _) hL (fun i => .bl (rowD (ds.getD i .none))) (fun _ => rfl) ?_ ?_)
          · intro i x H2 C hx s2 k
            obtain ⟨di, hdi, hx2⟩ := hA.get hx
            have e : ds.getD i .none = di := by rw [List.getD_eq_getElem?_getD, hdi]; rfl
            rw [e] at k
            exact ⟨_, rfl, x, di, rfl, Dt.same s2 hx2, weight_seq hw es (List.mem_of_getElem? hdi), k⟩
          · intro H2 s2 hL2
            refine ⟨L, (List.range xs.length).map fun i => rowD (ds.getD i .none), rfl, .inl (.inl (by rw [hL2, List.map_map]; rfl)), _, rfl, ?_⟩
            have ea : ((List.range xs.length).map fun i => rowD (ds.getD i .none)).all id = ds.all rowD := by
              rw [hl]
              have : (List.range ds.length).map (fun i => rowD (ds.getD i .none)) = ds.map rowD := by
                apply List.ext_getElem?
                intro i
                rw [List.getElem?_map, List.getElem?_map]
                rcases Nat.lt_or_ge i ds.length with z | z
                · rw [List.getElem?_range z, List.getElem?_eq_getElem z]
                  simp [List.getD_eq_getElem?_getD, List.getElem?_eq_getElem z]
                · rw [List.getElem?_eq_none (by simpa using z), List.getElem?_eq_none z]
                  rfl
              rw [this, List.all_map]
              rfl
            rw [ea]
            cases al : ds.all rowD with
            | false =>
              rw [al] at q
              exact iteF (q _ (sT.trans s2))
            | true =>
              rw [al, Bool.true_and] at q
              have rows : ∀ (i : Nat) (x : V), xs[i]? = some x → ∃ (p : Addr) (z : Str) (b : PyData) (v : V), x = .ref p ∧ ds[i]? = some (.tuple [.str z, b]) ∧ SqT K H2 p [.str z, v] := by
                intro i x hx
                obtain ⟨di, hdi, hx2⟩ := hA.get hx
                obtain ⟨z, b, rfl, _, _⟩ := row_is (List.all_eq_true.mp al di (List.mem_of_getElem? hdi))
                obtain ⟨p, ys, rfl, hp, hy⟩ := (Dt.same s2 hx2).tup_inv
                cases hy with
                | cons y0 t => cases t with
                | cons y1 t => cases t with
                | nil =>
                  cases y0
                  exact ⟨p, z, b, _, rfl, hdi, hp⟩
              refine iteT (seq_it rfl (Sq.same s2 hS) fun J2 G2 wk2 hG2 D hD => ?_)
              have sD : ∀ o : HO, Same H2 (L2.upd H2 D o) := fun o => Same.new (Same.refl _) hD
              refine scK_it wk2 (fun i G' => ∃ S, (∀ k, S k = decide (∃ z ∈ (ds.take i).map nmOf, k = Sum.inr z)) ∧ G' = L2.upd H2 D (SetK P w D S (dc ((ds.take i).map nmOf).reverse))) ⟨_, fun k => by simp, rfl⟩ (fun i G' _ p => ?_) ?_ ?_
              · obtain ⟨S, _, rfl⟩ := p
                exact hG2 _ (sD _)
              · rintro i x G' G'' hi ⟨S, hSS, rfl⟩ ⟨rfl, hx⟩
                obtain ⟨p, z, b, v, rfl, hdi, hp⟩ := rows i x hx
                have et : (ds.take (i + 1)).map nmOf = (ds.take i).map nmOf ++ [z] := take_map nmOf hdi
                have dl := dc_le ((ds.take i).map nmOf).reverse
                rw [List.length_reverse, List.length_map, List.length_take] at dl
                refine ⟨rfl, yes (iteT ⟨_, rfl, p, _, _, .str z, rfl, rfl, SqT.same (sD _) hp, rfl, Sum.inr z, S, _, rfl, upd_same .., ?_, fun j => S j || decide (j = Sum.inr z), fun k => ?_, ?_⟩)⟩
                · have : (50 : Nat) < scanBound := by decide
                  omega
                · show (S k || decide (k = Sum.inr z)) = _
                  rw [hSS, et, Bool.eq_iff_iff]
                  simp only [Bool.or_eq_true, decide_eq_true_eq]
                  constructor
                  · rintro (⟨y, m, e⟩ | e)
                    · exact ⟨y, List.mem_append_left _ m, e⟩
                    · exact ⟨z, List.mem_append_right _ (by simp), e⟩
                  · rintro ⟨y, m, e⟩
                    rcases List.mem_append.mp m with m | m
                    · exact .inl ⟨y, m, e⟩
                    · rw [List.mem_singleton.mp m] at e
                      exact .inr e
                · rw [upd_upd, et, List.reverse_append]
                  show L2.upd H2 D (SetK P w D _ (if S (Sum.inr z) = true then _ else _)) = L2.upd H2 D (SetK P w D _ (if z ∈ ((ds.take i).map nmOf).reverse then _ else _))
                  have ez : S (Sum.inr z) = decide (z ∈ ((ds.take i).map nmOf).reverse) := by
                    rw [hSS]
                    congr 1
                    apply propext
                    constructor
                    · rintro ⟨y, m, e⟩
                      rw [Sum.inr.inj e]
                      exact List.mem_reverse.mpr m
                    · intro m
                      exact ⟨z, List.mem_reverse.mp m, rfl⟩
                  rw [ez]
                  by_cases m : z ∈ ((ds.take i).map nmOf).reverse
                  · rw [if_pos m, if_pos (decide_eq_true m)]; rfl
                  · rw [if_neg m, if_neg (by rw [decide_eq_false m]; decide)]; rfl
              · rintro G' ⟨S, _, rfl⟩
                have dl := dc_le ((ds.take xs.length).map nmOf).reverse
                rw [List.length_reverse, List.length_map, List.length_take] at dl
                refine ⟨D, S, _, rfl, upd_same .., ?_, _, rfl, _, _, rfl, (Sq.same (sD _) (Sq.same s2 hS)).len, rfl, ?_⟩
                · have : (2 : Nat) ^ 40 = 1099511627776 := by decide
                  omega
                · have ef : ds.take xs.length = ds := List.take_of_length_le (by omega)
                  rw [ef, eqV_int]
                  have e2 : decide (((dc (ds.map nmOf).reverse : Nat) : Int) = (xs.length : Nat)) = decide ((ds.map nmOf).Nodup) := by
                    congr 1
                    apply propext
                    have z := dc_nodup (ds.map nmOf).reverse
                    rw [List.length_reverse, List.length_map, nodup_rev] at z
                    rw [← z]
                    constructor
                    · intro e; omega
                    · intro e; omega
                  rw [e2]
                  exact q _ ((sT.trans s2).trans (sD _))
        · rw [decide_eq_false (show ¬ ((xs.length : Nat) : Int) ≤ 12 by omega)]
          rw [decide_eq_false h2] at q
          exact iteT (q _ sT)
      · rw [decide_eq_false (show ¬ (1 : Int) ≤ (xs.length : Nat) by omega)]
        rw [decide_eq_false h1] at q
        exact iteF ⟨_, rfl, iteT (q _ sT)⟩
end

end TS

namespace TS
open PySem PySem.Spec PyProof.Rows L2 TL

/-! ### Words -/
def wcls (K : PySem.W.Frag) : Addr := He.ga K "Words"
def rowOf : PyData → Str × Int
  | .tuple [.str z, .int p] => (z, p)
  | _ => ("", 0)
/-- the entries of by_name -/
structure WEnt (K : PySem.W.Frag) (G : Hp) (kvs : List (Key × V)) (rows : List (Str × Int)) : Prop where
  len : kvs.length = rows.length
  at_ : ∀ (i : Nat) (r : Str × Int), rows[i]? = some r → ∃ t, kvs[i]? = some (Sum.inr r.1, .ref t) ∧ SqT K G t [.int r.2, .int i]
theorem WEnt.same {K : PySem.W.Frag} {G G' : Hp} {kvs : List (Key × V)} {rows : List (Str × Int)} (h : WEnt K G kvs rows) (e : Same G G') : WEnt K G' kvs rows :=
  ⟨h.len, fun i r q => let ⟨t, a, b⟩ := h.at_ i r q; ⟨t, a, SqT.same e b⟩⟩
/-- the words at a -/
def WordsAt (K : PySem.W.Frag) (G : Hp) (a : Addr) (rows : List (Str × Int)) : Prop := ∃ dx D kvs, G a = some (.ins (wcls K) dx [("by_name", .ref D)]) ∧ G D = some (.dK kvs) ∧ WEnt K G kvs rows
theorem WordsAt.same {K : PySem.W.Frag} {G G' : Hp} {a : Addr} {rows : List (Str × Int)} (h : WordsAt K G a rows) (e : Same G G') : WordsAt K G' a rows :=
  let ⟨dx, D, kvs, x, y, z⟩ := h; ⟨dx, D, kvs, e _ _ x, e _ _ y, z.same e⟩
theorem valV_none {kvs : List (Key × V)} {k : Key} (h : ∀ kv ∈ kvs, kv.1 ≠ k) : valV kvs k = none := by
  unfold valV
  rw [List.find?_eq_none.mpr (fun kv m => by simpa using h kv m)]
  rfl
/-- a tuple stays where another thing is changed -/
theorem SqT.upd {K : PySem.W.Frag} {H : Hp} {a t : Addr} {xs : List V} {o o' : HO} (ha : H a = some o) (ho : ∀ l, o ≠ .tup l) (hf : ∀ b u, o ≠ .frz b u) (h : SqT K H t xs) : SqT K (L2.upd H a o') t xs := by
  rcases h with (h | ⟨q, h⟩) | h
  · refine .inl (.inl ?_)
    rw [upd_ne]
    · exact h
    · intro e
      rw [e, ha] at h
      exact ho _ (Option.some.inj h)
  · refine .inl (.inr ⟨q, ?_⟩)
    rw [upd_ne]
    · exact h
    · intro e
      rw [e, ha] at h
      exact hf _ _ (Option.some.inj h)
  · exact .inr h
def spWIni (K : PySem.W.Frag) : Sp := fun vs H Q E => ∃ (a dx : Addr) (x : V) (d : PyData), vs = [.ref a, x] ∧ H a = some (.ins (wcls K) dx []) ∧ Dt K H x d ∧ d.weight ≤ 100000 ∧ (∀ ds, seqD d = some ds → ds.length ≤ 1000) ∧
  (∀ ds, seqD d = some ds → rowsL ds = true → ∀ G, Fx a H G → WordsAt K G a (ds.map rowOf) → Q .non G) ∧
  (rowsD d = false → ∀ G e, Same H G → H e = none → G e = some (.xd [("found", x)]) → E (.ref (He.ga K "NoWords")) (some e) G)
def spWLen (K : PySem.W.Frag) : Sp := fun vs H Q _ => ∃ (a : Addr) (rows : List (Str × Int)), vs = [.ref a] ∧ WordsAt K H a rows ∧ Q (.int rows.length) H
section
variable {P : Program} {w : World} {K : PySem.W.Frag} {mg : Str → Option Value} {base : Heap}
abbrev s_NoWords___init__ : Stmt := inClass (top 4) 0
theorem sc_NoWords___init__ : FnScope ["self", "found"] ["self", "found"] (defScope s_NoWords___init__) := ⟨rfl, rfl, rfl, by decide +kernel, rfl, by decide +kernel, by decide +kernel⟩
theorem ok_NoWords_ini (fam_TermError : FamV K (He.ga K "TermError")) (g_TermError : mg "TermError" = some (.ref (He.ga K "TermError"))) (x_NoWords : OwnV K (He.ga K "NoWords") "found") (D : DefM K (He.ma K (He.ga K "NoWords") "__init__") "__init__" "NoWords.__init__" s_NoWords___init__) :
    PromA CX0 P w K mg base 1 (He.ma K (He.ga K "NoWords") "__init__") ["self", "found"] (spIni (He.ga K "NoWords") "found") := by
  refine meth_mk D sc_NoWords___init__ (fun vs H Q E h => ?_) (fun _ _ _ _ _ _ us hl => match us, hl with | [_, _], _ => rfl) (fun cdv A outer s H vs Q E hr h => ?_)
  · obtain ⟨a, v, rfl, _⟩ := h
    rfl
  · obtain ⟨a, v, rfl, ha, q⟩ := h
    refine ⟨_, (pss_cons (ps_expr (pe_famInit fam_TermError rfl g_TermError (pa_cons (pv 0) (pa_cons pe_str pa_nil))))
      (pss_one (ps_ost (pv 0) (pv 1)))), ?_⟩
    exact ⟨_, rfl, a, _, _, rfl, by decide, x_NoWords.ox, ha, _, rfl, _, rfl, a, _, rfl, x_NoWords.ox, x_NoWords.no, .inl ⟨ha, fun dx h1 h2 => q dx h1 h2⟩⟩

abbrev s_Words___len__ : Stmt := inClass (top 28) 6
theorem sc_Words___len__ : FnScope ["self"] ["self"] (defScope s_Words___len__) := ⟨rfl, rfl, rfl, by decide +kernel, rfl, by decide +kernel, by decide +kernel⟩

theorem ok_Words_len (bt : Bt mg) (cl : Cls K (wcls K)) (nb : NoAttr K (wcls K) "by_name") (D : DefM K (He.ma K (wcls K) "__len__") "__len__" "Words.__len__" s_Words___len__) : PromA CX0 P w K mg base 1 (He.ma K (wcls K) "__len__") ["self"] (spWLen K) := by
  refine meth_mk D sc_Words___len__ (fun vs H Q E h => ?_) (fun _ _ _ _ _ _ us hl => match us, hl with | [_], _ => rfl) (fun cdv A outer s H vs Q E hr h => ?_)
  · obtain ⟨a, rows, rfl, _⟩ := h
    rfl
  · obtain ⟨a, rows, rfl, ⟨dx, D, kvs, e1, e2, e3⟩, q⟩ := h
    refine ⟨_, (pss_one (ps_ret (pe_callB (id := "len") call_lenD (by rfl) bt.len_ (by decide +kernel) (pa_cons (pe_fld (pv 0) rfl) pa_nil)))), ?_⟩
    refine ⟨_, rfl, a, _, dx, _, _, rfl, e1, cl, nb, rfl, D, kvs, rfl, e2, ?_⟩
    rw [e3.len]
    exact q
abbrev s_Words___init__ : Stmt := inClass (top 28) 0
theorem sc_Words___init__ : FnScope ["self", "rows", "at", "name", "places"] ["self", "rows"] (defScope s_Words___init__) := ⟨rfl, rfl, rfl, by decide +kernel, rfl, by decide +kernel, by decide +kernel⟩

theorem ok_Words_ini (bt : Bt mg) (cl : Cls K (wcls K)) (nb : NoAttr K (wcls K) "by_name") (p_are_rows : Prom P w K mg base 3 "are_rows" ["thing"] (spRows K)) (g_NoWords : mg "NoWords" = some (.ref (He.ga K "NoWords"))) (x_NoWords : OwnV K (He.ga K "NoWords") "found")
    (pi_NoWords : PromA CX0 P w K mg base 1 (He.ma K (He.ga K "NoWords") "__init__") ["self", "found"] (spIni (He.ga K "NoWords") "found"))
    (D : DefM K (He.ma K (wcls K) "__init__") "__init__" "Words.__init__" s_Words___init__) : PromA (L2.CX P w) P w K mg base 4 (He.ma K (wcls K) "__init__") ["self", "rows"] (spWIni K) := by
  refine methX_mk D sc_Words___init__ (fun vs H Q E h => ?_) (fun _ _ _ _ _ _ us hl => match us, hl with | [_, _], _ => rfl) (fun cdv A outer s H vs Q E hr h => ?_)
  · obtain ⟨a, dx, x, d, rfl, _⟩ := h
    rfl
  · obtain ⟨a, dx, x, d, rfl, ha, hd, hw, hn, q1, q2⟩ := h
    refine ⟨_, (pss_cons (ps_if (pt_not (pt_val (pe_pc p_are_rows (hr.mono (by decide)) rfl (pa_cons (pv 1) pa_nil)))) (pss_one (ps_raise1 x_NoWords pi_NoWords rfl takesF (hr.mono (by decide)) rfl g_NoWords (pv 1))) pss_nil)
      (pss_one (ps_fld (pv 0) (pe_dc (own := [("at", 2), ("name", 3), ("places", 4)]) rfl sc_Words___init__.nd (pi_either (pi_enumK (K := K) rfl rfl bt.enumerate_ (pa_cons (pv 1) pa_nil)) (pi_enumT (K := K) rfl rfl bt.enumerate_ (pa_cons (pv 1) pa_nil))) (blkOk_by (N := ["self", "rows", "at", "name", "places"]) (sc := defScope s_Words___init__) (by decide +kernel)) (fun _ _ _ _ _ => (pg_tupK (K := K) (n := 2) rfl rfl (pgs_cons (pg_name (i := 2) sc_Words___init__.nd rfl (Or.inl rfl)) (pgs_cons (pg_tupK (K := K) (n := 2) rfl rfl (pgs_cons (pg_name (i := 3) sc_Words___init__.nd rfl (Or.inl rfl)) (pgs_cons (pg_name (i := 4) sc_Words___init__.nd rfl (Or.inl rfl)) pgs_nil))) pgs_nil)))) (fun _ _ _ _ _ => pts_nil) (fun _ _ _ _ _ => (pv 3)) (fun _ _ _ _ _ => (pe_tup (pa_cons (pv 4) (pa_cons (pv 2) pa_nil))))) rfl))), ?_⟩
    refine ⟨_, rfl, x, d, rfl, hd, hw, hn, fun H1 s1 => ⟨_, rfl, ?_⟩⟩
    cases c : rowsD d with
    | false => exact iteT ⟨_, rfl, fun e he => q2 c _ e (s1.trans (Same.new (Same.refl _) he)) (s1.free he) (upd_same ..)⟩
    | true =>
      obtain ⟨ds, es, rl⟩ : ∃ ds, seqD d = some ds ∧ rowsL ds = true := by
        unfold rowsD at c
        split at c
        · rename_i ds e; exact ⟨ds, e, c⟩
        · cases c
      obtain ⟨b, xs, rfl, hS, hA⟩ := (Dt.same s1 hd).seq es
      have hl := hA.length
      obtain ⟨rl1, rl2⟩ := Bool.and_eq_true_iff.mp rl
      obtain ⟨al, nd⟩ := Bool.and_eq_true_iff.mp rl2
      have l12 : ds.length ≤ 12 := of_decide_eq_true (Bool.and_eq_true_iff.mp rl1).2
      have nd' := of_decide_eq_true nd
      refine iteF (enum_it rfl hS fun J G wk hG D hD => ?_)
      have sD : ∀ o : HO, Same H1 (L2.upd H1 D o) := fun o => Same.new (Same.refl _) hD
      refine dc_it wk (fun i G' => ∃ kvs, Same H1 G' ∧ G' D = some (.dK kvs) ∧ WEnt K G' kvs ((ds.take i).map rowOf)) ⟨[], sD _, upd_same .., ⟨by simp, fun i r e => by simp at e⟩⟩ (fun i G' _ p => hG G' p.choose_spec.1) ?_ ?_
      · rintro i v G1 G2 hi ⟨kvs, sG, eD, we⟩ ⟨T, y, x, rfl, hT, rfl, ey, hx⟩
        cases ey
        obtain ⟨di, hdi, hx2⟩ := hA.get hx
        obtain ⟨z, pb, rfl, _, hp⟩ := row_is (List.all_eq_true.mp al di (List.mem_of_getElem? hdi))
        obtain ⟨p, rfl⟩ : ∃ p, pb = .int p := by
          cases pb <;> first | exact ⟨_, rfl⟩ | cases hp
        have sT : Same G1 (L2.upd G1 T (.tup [.int (i : Nat), x])) := Same.new (Same.refl _) hT
        obtain ⟨r, ys, rfl, hr2, hy⟩ := (Dt.same (sG.trans sT) hx2).tup_inv
        cases hy with
        | cons y0 t => cases t with
        | cons y1 t => cases t with
        | nil =>
        cases y0
        cases y1
        refine ⟨T, _, rfl, .inl (.inl (upd_same ..)), rfl, _, _, rfl, _, _, rfl, r, _, rfl, hr2, rfl, _, _, rfl, _, _, rfl, rfl, rfl, rfl, yes (iteT ⟨_, rfl, _, rfl, _, rfl, (by show 2 ≤ sizeLine; decide), fun u hu => ?_⟩)⟩
        have sU : Same (L2.upd G1 T (.tup [.int (i : Nat), .ref r])) (L2.upd (L2.upd G1 T (.tup [.int (i : Nat), .ref r])) u (.tup [.int p, .int (i : Nat)])) := Same.new (Same.refl _) hu
        have sA := sT.trans sU
        refine ⟨kvs, Sum.inr z, rfl, sA _ _ eD, ?_, kvs ++ [(Sum.inr z, .ref u)], ?_, ?_, ?_⟩
        · rw [we.len, List.length_map, List.length_take]
          exact sz5' (by omega)
        · intro b o e
          rw [upd_ne (ne_of_none e hD)]
          exact sA _ _ (sG _ _ e)
        · rw [upd_same]
          congr 2
          refine putK_new _ (valV_none fun kv hkv e => ?_)
          obtain ⟨j, hj⟩ := List.mem_iff_getElem?.mp hkv
          have jl : j < i := by
            have := (List.getElem?_eq_some_iff.mp hj).1
            rw [we.len, List.length_map, List.length_take] at this
            omega
          have jd : j < ds.length := by omega
          obtain ⟨t, h1, _⟩ := we.at_ j (rowOf ds[j]) (by rw [List.getElem?_map, List.getElem?_take_of_lt jl, List.getElem?_eq_getElem jd]; rfl)
          rw [hj] at h1
          cases h1
          obtain ⟨z2, pb2, e2, _, hp2⟩ := row_is (List.all_eq_true.mp al ds[j] (List.getElem_mem jd))
          have en : (ds.map nmOf)[j]? = (ds.map nmOf)[i]? := by
            rw [List.getElem?_map, List.getElem?_map, hdi, List.getElem?_eq_getElem jd, e2]
            rw [e2] at e
            obtain ⟨p2, rfl⟩ : ∃ p, pb2 = .int p := by
              cases pb2 <;> first | exact ⟨_, rfl⟩ | cases hp2
            exact congrArg some (Sum.inr.inj e)
          have := (List.getElem?_inj (by rw [List.length_map]; exact jd) nd').mp en
          omega
        · have et : (ds.take (i + 1)).map rowOf = (ds.take i).map rowOf ++ [(z, p)] := take_map rowOf hdi
          have li : ((ds.take i).map rowOf).length = i := by
            rw [List.length_map, List.length_take]
            omega
          have ki : kvs.length = i := we.len.trans li
          refine ⟨by rw [et, List.length_append, List.length_append, we.len]; rfl, fun j rr e => ?_⟩
          rw [et] at e
          rcases Nat.lt_or_ge j i with jl | jl
          · rw [List.getElem?_append_left (by omega)] at e
            obtain ⟨t, h1, h2⟩ := we.at_ j rr e
            exact ⟨t, by rw [List.getElem?_append_left (by omega)]; exact h1, SqT.upd (sA _ _ eD) (fun _ => nofun) (fun _ _ => nofun) (SqT.same sA h2)⟩
          · rw [List.getElem?_append_right (by omega), li] at e
            obtain rfl : j = i := by
              rcases Nat.lt_or_ge i j with z1 | z1
              · rw [List.getElem?_eq_none (by simp; omega)] at e
                cases e
              · omega
            rw [Nat.sub_self] at e
            cases e
            refine ⟨u, by rw [List.getElem?_append_right (by omega), ki, Nat.sub_self]; rfl, SqT.upd (sA _ _ eD) (fun _ => nofun) (fun _ _ => nofun) (.inl (.inl (upd_same ..)))⟩
      · rintro G' ⟨kvs, sG, eD, we⟩
        rw [show ds.take xs.length = ds from List.take_of_length_le (by omega)] at we
        refine ⟨_, rfl, a, _, dx, _, rfl, sG _ _ (s1 _ _ ha), cl, nb, by decide, ?_⟩
        have na : a ≠ D := fun e => by rw [← e] at hD; rw [s1 _ _ ha] at hD; cases hD
        refine q1 ds es rl _ (Fx.of (s1.trans sG)).upd ⟨dx, D, kvs, upd_same .., (upd_ne (Ne.symm na)).trans eD, we.len, fun i r e => ?_⟩
        obtain ⟨t, h1, h2⟩ := we.at_ i r e
        exact ⟨t, h1, SqT.upd (sG _ _ (s1 _ _ ha)) (fun _ => nofun) (fun _ _ => nofun) h2⟩
end

end TS

namespace TS
open PySem PySem.Spec PyProof.Rows L2 TL

/-! ### names of words, drawn -/
def w12 : List Str := ["put", "take", "ask", "meets", "above", "rule", "shelf", "tree", "f", "g", "c", "n"]
def NamesOk (m : Nat) (ns : List Str) : Prop := ns.length = m ∧ (∀ z ∈ ns, nameS z = true) ∧ ns.Nodup
theorem range_take {α : Type} (f : Nat → α) {m n : Nat} (h : m ≤ n) : (List.range m).map f = ((List.range n).map f).take m := by
  rw [← List.map_take, List.take_range, Nat.min_eq_left h]
theorem nodup_take {α : Type} {l : List α} {m : Nat} (h : l.Nodup) : (l.take m).Nodup := h.sublist (List.take_sublist m l)
theorem nodup_of_map {α β : Type} (g : α → β) {l : List α} (h : (l.map g).Nodup) : l.Nodup := (List.pairwise_map.mp h).imp fun z e => z (congrArg g e)
theorem names0 {f m : Nat} (hf : f < 26) (hm : m ≤ 12) : NamesOk m ((List.range m).map fun k => w12.getD ((f + 5 * k) % 12) "") := by
  have a : ∀ f ∈ List.range 26, ((List.range 12).map fun k => (f + 5 * k) % 12).Nodup := by decide +kernel
  have w : ∀ z ∈ w12, nameS z = true := by decide +kernel
  have wn : w12.Nodup := by decide +kernel
  refine ⟨by simp, fun z hz => ?_, ?_⟩
  · obtain ⟨k, _, rfl⟩ := List.mem_map.mp hz
    have hk : (f + 5 * k) % 12 < w12.length := Nat.mod_lt _ (by decide)
    rw [List.getD_eq_getElem?_getD, List.getElem?_eq_getElem hk]
    exact w _ (List.getElem_mem hk)
  · have e : ((List.range m).map fun k => w12.getD ((f + 5 * k) % 12) "") = ((List.range m).map fun k => (f + 5 * k) % 12).map (fun j => w12.getD j "") := by rw [List.map_map]; rfl
    rw [e]
    have n1 : ((List.range m).map fun k => (f + 5 * k) % 12).Nodup := by
      rw [range_take _ hm]
      exact nodup_take (a f (List.mem_range.mpr hf))
    refine List.pairwise_map.mpr (n1.imp_of_mem fun {i j} hi hj ne e => ne ?_)
    obtain ⟨k1, _, rfl⟩ := List.mem_map.mp hi
    obtain ⟨k2, _, rfl⟩ := List.mem_map.mp hj
    have h1 : (f + 5 * k1) % 12 < w12.length := Nat.mod_lt _ (by decide)
    have h2 : (f + 5 * k2) % 12 < w12.length := Nat.mod_lt _ (by decide)
    rw [List.getD_eq_getElem?_getD, List.getD_eq_getElem?_getD, List.getElem?_eq_getElem h1, List.getElem?_eq_getElem h2] at e
    exact (List.getElem_inj wn).mp e
def Small (l : List Nat) : Prop := ∀ c ∈ l, 97 ≤ c ∧ c ≤ 122
theorem nameS_of {l : List Nat} (h : Small l) (h1 : 1 ≤ l.length) (h2 : l.length ≤ 8) : nameS ⟨l.toArray⟩ = true := by
  unfold nameS
  rw [len_tl, tl_mk, decide_eq_true h1, decide_eq_true h2]
  show smallS _ = true
  unfold smallS
  rw [List.all_eq_true]
  intro c hc
  have := h c hc
  rw [decide_eq_true this.1, decide_eq_true this.2]
  rfl
theorem names1 {st : List Nat} {f m : Nat} (hs : Small st) (h8 : st.length = 8) (hf : f < 26) (hm : m ≤ 8) : NamesOk m ((List.range m).map fun k => ⟨(st.take (1 + (f + 3 * k) % 8)).toArray⟩) := by
  have a : ∀ f ∈ List.range 26, ((List.range 8).map fun k => 1 + (f + 3 * k) % 8).Nodup := by decide +kernel
  refine ⟨by simp, fun z hz => ?_, nodup_of_map (fun z : Str => z.length) ?_⟩
  · obtain ⟨k, _, rfl⟩ := List.mem_map.mp hz
    exact nameS_of (fun c hc => hs c (List.mem_of_mem_take hc)) (by rw [List.length_take]; omega) (by rw [List.length_take]; omega)
  · rw [List.map_map]
    have e : ((List.range m).map ((fun z : Str => z.length) ∘ fun k => ⟨(st.take (1 + (f + 3 * k) % 8)).toArray⟩)) = (List.range m).map fun k => 1 + (f + 3 * k) % 8 := by
      refine List.map_congr_left fun k _ => ?_
      show Str.length _ = _
      rw [len_tl, tl_mk, List.length_take, h8]
      omega
    rw [e, range_take _ hm]
    exact nodup_take (a f (List.mem_range.mpr hf))
theorem names2 {st : List Nat} {f m at_ : Nat} (hs : Small st) (h8 : st.length = 8) (ha : at_ < 8) (hf : f < 26) (hm : m ≤ 12) :
    NamesOk m ((List.range m).map fun k => ⟨(st.take at_ ++ [97 + (f + 7 * k) % 26] ++ (st.drop at_).take (7 - (f + k) % 2 - at_)).toArray⟩) := by
  have a : ∀ f ∈ List.range 26, ((List.range 12).map fun k => 97 + (f + 7 * k) % 26).Nodup := by decide +kernel
  refine ⟨by simp, fun z hz => ?_, nodup_of_map (fun z : Str => (tl z).getD at_ 0) ?_⟩
  · obtain ⟨k, _, rfl⟩ := List.mem_map.mp hz
    refine nameS_of (fun c hc => ?_) (by simp; omega) (by simp only [List.length_append, List.length_take, List.length_drop, List.length_singleton]; omega)
    rcases List.mem_append.mp hc with hc | hc
    · rcases List.mem_append.mp hc with hc | hc
      · exact hs c (List.mem_of_mem_take hc)
      · rw [List.mem_singleton.mp hc]
        omega
    · exact hs c (List.mem_of_mem_drop (List.mem_of_mem_take hc))
  · rw [List.map_map]
    have e : ((List.range m).map ((fun z : Str => (tl z).getD at_ 0) ∘ fun k => ⟨(st.take at_ ++ [97 + (f + 7 * k) % 26] ++ (st.drop at_).take (7 - (f + k) % 2 - at_)).toArray⟩)) = (List.range m).map fun k => 97 + (f + 7 * k) % 26 := by
      refine List.map_congr_left fun k _ => ?_
      show (tl _).getD at_ 0 = _
      have la : (st.take at_).length = at_ := by rw [List.length_take]; omega
      rw [tl_mk, List.append_assoc, List.getD_eq_getElem?_getD, List.getElem?_append_right (by omega), la, Nat.sub_self]
      rfl
    rw [e, range_take _ hm]
    exact nodup_take (a f (List.mem_range.mpr hf))
/-- a list of names that were drawn -/
def spNames : Sp := fun vs H Q _ => ∃ (b : Addr) (n m : Nat), vs = [.ref b, .int m] ∧ m ≤ 12 ∧ (∃ o, H b = some o ∧ Bag (n + 11) o) ∧
  ∀ H' p ns, Dr b n H H' → NamesOk m ns → p ≠ b → H' p = some (.lst (ns.map V.str)) → Q (.ref p) H'

end TS

namespace TS
open PySem PySem.Spec PyProof.Rows L2 TL

theorem strs_of : ∀ {xs : List V}, (∀ v ∈ xs, ∃ c : Nat, v = .str ⟨#[c]⟩ ∧ 97 ≤ c ∧ c ≤ 122) → ∃ st : List Nat, xs = (st.map fun c => V.str ⟨#[c]⟩) ∧ Small st
  | [], _ => ⟨[], rfl, fun c h => by simp at h⟩
  | x :: r, h => by
    obtain ⟨c, rfl, hc⟩ := h x (by simp)
    obtain ⟨st, rfl, hs⟩ := strs_of fun v hv => h v (List.mem_cons_of_mem _ hv)
    refine ⟨c :: st, rfl, fun d hd => ?_⟩
    rcases List.mem_cons.mp hd with e | m
    · rw [e]; exact hc
    · exact hs d m
theorem joinL_signs : ∀ st : List Nat, joinL [] (st.map fun c => [c]) = st
  | [] => rfl
  | [c] => rfl
  | c :: d :: r => by
    show [c] ++ ([] ++ joinL [] ((d :: r).map fun c => [c])) = _
    rw [joinL_signs (d :: r)]
    rfl
theorem join_signs (st : List Nat) : Txt.join "" (st.map fun c => (⟨#[c]⟩ : Str)) = ⟨st.toArray⟩ := by
  rw [join_eq]
  refine ext_tl ?_
  rw [tl_join, List.map_map]
  have e : tl ("" : Str) = [] := by decide +kernel
  rw [e]
  show joinL [] (st.map fun c => [c]) = _
  rw [joinL_signs]
theorem sum_len : ∀ {ws : List Str} {k : Nat}, (∀ z ∈ ws, z.length ≤ k) → (ws.map (·.length)).sum ≤ ws.length * k
  | [], _, _ => by simp
  | w :: r, k, h => by
    have ih := sum_len (ws := r) (k := k) fun z hz => h z (List.mem_cons_of_mem _ hz)
    have := h w (by simp)
    simp only [List.map_cons, List.sum_cons, List.length_cons, Nat.succ_mul]
    omega
theorem andR {b : Bool} {R T : Prop} (h : R) (k : b = true → R → T) : if b = true then T else R := by
  cases b
  · exact iteF h
  · exact iteT (k rfl h)
theorem cut_to {l : List Nat} {k : Nat} (h : k ≤ l.length) : cutS ⟨l.toArray⟩ none (some (k : Int)) = ⟨(l.take k).toArray⟩ := by
  unfold cutS
  have e : (⟨l.toArray⟩ : Str).length = l.length := by rw [len_tl, tl_mk]
  rw [e, HT.sIx_none, HT.sIx_nat, Nat.min_eq_left h, Nat.sub_zero, List.drop_zero]
theorem cut_in {l : List Nat} {j k : Nat} (hj : j ≤ l.length) (hk : k ≤ l.length) : cutS ⟨l.toArray⟩ (some (j : Int)) (some (k : Int)) = ⟨((l.drop j).take (k - j)).toArray⟩ := by
  unfold cutS
  have e : (⟨l.toArray⟩ : Str).length = l.length := by rw [len_tl, tl_mk]
  rw [e, HT.sIx_nat, HT.sIx_nat, Nat.min_eq_left hj, Nat.min_eq_left hk]
theorem str_add (l k : List Nat) : (⟨l.toArray⟩ : Str) ++ (⟨k.toArray⟩ : Str) = ⟨(l ++ k).toArray⟩ := by
  refine ext_tl ?_
  rw [tl_append, tl_mk, tl_mk, tl_mk]
section
variable {P : Program} {w : World} {K : PySem.W.Frag} {mg : Str → Option Value} {base : Heap}
abbrev s__law_names : Stmt := top 41
theorem sc__law_names : FnScope ["_law_box_here", "_law_many", "_law_letters_here", "_law_words", "_law_way", "_law_first", "_law_stem", "_law_at", "_law_found", "_law_k", "_law_sign"] ["_law_box_here", "_law_many"] (defScope s__law_names) := ⟨rfl, rfl, rfl, by decide +kernel, rfl, by decide +kernel, by decide +kernel⟩

set_option maxHeartbeats 1000000 in
theorem ok_names (bt : Bt mg) (p__law_take : Prom P w K mg base 1 "_law_take" ["_law_box_here", "_law_many"] spTake) (D : Def K mg "_law_names" s__law_names) : Prom P w K mg base 2 "_law_names" ["_law_box_here", "_law_many"] spNames := by
  refine prom_mk D sc__law_names (fun vs H Q E h => ?_) (fun _ _ _ _ _ _ us hl => match us, hl with | [_, _], _ => rfl) (fun f cdv A outer s H vs Q E hr h => ?_)
  · obtain ⟨b, n, m, rfl, _⟩ := h
    rfl
  · obtain ⟨b, n, m, rfl, hm, hb, q⟩ := h
    refine ⟨_, (pss_cons (ps_set (i := 2) sc__law_names.nd rfl (Or.inr rfl) pe_str)
      (pss_cons (ps_set (i := 3) sc__law_names.nd rfl (Or.inr rfl) (pe_split pe_str pe_str))
      (pss_cons (ps_set (i := 4) sc__law_names.nd rfl (Or.inl rfl) (pe_pc p__law_take (hr.mono (by decide)) rfl (pa_cons (pv 0) (pa_cons pe_int pa_nil))))
      (pss_cons (ps_set (i := 5) sc__law_names.nd rfl (Or.inr rfl) (pe_pc p__law_take (hr.mono (by decide)) rfl (pa_cons (pv 0) (pa_cons pe_int pa_nil))))
      (pss_cons (ps_if (pt_cmpR op_eq (pv 4) pe_int (nomark _)) (pss_one (ps_ret (pe_lc (own := [("_law_k", 9)]) (g := gName 9) rfl sc__law_names.nd (pi_range1 rfl bt.range_ (pa_cons (pv 1) pa_nil)) (blkOk_by (N := ["_law_box_here", "_law_many", "_law_letters_here", "_law_words", "_law_way", "_law_first", "_law_stem", "_law_at", "_law_found", "_law_k", "_law_sign"]) (sc := defScope s__law_names) (by decide +kernel)) (fun _ _ _ _ _ => (pg_name (i := 9) sc__law_names.nd rfl (Or.inl rfl))) (fun _ _ _ _ _ => pts_nil) (fun _ _ _ _ _ => (pe_ix (ix_listK (K := K)) (pv 3) (pe_op op_mod (pe_op op_add (pv 5) (pe_op op_mul pe_int (pv 9))) pe_int) (fun _ _ => rfl)))))) pss_nil)
      (pss_cons (ps_set (i := 6) sc__law_names.nd rfl (Or.inr rfl) (pe_joinK (K := K) rfl pe_str (pe_lc (own := [("_law_k", 9)]) (g := gName 9) rfl sc__law_names.nd (pi_range1 rfl bt.range_ (pa_cons pe_int pa_nil)) (blkOk_by (N := ["_law_box_here", "_law_many", "_law_letters_here", "_law_words", "_law_way", "_law_first", "_law_stem", "_law_at", "_law_found", "_law_k", "_law_sign"]) (sc := defScope s__law_names) (by decide +kernel)) (fun _ _ _ _ _ => (pg_name (i := 9) sc__law_names.nd rfl (Or.inl rfl))) (fun _ _ _ _ _ => pts_nil) (fun _ _ _ _ _ => (pe_ix ix_str (pv 2) (pe_pc p__law_take (hr.mono (by decide)) rfl (pa_cons (pv 0) (pa_cons pe_int pa_nil))) (fun _ _ => rfl))))))
      (pss_cons (ps_if (PW.pt (pw_and (pt_cmpR op_eq (pv 4) pe_int (nomark _)) (pw_and1 (pt_cmpR op_lt (pv 1) pe_int (nomark _))))) (pss_one (ps_ret (pe_lc (own := [("_law_k", 9)]) (g := gName 9) rfl sc__law_names.nd (pi_range1 rfl bt.range_ (pa_cons (pv 1) pa_nil)) (blkOk_by (N := ["_law_box_here", "_law_many", "_law_letters_here", "_law_words", "_law_way", "_law_first", "_law_stem", "_law_at", "_law_found", "_law_k", "_law_sign"]) (sc := defScope s__law_names) (by decide +kernel)) (fun _ _ _ _ _ => (pg_name (i := 9) sc__law_names.nd rfl (Or.inl rfl))) (fun _ _ _ _ _ => pts_nil) (fun _ _ _ _ _ => (pe_slice sl_str (pv 6) po_none (po_some (pe_op op_add pe_int (pe_op op_mod (pe_op op_add (pv 5) (pe_op op_mul pe_int (pv 9))) pe_int)))))))) pss_nil)
      (pss_cons (ps_set (i := 7) sc__law_names.nd rfl (Or.inl rfl) (pe_pc p__law_take (hr.mono (by decide)) rfl (pa_cons (pv 0) (pa_cons pe_int pa_nil))))
      (pss_cons (ps_set (i := 8) sc__law_names.nd rfl (Or.inl rfl) (pe_lst pa_nil))
      (pss_cons (ps_for PassesOwn.never rfl (pi_range1 rfl bt.range_ (pa_cons (pv 1) pa_nil)) (pg_name (i := 9) sc__law_names.nd rfl (Or.inl rfl)) (pss_cons (ps_set (i := 10) sc__law_names.nd rfl (Or.inl rfl) (pe_ix ix_str (pv 2) (pe_op op_mod (pe_op op_add (pv 5) (pe_op op_mul pe_int (pv 9))) pe_int) (fun _ _ => rfl)))
      (pss_one (ps_expr (pe_appendK (K := K) rfl (pv 8) (pe_op op_add_str (pe_op op_add_str (pe_slice sl_str (pv 6) po_none (po_some (pv 7))) (pv 10)) (pe_slice sl_str (pv 6) (po_some (pv 7)) (po_some (pe_op op_sub pe_int (pe_op op_mod (pe_op op_add (pv 5) (pv 9)) pe_int))))))))))
      (pss_one (ps_ret (pv 8))))))))))))), ?_⟩
    refine ⟨⟨_, rfl⟩, _, _, rfl, rfl, by decide +kernel, by decide +kernel, fun W hW => ?_⟩
    have ew : Txt.split "put take ask meets above rule shelf tree f g c n" " " = w12 := by decide +kernel
    rw [ew]
    have d0 : Dr b (n + 11) H (L2.upd H W (.lst (w12.map V.str))) := (Dr.refl hb).new hW
    have nW := (Dr.refl hb).ne hW
    have eW : (L2.upd H W (.lst (w12.map V.str))) W = some (.lst (w12.map V.str)) := upd_same ..
    generalize L2.upd H W (.lst (w12.map V.str)) = H0 at d0 eW ⊢
    refine ⟨_, rfl, b, _, n + 10, 4, rfl, d0.bag.choose_spec.1, d0.bag.choose_spec.2, by decide, by decide +kernel, fun wy o1 w0 w1 g1 => ?_⟩
    have d1 := Dr.draw (H := H0) (b := b) g1
    generalize L2.upd H0 b o1 = H1 at d1 ⊢
    refine ⟨_, rfl, b, _, n + 9, 26, rfl, d1.bag.choose_spec.1, d1.bag.choose_spec.2, by decide, by decide +kernel, fun fi o2 f0 f1 g2 => ?_⟩
    have d2 := Dr.draw (H := H1) (b := b) g2
    generalize L2.upd H1 b o2 = H2 at d2 ⊢
    obtain ⟨fn, rfl⟩ : ∃ k : Nat, fi = k := ⟨fi.toNat, by omega⟩
    have hfn : fn < 26 := by omega
    have D2 := d0.trans (d1.trans d2)
    have eW2 := (d1.trans d2).at nW eW
    refine ⟨_, rfl, rfl, _, rfl, ite2 (fun c => ?_) (fun c => ?_)⟩
    · refine ⟨_, rfl, _, rfl, by omega, by omega, fun L hL => ?_⟩
      refine lc_sameF walk_range (fun _ _ => trivial) (by omega) hL (fun k => .str (w12.getD ((fn + 5 * k) % 12) "")) (fun _ => rfl) (fun i H3 C hi s3 k => ?_) (fun H3 s3 e3 => ?_)
      · have hk : (fn + 5 * i) % 12 < w12.length := Nat.mod_lt _ (by decide)
        refine ⟨_, rfl, _, rfl, _, rfl, _, _, rfl, rfl, .inl ⟨by decide, by decide⟩, _, _, rfl, rfl, _, _, rfl, rfl, (by show (0 : Int) < 12; decide), W, _, _, _, rfl, rfl, .inl (.inl (s3 _ _ eW2)), ?_, k _ (Same.refl _)⟩
        rw [show ((fn : Int) + 5 * (0 + (i : Int))) % 12 = (((fn + 5 * i) % 12 : Nat) : Int) by omega]
        refine atI_nat ?_
        rw [List.getElem?_map, List.getD_eq_getElem?_getD, List.getElem?_eq_getElem hk]
        rfl
      · rw [Int.toNat_natCast] at e3
        refine q H3 L ((List.range m).map fun k => w12.getD ((fn + 5 * k) % 12) "") ((D2.trans (Dr.same s3 D2.bag)).mono (by omega)) (names0 hfn hm) (D2.ne hL) ?_
        rw [e3, List.map_map]
        rfl
    · refine ⟨⟨_, rfl⟩, _, rfl, by decide, by decide, fun L hL => ?_⟩
      refine lc_draw (k := 1) (N := n + 1) walk_range (fun _ _ v => ∃ c : Nat, v = .str ⟨#[c]⟩ ∧ 97 ≤ c ∧ c ≤ 122) (fun _ _ _ _ _ h => h) (fun _ _ => trivial) (by decide) hL D2.bag (fun _ => rfl) (fun i k H3 C hi fx hb3 hD3 kk => ?_) (fun H3 xs d3 hl hx e3 neL => ?_)
      · refine ⟨_, rfl, _, rfl, b, _, k, 26, rfl, hb3.choose_spec.1, hb3.choose_spec.2, by decide, by decide +kernel, fun c o3 c0 c1 g3 => ?_⟩
        have d3 := Dr.draw (H := H3) (b := b) g3
        generalize L2.upd H3 b o3 = H4 at d3 ⊢
        have cc : (SMALLs.cps.toList)[c.toNat]? = some (97 + c.toNat) := (by decide +kernel : ∀ j ∈ List.range 26, (SMALLs.cps.toList)[j]? = some (97 + j)) _ (List.mem_range.mpr (by omega))
        have at_ := atI_nat cc
        rw [show ((c.toNat : Nat) : Int) = c by omega] at at_
        exact ⟨_, _, _, rfl, rfl, by decide +kernel, at_, kk _ H4 ⟨_, rfl, by omega, by omega⟩ d3⟩
      · have stx : ∃ st : List Nat, xs = (st.map fun c => V.str ⟨#[c]⟩) ∧ Small st := by
          refine strs_of fun v hv => ?_
          obtain ⟨i, hi⟩ := List.mem_iff_getElem?.mp hv
          obtain ⟨c, e, h⟩ := hx i v hi
          exact ⟨c, e, h⟩
        obtain ⟨st, rfl, hst⟩ := stx
        have h8 : st.length = 8 := by rw [List.length_map] at hl; exact hl
        have ej : Txt.join "" (st.map fun c => (⟨#[c]⟩ : Str)) = ⟨st.toArray⟩ := join_signs st
        refine ⟨_, L, st.map fun c => ⟨#[c]⟩, rfl, rfl, .inl (.inl (.inl (by rw [e3, List.map_map]; rfl))), ?_, ?_⟩
        · have : ((st.map fun c => (⟨#[c]⟩ : Str)).map (·.length)).sum ≤ (st.map fun c => (⟨#[c]⟩ : Str)).length * 1 := sum_len fun z hz => by
            obtain ⟨c, _, rfl⟩ := List.mem_map.mp hz
            exact Nat.le_refl 1
          have e0 : ("" : Str).length = 0 := by decide +kernel
          rw [e0]
          rw [List.length_map] at this
          omega
        · rw [ej]
          have D3 := D2.trans d3
          by_cases hh : wy = 1 ∧ m < 9
          · refine ⟨_, rfl, rfl, _, rfl, iteT' (by rw [eqV_int]; exact decide_eq_true hh.1) ⟨_, rfl, _, _, rfl, rfl, _, rfl, iteT' (decide_eq_true (by omega)) ?_⟩⟩
            refine ⟨_, rfl, _, rfl, by omega, by omega, fun L2 hL2 => ?_⟩
            refine lc_sameF walk_range (fun _ _ => trivial) (by omega) hL2 (fun k => .str ⟨(st.take (1 + (fn + 3 * k) % 8)).toArray⟩) (fun _ => rfl) (fun i H4 C hi s4 k => ?_) (fun H4 s4 e4 => ?_)
            · refine ⟨_, rfl, _, rfl, _, rfl, _, _, rfl, rfl, .inl ⟨by decide, by decide⟩, _, _, rfl, rfl, _, _, rfl, rfl, (by show (0 : Int) < 8; decide), _, _, rfl, rfl, _, rfl, _, rfl, ?_, ?_⟩
              · rw [len_tl, tl_mk, h8]; decide
              · rw [show (1 : Int) + ((fn : Int) + 3 * (0 + (i : Int))) % 8 = ((1 + (fn + 3 * i) % 8 : Nat) : Int) by omega, cut_to (by rw [h8]; omega)]
                exact k _ (Same.refl _)
            · rw [Int.toNat_natCast] at e4
              refine q H4 L2 ((List.range m).map fun k => ⟨(st.take (1 + (fn + 3 * k) % 8)).toArray⟩) ((D3.trans (Dr.same s4 D3.bag)).mono (by omega)) (names1 hst h8 hfn (by omega)) (D3.ne hL2) ?_
              rw [e4, List.map_map]
              rfl
          · refine ⟨_, rfl, rfl, _, rfl, andR ?_ fun c1 r => ⟨_, rfl, _, _, rfl, rfl, _, rfl, iteF' (decide_eq_false fun z => hh ⟨?_, by omega⟩) r⟩⟩
            · refine ⟨_, rfl, b, _, n, 8, rfl, D3.bag.choose_spec.1, D3.bag.choose_spec.2, by decide, by decide +kernel, fun at_ o4 a0 a1 g4 => ?_⟩
              have d4 := Dr.draw (H := H3) (b := b) g4
              generalize L2.upd H3 b o4 = H4 at d4 ⊢
              obtain ⟨an, rfl⟩ : ∃ k : Nat, at_ = k := ⟨at_.toNat, by omega⟩
              have D4 := D3.trans d4
              refine ⟨(by show 0 ≤ sizeLine; decide), fun F hF => ?_⟩
              have nF := D4.ne hF
              refine ⟨_, rfl, _, rfl, by omega, by omega, for_it walk_range (fun i τ G => (∃ y1 y2, τ = [some (.ref b), some (.int m), some (.str SMALLs), some (.ref W), some (.int wy), some (.int fn), some (.str ⟨st.toArray⟩), some (.int an), some (.ref F), y1, y2]) ∧
                Dr b n H4 G ∧ G F = some (.lst ((List.range i).map fun k => V.str ⟨(st.take an ++ [97 + (fn + 7 * k) % 26] ++ (st.drop an).take (7 - (fn + k) % 2 - an)).toArray⟩))) ⟨⟨_, _, rfl⟩, .same (Same.new (Same.refl _) hF) d4.bag, upd_same ..⟩ (fun _ _ _ _ _ => trivial) ?_ ?_⟩
              · rintro i x τ G1 G2 hi ⟨⟨y1, y2, rfl⟩, dG, eF⟩ ⟨rfl, rfl⟩
                have cc : (SMALLs.cps.toList)[(fn + 7 * i) % 26]? = some (97 + (fn + 7 * i) % 26) := (by decide +kernel : ∀ j ∈ List.range 26, (SMALLs.cps.toList)[j]? = some (97 + j)) _ (List.mem_range.mpr (by omega))
                have at_ := atI_nat cc
                rw [show (((fn + 7 * i) % 26 : Nat) : Int) = ((fn : Int) + 7 * (0 + (i : Int))) % 26 by omega] at at_
                refine ⟨_, rfl, _, rfl, _, rfl, _, _, rfl, rfl, .inl ⟨by decide, by decide⟩, _, _, rfl, rfl, _, _, rfl, rfl, (by show (0 : Int) < 26; decide), _, _, _, rfl, rfl, by decide +kernel, at_, ?_⟩
                have l8 : (⟨st.toArray⟩ : Str).length = 8 := by rw [len_tl, tl_mk, h8]
                refine ⟨_, rfl, .inl ⟨rfl, _, .inl (.inl eF)⟩, _, rfl, _, rfl, _, rfl, _, rfl, (by rw [l8]; decide), _, rfl, _, _, rfl, rfl, ?_, _, rfl, _, rfl, _, rfl, _, rfl, _, rfl, _, _, rfl, rfl, _, _, rfl, rfl, (by show (0 : Int) < 2; decide), _, _, rfl, rfl, _, rfl, _, rfl, (by rw [l8]; decide), _, _, rfl, rfl, ?_, ?_⟩
                · rw [cut_to (by rw [h8]; omega), len_tl, tl_mk]
                  refine sz5 ?_
                  have : (⟨#[97 + (fn + 7 * i) % 26]⟩ : Str).length = 1 := rfl
                  rw [this, List.length_take]
                  omega
                · rw [cut_to (by rw [h8]; omega), show (7 : Int) - ((fn : Int) + (0 + (i : Int))) % 2 = ((7 - (fn + i) % 2 : Nat) : Int) by omega, cut_in (by rw [h8]; omega) (by rw [h8]; omega), show (⟨#[97 + (fn + 7 * i) % 26]⟩ : Str) = ⟨[97 + (fn + 7 * i) % 26].toArray⟩ from rfl, str_add, len_tl, len_tl, tl_mk, tl_mk]
                  refine sz5 ?_
                  simp only [List.length_append, List.length_take, List.length_drop, List.length_singleton]
                  omega
                · rw [cut_to (by rw [h8]; omega), show (7 : Int) - ((fn : Int) + (0 + (i : Int))) % 2 = ((7 - (fn + i) % 2 : Nat) : Int) by omega, cut_in (by rw [h8]; omega) (by rw [h8]; omega), show (⟨#[97 + (fn + 7 * i) % 26]⟩ : Str) = ⟨[97 + (fn + 7 * i) % 26].toArray⟩ from rfl, str_add, str_add]
                  refine ⟨F, _, _, rfl, rfl, eF, ?_, ⟨_, _, rfl⟩, ?_, ?_⟩
                  · rw [List.length_map, List.length_range]
                    exact sz5' (by omega)
                  · refine ⟨fun a o ha e => ?_, ?_⟩
                    · rw [upd_ne (ne_of_none e hF)]
                      exact dG.fx a o ha e
                    · obtain ⟨o, e, g⟩ := dG.bag
                      exact ⟨o, by rw [upd_ne nF.symm]; exact e, g⟩
                  · rw [upd_same, List.range_succ, List.map_append]
                    rfl
              · rintro τ G ⟨⟨y1, y2, rfl⟩, dG, eF⟩
                rw [Int.toNat_natCast] at eF
                refine ⟨_, rfl, q G F ((List.range m).map fun k => ⟨(st.take an ++ [97 + (fn + 7 * k) % 26] ++ (st.drop an).take (7 - (fn + k) % 2 - an)).toArray⟩) (D4.trans dG) (names2 hst h8 (by omega) hfn hm) nF ?_⟩
                rw [eF, List.map_map]
                rfl
            · rw [eqV_int] at c1
              exact of_decide_eq_true c1
end

end TS

namespace TS
open PySem PySem.Spec PyProof.Rows L2 TL

/-! ### rows, drawn -/
def rowPy (r : Str × Int) : PyData := .tuple [.str r.1, .int r.2]
structure RowsOk (rows : List (Str × Int)) : Prop where
  some_ : 1 ≤ rows.length
  few : rows.length ≤ 12
  names : ∀ r ∈ rows, nameS r.1 = true
  nd : (rows.map (·.1)).Nodup
  lo : ∀ r ∈ rows, 0 ≤ r.2
  hi : ∀ r ∈ rows, r.2 ≤ 4
/-- rows that were drawn -/
def spDRows (K : PySem.W.Frag) : Sp := fun vs H Q _ => ∃ (b : Addr) (n : Nat), vs = [.ref b] ∧ (∃ o, H b = some o ∧ Bag (n + 26) o) ∧
  ∀ H' p rows, Dr b n H H' → RowsOk rows → H p = none → Dt K (hide H' b) (.ref p) (.list (rows.map rowPy)) → Q (.ref p) H'
theorem rows_of {K : PySem.W.Frag} {G : Hp} : ∀ (ns : List Str) (xs : List V), xs.length = ns.length → (∀ (i : Nat) (v : V), xs[i]? = some v → ∃ p : Int, 0 ≤ p ∧ p ≤ 4 ∧ Dt K G v (rowPy (ns.getD i "", p))) →
    ∃ rows : List (Str × Int), rows.map (·.1) = ns ∧ (∀ r ∈ rows, 0 ≤ r.2 ∧ r.2 ≤ 4) ∧ DtAll K G xs (rows.map rowPy)
  | [], [], _, _ => ⟨[], rfl, fun r h => by simp at h, .nil⟩
  | z :: ns, x :: xs, hl, h => by
    obtain ⟨p, h0, h1, h2⟩ := h 0 x rfl
    obtain ⟨rows, e, a, d⟩ := rows_of (K := K) (G := G) ns xs (by simpa using hl) fun i v hv => h (i + 1) v (by simpa using hv)
    refine ⟨(z, p) :: rows, by rw [List.map_cons, e], fun r hr => ?_, .cons h2 d⟩
    rcases List.mem_cons.mp hr with e | m
    · rw [e]; exact ⟨h0, h1⟩
    · exact a r m
section
variable {P : Program} {w : World} {K : PySem.W.Frag} {mg : Str → Option Value} {base : Heap}
abbrev s__law_rows : Stmt := top 42
theorem sc__law_rows : FnScope ["_law_box_here", "_law_many", "_law_name"] ["_law_box_here"] (defScope s__law_rows) := ⟨rfl, rfl, rfl, by decide +kernel, rfl, by decide +kernel, by decide +kernel⟩

set_option maxHeartbeats 1000000 in
theorem ok_drows (bt : Bt mg) (p__law_take : Prom P w K mg base 1 "_law_take" ["_law_box_here", "_law_many"] spTake) (p__law_names : Prom P w K mg base 2 "_law_names" ["_law_box_here", "_law_many"] spNames) (D : Def K mg "_law_rows" s__law_rows) :
    Prom P w K mg base 3 "_law_rows" ["_law_box_here"] (spDRows K) := by
  refine prom_mk D sc__law_rows (fun vs H Q E h => ?_) (fun _ _ _ _ _ _ us hl => match us, hl with | [_], _ => rfl) (fun f cdv A outer s H vs Q E hr h => ?_)
  · obtain ⟨b, n, rfl, _⟩ := h
    rfl
  · obtain ⟨b, n, rfl, hb, q⟩ := h
    refine ⟨_, (pss_cons (ps_set (i := 1) sc__law_rows.nd rfl (Or.inl rfl) (pe_ix (ix_listK (K := K)) (pe_lst (pa_cons (pe_op op_add pe_int (pe_pc p__law_take (hr.mono (by decide)) rfl (pa_cons (pv 0) (pa_cons pe_int pa_nil)))) (pa_cons (pe_op op_add pe_int (pe_pc p__law_take (hr.mono (by decide)) rfl (pa_cons (pv 0) (pa_cons pe_int pa_nil)))) pa_nil))) (pe_pc p__law_take (hr.mono (by decide)) rfl (pa_cons (pv 0) (pa_cons pe_int pa_nil))) (fun _ _ => rfl)))
      (pss_one (ps_ret (pe_lc (own := [("_law_name", 2)]) (g := gName 2) rfl sc__law_rows.nd (pi_listK (K := K) rfl (pe_pc p__law_names (hr.mono (by decide)) rfl (pa_cons (pv 0) (pa_cons (pv 1) pa_nil)))) (blkOk_by (N := ["_law_box_here", "_law_many", "_law_name"]) (sc := defScope s__law_rows) (by decide +kernel)) (fun _ _ _ _ _ => (pg_name (i := 2) sc__law_rows.nd rfl (Or.inl rfl))) (fun _ _ _ _ _ => pts_nil) (fun _ _ _ _ _ => (pe_tup (pa_cons (pv 2) (pa_cons (pe_ix (ix_listK (K := K)) (pe_lst (pa_cons pe_int (pa_cons pe_int (pa_cons pe_int (pa_cons pe_int (pa_cons pe_int (pa_cons pe_int pa_nil))))))) (pe_pc p__law_take (hr.mono (by decide)) rfl (pa_cons (pv 0) (pa_cons pe_int pa_nil))) (fun _ _ => rfl)) pa_nil)))))))), ?_⟩
    refine ⟨_, rfl, b, _, n + 25, 4, rfl, hb.choose_spec.1, hb.choose_spec.2, by decide, by decide +kernel, fun x1 o1 l1 u1 g1 => ?_⟩
    have d1 := Dr.draw (H := H) (b := b) g1
    generalize L2.upd H b o1 = H1 at d1 ⊢
    refine ⟨_, _, rfl, rfl, _, rfl, b, _, n + 24, 12, rfl, d1.bag.choose_spec.1, d1.bag.choose_spec.2, by decide, by decide +kernel, fun x2 o2 l2 u2 g2 => ?_⟩
    have d2 := Dr.draw (H := H1) (b := b) g2
    generalize L2.upd H1 b o2 = H2 at d2 ⊢
    refine ⟨_, _, rfl, rfl, (by show 2 ≤ sizeLine; decide), fun L hL => ?_⟩
    have d3 : Dr b (n + 24) H2 (L2.upd H2 L (.lst [.int (1 + x1), .int (1 + x2)])) := (Dr.refl d2.bag).new hL
    have nL := d2.ne hL
    have eL : (L2.upd H2 L (.lst [.int (1 + x1), .int (1 + x2)])) L = some (.lst [.int (1 + x1), .int (1 + x2)]) := upd_same ..
    generalize L2.upd H2 L (.lst [.int (1 + x1), .int (1 + x2)]) = H3 at d3 eL ⊢
    refine ⟨_, rfl, b, _, n + 23, 2, rfl, d3.bag.choose_spec.1, d3.bag.choose_spec.2, by decide, by decide +kernel, fun x3 o3 l3 u3 g3 => ?_⟩
    have d4 := Dr.draw (H := H3) (b := b) g3
    generalize L2.upd H3 b o3 = H4 at d4 ⊢
    obtain ⟨mv, hmv, hmem⟩ := atI_in (xs := [V.int (1 + x1), .int (1 + x2)]) l3 u3
    obtain ⟨m, rfl, hm1, hm2⟩ : ∃ m : Nat, mv = .int m ∧ 1 ≤ m ∧ m ≤ 12 := by
      rcases List.mem_cons.mp hmem with rfl | hmem
      · exact ⟨(1 + x1).toNat, by rw [show (((1 + x1).toNat : Nat) : Int) = 1 + x1 by omega], by omega, by omega⟩
      · rw [List.mem_singleton.mp hmem]
        exact ⟨(1 + x2).toNat, by rw [show (((1 + x2).toNat : Nat) : Int) = 1 + x2 by omega], by omega, by omega⟩
    refine ⟨L, _, _, _, rfl, rfl, .inl (.inl (d4.at nL eL)), hmv, ?_⟩
    have D4 := d1.trans (d2.trans (d3.trans d4))
    refine ⟨_, rfl, _, rfl, b, n + 12, m, rfl, hm2, D4.bag, fun H5 p ns d5 hns np ep => ?_⟩
    have D5 := D4.trans d5
    refine ⟨p, rfl, ⟨_, .inl (.inl ep)⟩, fun R hR => ?_⟩
    have hl : (ns.map V.str).length = m := by rw [List.length_map]; exact hns.1
    refine lc_draw (k := 1) (N := n + 12 - m) (walk_at walk_list) (fun i G v => ∃ p : Int, 0 ≤ p ∧ p ≤ 4 ∧ Dt K G v (rowPy (ns.getD i "", p))) (fun i G G' v s h => let ⟨p, h0, h1, h2⟩ := h; ⟨p, h0, h1, Dt.same s h2⟩)
      (fun G fx => fx.sq np (.inl (.inl ep))) (by rw [hl]; omega) hR (by rw [hl, show n + 12 - m + 1 * m = n + 12 by omega]; exact D5.bag) (fun _ => rfl) (fun i k G C hi fx hb3 hD3 kk => ?_) (fun G xs dG hlx hx eR neR => ?_)
    · have hni : i < ns.length := by rw [List.length_map] at hl hi; omega
      have ei : (ns.map V.str).getD i .non = .str (ns.getD i "") := by
        rw [List.getD_eq_getElem?_getD, List.getD_eq_getElem?_getD, List.getElem?_map, List.getElem?_eq_getElem hni]
        rfl
      rw [ei]
      refine ⟨_, rfl, (by show 6 ≤ sizeLine; decide), fun pl hpl => ?_⟩
      have e1 : Dr b (k + 1) G (L2.upd G pl (.lst [.int 0, .int 1, .int 2, .int 2, .int 3, .int 4])) := (Dr.refl hb3).new hpl
      have npl := (Dr.refl hb3).ne hpl
      have epl : (L2.upd G pl (.lst [.int 0, .int 1, .int 2, .int 2, .int 3, .int 4])) pl = some (.lst [.int 0, .int 1, .int 2, .int 2, .int 3, .int 4]) := upd_same ..
      generalize L2.upd G pl (.lst [.int 0, .int 1, .int 2, .int 2, .int 3, .int 4]) = G1 at e1 epl ⊢
      refine ⟨_, rfl, b, _, k, 6, rfl, e1.bag.choose_spec.1, e1.bag.choose_spec.2, by decide, by decide +kernel, fun x o4 x0 x1 g4 => ?_⟩
      have e2 := Dr.draw (H := G1) (b := b) g4
      generalize L2.upd G1 b o4 = G2 at e2 ⊢
      obtain ⟨v, hv, hvm⟩ := atI_in (xs := [V.int 0, .int 1, .int 2, .int 2, .int 3, .int 4]) x0 x1
      obtain ⟨pp, rfl, p0, p4⟩ : ∃ pp : Int, v = .int pp ∧ 0 ≤ pp ∧ pp ≤ 4 := by
        simp only [List.mem_cons, List.not_mem_nil, or_false] at hvm
        rcases hvm with rfl | rfl | rfl | rfl | rfl | rfl <;> exact ⟨_, rfl, by decide, by decide⟩
      refine ⟨pl, _, _, _, rfl, rfl, .inl (.inl (e2.at npl epl)), hv, (by show 2 ≤ sizeLine; decide), fun t ht => ?_⟩
      have E2 := e1.trans e2
      refine kk _ _ ⟨pp, p0, p4, .tup (.inl (.inl (hide2_at (E2.ne ht) ?_ (upd_same ..)))) (.cons (.str _) (.cons (.int pp) .nil))⟩ (E2.new ht)
      obtain ⟨oR, eoR⟩ := hD3
      have neR : R ≠ b := D5.ne hR
      have := E2.at neR eoR
      exact fun z => by rw [z, this] at ht; cases ht
    · obtain ⟨rows, er, e1, e2⟩ := rows_of (K := K) (G := hide G b) ns xs (by rw [hlx, List.length_map]) fun i v hv => by
        obtain ⟨p, h0, h1, h2⟩ := hx i v hv
        exact ⟨p, h0, h1, Dt.same hide_same h2⟩
      have len : rows.length = m := by rw [← hns.1, ← er, List.length_map]
      refine q G R rows ((D5.trans dG).mono (by omega)) ⟨by omega, by omega, fun r hr => hns.2.1 _ (by rw [← er]; exact List.mem_map_of_mem hr), by rw [er]; exact hns.2.2, fun r hr => (e1 r hr).1, fun r hr => (e1 r hr).2⟩ (D5.free hR) (.lst (.inl (.inl ?_)) e2)
      rw [hide_ne neR]
      exact eR
end

end TS

namespace TS
open PySem PySem.Spec PyProof.Rows L2 TL

/-! ### numbers and letters -/
def digit (c : Nat) : Bool := decide (48 ≤ c) && decide (c ≤ 57)
theorem in_figures (c : Nat) : decide (c ∈ ("0123456789" : Str).cps.toList) = digit c := by
  have e : ("0123456789" : Str).cps.toList = (List.range 10).map (· + 48) := by decide +kernel
  rw [e]
  unfold digit
  by_cases h : 48 ≤ c ∧ c ≤ 57
  · rw [decide_eq_true h.1, decide_eq_true h.2]
    exact decide_eq_true (List.mem_map.mpr ⟨c - 48, List.mem_range.mpr (by omega), by omega⟩)
  · have n : c ∉ (List.range 10).map (· + 48) := fun m => by
      obtain ⟨k, hk, rfl⟩ := List.mem_map.mp m
      have := List.mem_range.mp hk
      omega
    rw [decide_eq_false n]
    by_cases h1 : 48 ≤ c
    · rw [decide_eq_true h1, decide_eq_false (fun h2 => h ⟨h1, h2⟩)]; rfl
    · rw [decide_eq_false h1]; rfl
/-- plainly written -/
def plainL (l : List Nat) : Bool := (decide (1 ≤ l.length) && decide (l.length ≤ 30)) && (l.all digit && !(decide (l.head? = some 48) && !decide (l = [48])))
def numR (lo hi : Int) : PyData → V
  | .str z => if plainL (tl z) && (decide (lo ≤ (NumText.digitsVal (tl z) : Nat)) && decide (((NumText.digitsVal (tl z) : Nat) : Int) ≤ hi)) then .int (NumText.digitsVal (tl z) : Nat) else .non
  | _ => .non
def spNumIn (K : PySem.W.Frag) : Sp := fun vs H Q _ => ∃ (x : V) (d : PyData) (lo hi : Int), vs = [x, .int lo, .int hi] ∧ Dt K H x d ∧ (∀ z, d = .str z → z.length ≤ 100000) ∧ ∀ H', Same H H' → Q (numR lo hi d) H'
section
variable {P : Program} {w : World} {K : PySem.W.Frag} {mg : Str → Option Value} {base : Heap}
abbrev s_number_in : Stmt := top 21
theorem sc_number_in : FnScope ["thing", "low", "high", "number", "sign"] ["thing", "low", "high"] (defScope s_number_in) := ⟨rfl, rfl, rfl, by decide +kernel, rfl, by decide +kernel, by decide +kernel⟩

theorem ok_number_in (bt : Bt mg) (k_MOST_FIGURES : ∃ t, mg "MOST_FIGURES" = some (.int 30 t)) (k_FIGURES : ∃ t, mg "FIGURES" = some (.str "0123456789" t)) (D : DefK K mg "number_in" s_number_in [("low", .int 0), ("high", .int 9999)]) :
    PromK P w K mg base 1 "number_in" ["thing", "low", "high"] (spNumIn K) 1 ["high"] (fun vs zs => vs ++ ([V.int 0] ++ zs)) := by
  obtain ⟨t_MOST_FIGURES, c_MOST_FIGURES⟩ := k_MOST_FIGURES
  obtain ⟨t_FIGURES, c_FIGURES⟩ := k_FIGURES
  refine promK_mk (n := 1) (ks := ["high"]) D sc_number_in (fun vs H Q E h => ?_) [("low", .int 0)] (fun us mv ws => us ++ (mv ++ ws)) (by decide) (fun q hq => by rw [List.mem_singleton.mp hq]; simp) (fun r1 r2 r3 => r1.append (r2.append r3))
    (fun D doc pm an cdv ct us mv ws l1 l2 l3 => ?_) (fun f cdv A outer s H vs Q E hr h => ?_)
  · obtain ⟨x, d, lo, hi, rfl, _⟩ := h
    rfl
  · match us, l1, mv, l2, ws, l3 with
    | [u], _, [m], _, [v], _ => exact ⟨_, _, _, _, _, _, rfl, rfl, rfl⟩
  · obtain ⟨x, d, lo, hi, rfl, hd, hz, q⟩ := h
    refine ⟨_, (pss_cons (ps_if (PW.pt (pw_or (pt_not (pt_val (pe_callB (id := "isinstance") (isiK (K := K)) (by rfl) bt.isinstance_ (by decide +kernel) (pa_cons (pv 0) (pa_cons (pe_bltn (v := .ty "str") rfl bt.str_ (by decide +kernel) rfl) pa_nil))))) (pw_or1 (pt_not (pt_chain op_le op_le pe_int (pe_callB (id := "len") (lenK (K := K)) (by rfl) bt.len_ (by decide +kernel) (pa_cons (pv 0) pa_nil)) (pe_glob (v := .int 30) rfl c_MOST_FIGURES ⟨_, rfl⟩)))))) (pss_one (ps_ret pe_non)) pss_nil)
      (pss_cons (ps_if (PW.pt (pw_or (pt_not (pt_val (pe_callB (id := "all") (allK (K := K) rfl) (by rfl) bt.all_ (by decide +kernel) (pa_cons (pe_lc (own := [("sign", 4)]) (g := gName 4) rfl sc_number_in.nd (pi_str (pv 0)) (blkOk_by (N := ["thing", "low", "high", "number", "sign"]) (sc := defScope s_number_in) (by decide +kernel)) (fun _ _ _ _ _ => (pg_name (i := 4) sc_number_in.nd rfl (Or.inl rfl))) (fun _ _ _ _ _ => pts_nil) (fun _ _ _ _ _ => (pe_cmpR op_in_sign (pv 4) (pe_glob (v := .str "0123456789") rfl c_FIGURES ⟨_, rfl⟩) rfl))) pa_nil)))) (pw_or1 (PW.pt (pw_and (pt_cmpR op_eq (pe_ix ix_str (pv 0) pe_int (fun _ _ => rfl)) pe_str (nomark _)) (pw_and1 (pt_cmpR op_ne (pv 0) pe_str (nomark _)))))))) (pss_one (ps_ret pe_non)) pss_nil)
      (pss_cons (ps_set (i := 3) sc_number_in.nd rfl (Or.inl rfl) (pe_callTy (T := "int") call_int_str (by rfl) bt.int_ (by decide +kernel) (pa_cons (pv 0) pa_nil)))
      (pss_one (ps_ret (pe_ifExp (pt_chain op_le op_le (pv 1) (pv 3) (pv 2)) (pv 3) pe_non)))))), ?_⟩
    refine ⟨_, rfl, _, _, _, _, isD "str" d, rfl, .ty "str", hd.ty, isi_str, _, rfl, ?_⟩
    cases c : isD "str" d with
    | false =>
      have e : numR lo hi d = .non := by
        cases d <;> first | rfl | (rw [isD_strs] at c; cases c)
      rw [e] at q
      exact iteT (iteT (q _ (Same.refl _)))
    | true =>
      obtain ⟨z, rfl⟩ := isD_str c
      cases hd
      have hz' := hz z rfl
      refine iteF ⟨_, rfl, _, _, rfl, ⟨sz5 hz', rfl⟩, _, _, rfl, rfl, _, rfl, ?_⟩
      have non : plainL (tl z) = false → ∀ G, Same H G → Q .non G := fun e G sG => by
        have e2 : numR lo hi (.str z) = .non := by
          show (if (plainL (tl z) && _) = true then _ else _) = _
          rw [e]
          rfl
        have := q G sG
        rw [e2] at this
        exact this
      have len0 : (tl z).length = z.length := (len_tl z).symm
      by_cases h1 : 1 ≤ z.length
      · rw [decide_eq_true (show (1 : Int) ≤ (z.length : Nat) by omega)]
        refine iteT ⟨_, _, rfl, rfl, _, rfl, ?_⟩
        by_cases h2 : z.length ≤ 30
        · rw [decide_eq_true (show ((z.length : Nat) : Int) ≤ 30 by omega)]
          refine iteF ⟨_, rfl, z, rfl, fun L hL => ?_⟩
          have sL : ∀ o : HO, Same H (L2.upd H L o) := fun o => Same.new (Same.refl _) hL
          refine lc_signs (fun c => V.bl (decide (c ∈ ("0123456789" : Str).cps.toList))) hz' (fun c G C qq => ⟨rfl, _, rfl, c, _, rfl, rfl, qq⟩) ?_ gName_mono
          refine ⟨L, (tl z).map fun c => decide (c ∈ ("0123456789" : Str).cps.toList), rfl, .inl (.inl (by rw [upd_same, List.map_map]; rfl)), _, rfl, ?_⟩
          have e : ((tl z).map fun c => decide (c ∈ ("0123456789" : Str).cps.toList)).all id = (tl z).all digit := by
            rw [List.all_map]
            congr 1
            funext c
            exact in_figures c
          rw [e]
          have sG := sL (.lst ((tl z).map fun c => V.bl (decide (c ∈ ("0123456789" : Str).cps.toList))))
          generalize L2.upd H L _ = G at sG ⊢
          obtain ⟨c0, r0, er⟩ : ∃ c r, tl z = c :: r := by
            cases ez : tl z with
            | nil => rw [ez] at len0; simp at len0; omega
            | cons c r => exact ⟨c, r, rfl⟩
          cases al : (tl z).all digit with
          | false =>
            refine iteT (iteT (non ?_ _ sG))
            unfold plainL
            rw [al, Bool.false_and, Bool.and_false]
          | true =>
            refine iteF ⟨_, rfl, z, _, c0, rfl, rfl, sz5 hz', atI_nat (j := 0) (by show (tl z)[0]? = _; rw [er]; rfl), rfl, _, rfl, ?_⟩
            have dc : decide (V.str ⟨#[c0]⟩ = V.str "0") = decide (c0 = 48) := by
              have h : ("0" : Str) = ⟨#[48]⟩ := by decide +kernel
              rw [h]
              simp
            have dz : decide (V.str z = V.str "0") = decide (tl z = [48]) := by
              have h : ("0" : Str) = ⟨#[48]⟩ := by decide +kernel
              rw [h]
              by_cases hh : tl z = [48]
              · rw [decide_eq_true hh]
                exact decide_eq_true (congrArg V.str (ext_tl hh))
              · rw [decide_eq_false hh]
                exact decide_eq_false fun x => hh (by rw [V.str.inj x])
            have go : plainL (tl z) = true → ∀ C : Prop, True := fun _ _ => trivial
            have pl : plainL (tl z) = !(decide (c0 = 48) && !decide (tl z = [48])) := by
              unfold plainL
              rw [al, len0, decide_eq_true h1, decide_eq_true h2, er]
              simp
            have ci : PySem.intText? z = some ((NumText.digitsVal (tl z) : Nat) : Int) := PySem.intText_digits (by
              intro c hc
              have := List.all_eq_true.mp al c hc
              unfold digit at this
              obtain ⟨x1, x2⟩ := Bool.and_eq_true_iff.mp this
              exact ⟨of_decide_eq_true x1, of_decide_eq_true x2⟩) (by show tl z ≠ []; rw [er]; simp) (by omega)
            rw [dc]
            by_cases h48 : c0 = 48
            · rw [decide_eq_true h48]
              refine iteT ⟨_, rfl, rfl, _, rfl, ?_⟩
              rw [dz]
              by_cases hz0 : tl z = [48]
              · rw [decide_eq_true hz0]
                refine iteF ?_
                have plt : plainL (tl z) = true := by
                  rw [pl]
                  rw [decide_eq_true h48, decide_eq_true hz0]; rfl
                refine ⟨_, rfl, z, _, rfl, ci, by omega, _, rfl, _, rfl, _, _, rfl, rfl, _, rfl, ?_⟩
                have qq : Q (if (decide (lo ≤ ((NumText.digitsVal (tl z) : Nat) : Int)) && decide (((NumText.digitsVal (tl z) : Nat) : Int) ≤ hi)) = true then .int (NumText.digitsVal (tl z) : Nat) else .non) G := by
                  have := q G sG
                  rw [show numR lo hi (.str z) = (if (plainL (tl z) && (decide (lo ≤ ((NumText.digitsVal (tl z) : Nat) : Int)) && decide (((NumText.digitsVal (tl z) : Nat) : Int) ≤ hi))) = true then .int (NumText.digitsVal (tl z) : Nat) else .non) from rfl, plt, Bool.true_and] at this
                  exact this
                by_cases hlo : lo ≤ ((NumText.digitsVal (tl z) : Nat) : Int)
                · rw [decide_eq_true hlo, Bool.true_and] at qq
                  refine iteT' (decide_eq_true hlo) ⟨_, rfl, _, _, rfl, rfl, _, rfl, ?_⟩
                  by_cases hhi : ((NumText.digitsVal (tl z) : Nat) : Int) ≤ hi
                  · rw [decide_eq_true hhi] at qq
                    exact iteT' (decide_eq_true hhi) ⟨_, rfl, qq⟩
                  · rw [decide_eq_false hhi] at qq
                    exact iteF' (decide_eq_false hhi) qq
                · rw [decide_eq_false hlo] at qq
                  exact iteF' (decide_eq_false hlo) ⟨_, rfl, iteF qq⟩
              · rw [decide_eq_false hz0]
                refine iteT (non ?_ _ sG)
                rw [pl, decide_eq_true h48, decide_eq_false hz0]
                rfl
            · rw [decide_eq_false h48]
              refine iteF (iteF ?_)
              have plt : plainL (tl z) = true := by
                rw [pl]
                rw [decide_eq_false h48]; rfl
              refine ⟨_, rfl, z, _, rfl, ci, by omega, _, rfl, _, rfl, _, _, rfl, rfl, _, rfl, ?_⟩
              have qq : Q (if (decide (lo ≤ ((NumText.digitsVal (tl z) : Nat) : Int)) && decide (((NumText.digitsVal (tl z) : Nat) : Int) ≤ hi)) = true then .int (NumText.digitsVal (tl z) : Nat) else .non) G := by
                have := q G sG
                rw [show numR lo hi (.str z) = (if (plainL (tl z) && (decide (lo ≤ ((NumText.digitsVal (tl z) : Nat) : Int)) && decide (((NumText.digitsVal (tl z) : Nat) : Int) ≤ hi))) = true then .int (NumText.digitsVal (tl z) : Nat) else .non) from rfl, plt, Bool.true_and] at this
                exact this
              by_cases hlo : lo ≤ ((NumText.digitsVal (tl z) : Nat) : Int)
              · rw [decide_eq_true hlo, Bool.true_and] at qq
                refine iteT' (decide_eq_true hlo) ⟨_, rfl, _, _, rfl, rfl, _, rfl, ?_⟩
                by_cases hhi : ((NumText.digitsVal (tl z) : Nat) : Int) ≤ hi
                · rw [decide_eq_true hhi] at qq
                  exact iteT' (decide_eq_true hhi) ⟨_, rfl, qq⟩
                · rw [decide_eq_false hhi] at qq
                  exact iteF' (decide_eq_false hhi) qq
              · rw [decide_eq_false hlo] at qq
                exact iteF' (decide_eq_false hlo) ⟨_, rfl, iteF qq⟩
        · rw [decide_eq_false (show ¬ ((z.length : Nat) : Int) ≤ 30 by omega)]
          refine iteT (non ?_ _ (Same.refl _))
          unfold plainL
          rw [len0, decide_eq_false h2, Bool.and_false, Bool.false_and]
      · rw [decide_eq_false (show ¬ (1 : Int) ≤ (z.length : Nat) by omega)]
        refine iteF ⟨_, rfl, iteT (non ?_ _ (Same.refl _))⟩
        unfold plainL
        rw [len0, decide_eq_false h1]
        rfl
def capL (c : Nat) : Bool := decide (65 ≤ c) && decide (c ≤ 90)
theorem in_caps (c : Nat) : decide (c ∈ ("ABCDEFGHIJKLMNOPQRSTUVWXYZ" : Str).cps.toList) = capL c := by
  have e : ("ABCDEFGHIJKLMNOPQRSTUVWXYZ" : Str).cps.toList = (List.range 26).map (· + 65) := by decide +kernel
  rw [e]
  unfold capL
  by_cases h : 65 ≤ c ∧ c ≤ 90
  · rw [decide_eq_true h.1, decide_eq_true h.2]
    exact decide_eq_true (List.mem_map.mpr ⟨c - 65, List.mem_range.mpr (by omega), by omega⟩)
  · have n : c ∉ (List.range 26).map (· + 65) := fun m => by
      obtain ⟨k, hk, rfl⟩ := List.mem_map.mp m
      have := List.mem_range.mp hk
      omega
    rw [decide_eq_false n]
    by_cases h1 : 65 ≤ c
    · rw [decide_eq_true h1, decide_eq_false (fun h2 => h ⟨h1, h2⟩)]; rfl
    · rw [decide_eq_false h1]; rfl
def letterL : List Nat → Bool
  | [] => false
  | c :: r => capL c && (decide (r = []) || (plainL r && decide (NumText.digitsVal r ≤ 99)))
def letterD : PyData → Bool
  | .str z => letterL (tl z)
  | _ => false
def spLetter (K : PySem.W.Frag) : Sp := fun vs H Q _ => ∃ (x : V) (d : PyData), vs = [x] ∧ Dt K H x d ∧ (∀ z, d = .str z → z.length ≤ 100000) ∧ ∀ H', Same H H' → Q (.bl (letterD d)) H'
abbrev s_is_letter : Stmt := top 22
theorem sc_is_letter : FnScope ["thing"] ["thing"] (defScope s_is_letter) := ⟨rfl, rfl, rfl, by decide +kernel, rfl, by decide +kernel, by decide +kernel⟩

theorem ok_is_letter (bt : Bt mg) (k_CAPITALS : ∃ t, mg "CAPITALS" = some (.str "ABCDEFGHIJKLMNOPQRSTUVWXYZ" t)) (k_LAST_LETTER : ∃ t, mg "LAST_LETTER" = some (.int 99 t)) (p_number_in : PromK P w K mg base 1 "number_in" ["thing", "low", "high"] (spNumIn K) 1 ["high"] (fun vs zs => vs ++ ([V.int 0] ++ zs))) (D : Def K mg "is_letter" s_is_letter) :
    Prom P w K mg base 2 "is_letter" ["thing"] (spLetter K) := by
  obtain ⟨t_CAPITALS, c_CAPITALS⟩ := k_CAPITALS
  obtain ⟨t_LAST_LETTER, c_LAST_LETTER⟩ := k_LAST_LETTER
  refine prom_mk D sc_is_letter (fun vs H Q E h => ?_) (fun _ _ _ _ _ _ us hl => match us, hl with | [_], _ => rfl) (fun f cdv A outer s H vs Q E hr h => ?_)
  · obtain ⟨x, d, rfl, _⟩ := h
    rfl
  · obtain ⟨x, d, rfl, hd, hz, q⟩ := h
    refine ⟨_, (pss_cons (ps_if (PW.pt (pw_or (pt_not (pt_val (pe_callB (id := "isinstance") (isiK (K := K)) (by rfl) bt.isinstance_ (by decide +kernel) (pa_cons (pv 0) (pa_cons (pe_bltn (v := .ty "str") rfl bt.str_ (by decide +kernel) rfl) pa_nil))))) (pw_or (pt_cmpR op_eq (pv 0) pe_str (nomark _)) (pw_or1 (pt_cmpR op_notIn_sign (pe_ix ix_str (pv 0) pe_int (fun _ _ => rfl)) (pe_glob (v := .str "ABCDEFGHIJKLMNOPQRSTUVWXYZ") rfl c_CAPITALS ⟨_, rfl⟩) rfl))))) (pss_one (ps_ret pe_bl)) pss_nil)
      (pss_one (ps_ret (pe_or (pe_cmpR op_eq (pe_callB (id := "len") (lenK (K := K)) (by rfl) bt.len_ (by decide +kernel) (pa_cons (pv 0) pa_nil)) pe_int (nomark _)) (pe_one (pe_cmpR op_notN (pe_pcK p_number_in (hr.mono (by decide)) rfl (pa_cons (pe_slice sl_str (pv 0) (po_some pe_int) po_none) pa_nil) (pk_cons (pe_glob (v := .int 99) rfl c_LAST_LETTER ⟨_, rfl⟩) pk_nil)) pe_non (nomark _))))))), ?_⟩
    refine ⟨_, rfl, _, _, _, _, isD "str" d, rfl, .ty "str", hd.ty, isi_str, _, rfl, ?_⟩
    cases c : isD "str" d with
    | false =>
      have e : letterD d = false := by
        cases d <;> first | rfl | (rw [isD_strs] at c; cases c)
      rw [e] at q
      exact iteT (iteT (q _ (Same.refl _)))
    | true =>
      obtain ⟨z, rfl⟩ := isD_str c
      cases hd
      have hz' := hz z rfl
      replace q : ∀ G, Same H G → Q (.bl (letterL (tl z))) G := q
      refine iteF ⟨_, rfl, rfl, _, rfl, ?_⟩
      have len0 : (tl z).length = z.length := (len_tl z).symm
      cases er : tl z with
      | nil =>
        have ez : z = "" := ext_tl (by rw [er]; decide +kernel)
        refine iteT' (by rw [ez]; simp) (iteT ?_)
        have := q H (Same.refl _)
        rw [er] at this
        exact this
      | cons c0 r0 =>
        have nz : ¬ V.str z = V.str "" := fun e => by
          rw [V.str.inj e] at er
          have : tl ("" : Str) = [] := by decide +kernel
          rw [this] at er
          cases er
        refine iteF' (decide_eq_false nz) ⟨_, rfl, z, _, c0, rfl, rfl, sz5 hz', atI_nat (j := 0) (by show (tl z)[0]? = _; rw [er]; rfl), c0, _, rfl, rfl, _, rfl, ?_⟩
        rw [in_caps]
        rw [er] at q
        replace q : ∀ G, Same H G → Q (.bl (capL c0 && (decide (r0 = []) || (plainL r0 && decide (NumText.digitsVal r0 ≤ 99))))) G := q
        cases hc : capL c0 with
        | false =>
          rw [hc] at q
          exact iteT (q _ (Same.refl _))
        | true =>
          rw [hc, Bool.true_and] at q
          refine iteF ⟨_, rfl, _, _, rfl, ⟨sz5 hz', rfl⟩, rfl, _, rfl, ?_⟩
          rw [eqV_int]
          have lz : z.length = r0.length + 1 := by rw [← len0, er]; rfl
          by_cases hr0 : r0 = []
          · rw [decide_eq_true hr0] at q
            refine iteT' (decide_eq_true (by rw [lz, hr0]; rfl)) ?_
            exact q _ (Same.refl _)
          · rw [decide_eq_false hr0, Bool.false_or] at q
            have hl : r0.length ≠ 0 := fun e => hr0 (List.length_eq_zero_iff.mp e)
            refine iteF' (decide_eq_false (by omega)) ?_
            have ec : cutS z (some 1) none = ⟨r0.toArray⟩ := by
              refine ext_tl ?_
              rw [tl_mk]
              show ((tl z).drop (HT.sIx z.length 0 (some ((1 : Nat) : Int)))).take (HT.sIx z.length z.length none - HT.sIx z.length 0 (some ((1 : Nat) : Int))) = r0
              rw [HT.sIx_nat, HT.sIx_none, Nat.min_eq_left (by omega), er]
              show r0.take (z.length - 1) = r0
              exact List.take_of_length_le (by omega)
            refine ⟨_, rfl, _, rfl, z, rfl, sz5 hz', rfl, rfl, _, .str (cutS z (some 1) none), 0, 99, rfl, .str _, fun y e => ?_, fun G sG => ⟨rfl, ?_⟩⟩
            · cases e
              rw [ec, len_tl, tl_mk]
              omega
            · rw [ec]
              have e2 : (!decide (numR 0 99 (.str ⟨r0.toArray⟩) = V.non)) = (plainL r0 && decide (NumText.digitsVal r0 ≤ 99)) := by
                show (!decide ((if (plainL (tl ⟨r0.toArray⟩) && (decide ((0 : Int) ≤ ((NumText.digitsVal (tl ⟨r0.toArray⟩) : Nat) : Int)) && decide (((NumText.digitsVal (tl ⟨r0.toArray⟩) : Nat) : Int) ≤ 99))) = true then V.int (NumText.digitsVal (tl ⟨r0.toArray⟩) : Nat) else V.non) = V.non)) = _
                rw [tl_mk, decide_eq_true (show (0 : Int) ≤ ((NumText.digitsVal r0 : Nat) : Int) by omega), Bool.true_and]
                have e3 : decide (((NumText.digitsVal r0 : Nat) : Int) ≤ 99) = decide (NumText.digitsVal r0 ≤ 99) := by
                  by_cases h : NumText.digitsVal r0 ≤ 99
                  · rw [decide_eq_true h, decide_eq_true (by omega)]
                  · rw [decide_eq_false h, decide_eq_false (by omega)]
                rw [e3]
                cases hp : (plainL r0 && decide (NumText.digitsVal r0 ≤ 99)) with
                | true => rw [if_pos rfl]; simp
                | false => rw [if_neg Bool.false_ne_true]; simp
              rw [e2]
              exact q G sG
end

end TS

namespace TS
open PySem PySem.Spec PyProof.Rows L2 TL

/-! ### Words: has, told_of, places -/
def hasR (rows : List (Str × Int)) : PyData → Bool
  | .str z => decide (z ∈ rows.map (·.1))
  | _ => false
def plR (rows : List (Str × Int)) (z : Str) : Int := ((rows.find? fun r => decide (r.1 = z)).map (·.2)).getD 0
def spHas (K : PySem.W.Frag) : Sp := fun vs H Q _ => ∃ (a : Addr) (rows : List (Str × Int)) (x : V) (d : PyData), vs = [.ref a, x] ∧ WordsAt K H a rows ∧ Dt K H x d ∧ Q (.bl (hasR rows d)) H
def spTold (K : PySem.W.Frag) : Sp := fun vs H Q _ => ∃ (a : Addr) (rows : List (Str × Int)) (z : Str), vs = [.ref a, .str z] ∧ WordsAt K H a rows ∧ z ∈ rows.map (·.1) ∧ ∀ (t : Addr) (i : Nat), SqT K H t [.int (plR rows z), .int i] → Q (.ref t) H
def spPlaces (K : PySem.W.Frag) : Sp := fun vs H Q _ => ∃ (a : Addr) (rows : List (Str × Int)) (z : Str), vs = [.ref a, .str z] ∧ WordsAt K H a rows ∧ z ∈ rows.map (·.1) ∧ Q (.int (plR rows z)) H
theorem went_none {K : PySem.W.Frag} {G : Hp} {kvs : List (Key × V)} {rows : List (Str × Int)} (h : WEnt K G kvs rows) {z : Str} (hz : z ∉ rows.map (·.1)) : valV kvs (Sum.inr z) = none :=
  valV_none fun kv m e => by
    obtain ⟨i, hi⟩ := List.mem_iff_getElem?.mp m
    have il : i < rows.length := by rw [← h.len]; exact (List.getElem?_eq_some_iff.mp hi).1
    obtain ⟨t, h1, _⟩ := h.at_ i rows[i] (List.getElem?_eq_getElem il)
    rw [hi] at h1
    cases h1
    exact hz (by rw [← Sum.inr.inj e]; exact List.mem_map_of_mem (List.getElem_mem il))
theorem went_some {K : PySem.W.Frag} {G : Hp} {kvs : List (Key × V)} {rows : List (Str × Int)} (h : WEnt K G kvs rows) {z : Str} (hz : z ∈ rows.map (·.1)) : ∃ (t : Addr) (i : Nat), valV kvs (Sum.inr z) = some (.ref t) ∧ SqT K G t [.int (plR rows z), .int i] := by
  obtain ⟨r0, hr0, e0⟩ := List.mem_map.mp hz
  cases hf : rows.find? fun r => decide (r.1 = z) with
  | none => exact absurd (List.find?_eq_none.mp hf r0 hr0) (by simp [e0])
  | some r =>
    obtain ⟨hp, i, il, ei, before⟩ := List.find?_eq_some_iff_getElem.mp hf
    obtain ⟨t, h1, h2⟩ := h.at_ i r (by rw [List.getElem?_eq_getElem il, ei])
    have ez : r.1 = z := of_decide_eq_true hp
    refine ⟨t, i, ?_, ?_⟩
    · unfold valV
      have kl : i < kvs.length := by rw [h.len]; exact il
      have hk : kvs.find? (fun kv => decide (kv.1 = (Sum.inr z : Key))) = some (Sum.inr r.1, .ref t) := by
        refine List.find?_eq_some_iff_getElem.mpr ⟨by rw [ez]; simp, i, kl, ?_, fun j hj => ?_⟩
        · rw [List.getElem?_eq_getElem kl] at h1
          exact Option.some.inj h1
        · have jl : j < rows.length := by omega
          obtain ⟨t2, h3, _⟩ := h.at_ j rows[j] (List.getElem?_eq_getElem jl)
          have jk : j < kvs.length := by rw [h.len]; exact jl
          rw [List.getElem?_eq_getElem jk] at h3
          rw [Option.some.inj h3]
          have := before j hj
          simp only [Bool.not_eq_true', decide_eq_false_iff_not] at this ⊢
          exact fun e => this (Sum.inr.inj e)
      rw [hk]
      rfl
    · have : plR rows z = r.2 := by unfold plR; rw [hf]; rfl
      rw [this]
      exact h2
section
variable {P : Program} {w : World} {K : PySem.W.Frag} {mg : Str → Option Value} {base : Heap}
abbrev s_Words_has : Stmt := inClass (top 28) 5
theorem sc_Words_has : FnScope ["self", "thing"] ["self", "thing"] (defScope s_Words_has) := ⟨rfl, rfl, rfl, by decide +kernel, rfl, by decide +kernel, by decide +kernel⟩

theorem ok_Words_has (bt : Bt mg) (cl : Cls K (wcls K)) (nb : NoAttr K (wcls K) "by_name") (D : DefM K (He.ma K (wcls K) "has") "has" "Words.has" s_Words_has) : PromA CX0 P w K mg base 1 (He.ma K (wcls K) "has") ["self", "thing"] (spHas K) := by
  refine meth_mk D sc_Words_has (fun vs H Q E h => ?_) (fun _ _ _ _ _ _ us hl => match us, hl with | [_, _], _ => rfl) (fun cdv A outer s H vs Q E hr h => ?_)
  · obtain ⟨a, rows, x, d, rfl, _⟩ := h
    rfl
  · obtain ⟨a, rows, x, d, rfl, ⟨dx, D, kvs, e1, e2, e3⟩, hd, q⟩ := h
    refine ⟨_, (pss_one (ps_ret (pe_and (pe_callB (id := "isinstance") (isiK (K := K)) (by rfl) bt.isinstance_ (by decide +kernel) (pa_cons (pv 1) (pa_cons (pe_bltn (v := .ty "str") rfl bt.str_ (by decide +kernel) rfl) pa_nil))) (pe_one (pe_cmp (pc_din (units1 hr) (pv 1) (pe_fld (pv 0) rfl))))))), ?_⟩
    refine ⟨_, rfl, _, _, _, _, isD "str" d, rfl, .ty "str", hd.ty, isi_str, _, rfl, ?_⟩
    cases c : isD "str" d with
    | false =>
      have e : hasR rows d = false := by
        cases d <;> first | rfl | (rw [isD_strs] at c; cases c)
      rw [e] at q
      exact iteF q
    | true =>
      obtain ⟨z, rfl⟩ := isD_str c
      cases hd
      refine iteT ⟨_, rfl, _, rfl, a, _, dx, _, _, rfl, e1, cl, nb, rfl, D, _, rfl, DGet.k (k := Sum.inr z) e2, ?_⟩
      have e : (valV kvs (Sum.inr z)).isSome = hasR rows (.str z) := by
        show _ = decide (z ∈ rows.map (·.1))
        by_cases hz : z ∈ rows.map (·.1)
        · obtain ⟨t, i, h1, _⟩ := went_some e3 hz
          rw [h1, decide_eq_true hz]
          rfl
        · rw [went_none e3 hz, decide_eq_false hz]
          rfl
      rw [e]
      exact q
abbrev s_Words_told_of : Stmt := inClass (top 28) 2
theorem sc_Words_told_of : FnScope ["self", "name"] ["self", "name"] (defScope s_Words_told_of) := ⟨rfl, rfl, rfl, by decide +kernel, rfl, by decide +kernel, by decide +kernel⟩

theorem ok_Words_told (bt : Bt mg) (cl : Cls K (wcls K)) (nb : NoAttr K (wcls K) "by_name") (D : DefM K (He.ma K (wcls K) "told_of") "told_of" "Words.told_of" s_Words_told_of) : PromA CX0 P w K mg base 1 (He.ma K (wcls K) "told_of") ["self", "name"] (spTold K) := by
  refine meth_mk D sc_Words_told_of (fun vs H Q E h => ?_) (fun _ _ _ _ _ _ us hl => match us, hl with | [_, _], _ => rfl) (fun cdv A outer s H vs Q E hr h => ?_)
  · obtain ⟨a, rows, z, rfl, _⟩ := h
    rfl
  · obtain ⟨a, rows, z, rfl, ⟨dx, D, kvs, e1, e2, e3⟩, hz, q⟩ := h
    obtain ⟨t, i, h1, h2⟩ := went_some e3 hz
    refine ⟨_, (pss_cons (ps_if (PW.pt (pw_or (pt_not (pt_val (pe_callB (id := "isinstance") (isiK (K := K)) (by rfl) bt.isinstance_ (by decide +kernel) (pa_cons (pv 1) (pa_cons (pe_bltn (v := .ty "str") rfl bt.str_ (by decide +kernel) rfl) pa_nil))))) (pw_or1 (pt_cmp (pc_dnotin (units1 hr) (pv 1) (pe_fld (pv 0) rfl)))))) (pss_one ps_never) pss_nil)
      (pss_one (ps_ret (pe_dget (units1 hr) (pe_fld (pv 0) rfl) (pv 1) (fun _ _ => rfl))))), ?_⟩
    refine ⟨_, rfl, _, _, _, _, true, rfl, .ty "str", .base (.str z), kit_ty (by decide +kernel), _, rfl, iteF ⟨_, rfl, _, rfl, a, _, dx, _, _, rfl, e1, cl, nb, rfl, D, _, rfl, DGet.k (k := Sum.inr z) e2, _, rfl, ?_⟩⟩
    rw [h1]
    exact iteF ⟨_, rfl, a, _, dx, _, _, rfl, e1, cl, nb, rfl, _, rfl, D, _, rfl, by rw [← h1]; exact DGet.k (k := Sum.inr z) e2, q t i h2⟩
abbrev s_Words_places : Stmt := inClass (top 28) 3
theorem sc_Words_places : FnScope ["self", "name"] ["self", "name"] (defScope s_Words_places) := ⟨rfl, rfl, rfl, by decide +kernel, rfl, by decide +kernel, by decide +kernel⟩

theorem ok_Words_places (cl_Words : Cls K (wcls K)) (mm_Words_told_of : Meth K (wcls K) "told_of" (He.ma K (wcls K) "told_of")) (p_Words_told_of : PromA CX0 P w K mg base 1 (He.ma K (wcls K) "told_of") ["self", "name"] (spTold K))
    (D : DefM K (He.ma K (wcls K) "places") "places" "Words.places" s_Words_places) : PromA CX0 P w K mg base 2 (He.ma K (wcls K) "places") ["self", "name"] (spPlaces K) := by
  refine meth_mk D sc_Words_places (fun vs H Q E h => ?_) (fun _ _ _ _ _ _ us hl => match us, hl with | [_, _], _ => rfl) (fun cdv A outer s H vs Q E hr h => ?_)
  · obtain ⟨a, rows, z, rfl, _⟩ := h
    rfl
  · obtain ⟨a, rows, z, rfl, wa, hz, q⟩ := h
    obtain ⟨dx, D, kvs, e1, _, _⟩ := id wa
    refine ⟨_, (pss_one (ps_ret (pe_ix (ix_tupK (K := K)) (pe_pm cl_Words mm_Words_told_of p_Words_told_of (hr.mono (by decide)) (pv 0) (pa_cons (pv 1) pa_nil)) pe_int (fun _ _ => rfl)))), ?_⟩
    exact ⟨_, rfl, a, dx, _, rfl, e1, rfl, _, rfl, a, rows, z, rfl, wa, hz, fun t i h2 => ⟨t, _, _, _, rfl, rfl, h2, rfl, q⟩⟩
end

end TS

namespace TS
open PySem PySem.Spec PyProof.Rows L2 TL

/-! ### need_words, are_signs -/
def spNeed (K : PySem.W.Frag) : Sp := fun vs H Q E => ∃ x : V, vs = [x] ∧ ((∃ (a : Addr) (rows : List (Str × Int)), x = .ref a ∧ WordsAt K H a rows ∧ Q .non H) ∨
  ∃ d : PyData, Dt K H x d ∧ ∀ G e, Same H G → H e = none → G e = some (.xd [("found", x)]) → E (.ref (He.ga K "NoWords")) (some e) G)
def isStrD : PyData → Bool
  | .str _ => true
  | _ => false
theorem isStr_eq (d : PyData) : isD "str" d = isStrD d := by
  cases h : isD "str" d with
  | true => obtain ⟨z, rfl⟩ := isD_str h; rfl
  | false => cases d <;> first | rfl | (rw [isD_strs] at h; cases h)
def signsD (most : Int) (d : PyData) : Bool := match seqD d with
  | some ds => decide (1 ≤ ds.length) && decide ((ds.length : Int) ≤ most) && ds.all isStrD
  | none => false
def spAreSigns (K : PySem.W.Frag) : Sp := fun vs H Q _ => ∃ (x : V) (d : PyData) (most : Int), vs = [x, .int most] ∧ Dt K H x d ∧ (∀ ds, seqD d = some ds → ds.length ≤ 20000) ∧ ∀ H', Same H H' → Q (.bl (signsD most d)) H'
section
variable {P : Program} {w : World} {K : PySem.W.Frag} {mg : Str → Option Value} {base : Heap}
abbrev s_need_words : Stmt := top 32
theorem sc_need_words : FnScope ["words"] ["words"] (defScope s_need_words) := ⟨rfl, rfl, rfl, by decide +kernel, rfl, by decide +kernel, by decide +kernel⟩

theorem ok_need_words (bt : Bt mg) (T : IsC K (wcls K)) (g_Words : mg "Words" = some (.ref (He.ga K "Words"))) (g_NoWords : mg "NoWords" = some (.ref (He.ga K "NoWords"))) (x_NoWords : OwnV K (He.ga K "NoWords") "found")
    (pi_NoWords : PromA CX0 P w K mg base 1 (He.ma K (He.ga K "NoWords") "__init__") ["self", "found"] (spIni (He.ga K "NoWords") "found"))
    (D : Def K mg "need_words" s_need_words) : PromX P w K mg base 3 "need_words" ["words"] (spNeed K) := by
  refine promX_mk D sc_need_words (fun vs H Q E h => ?_) (fun _ _ _ _ _ _ us hl => match us, hl with | [_], _ => rfl) (fun f cdv A outer s H vs Q E hr h => ?_)
  · obtain ⟨x, rfl, _⟩ := h
    rfl
  · obtain ⟨x, rfl, h⟩ := h
    refine ⟨_, (pss_one (ps_if (pt_not (pt_val (pe_callB (id := "isinstance") (isiK (K := K)) (by rfl) bt.isinstance_ (by decide +kernel) (pa_cons (pv 0) (pa_cons (pe_glob (v := .ref (He.ga K "Words")) rfl g_Words rfl) pa_nil))))) (pss_one (ps_raise1 x_NoWords pi_NoWords rfl takesF (hr.mono (by decide)) rfl g_NoWords (pv 0))) pss_nil)), ?_⟩
    rcases h with ⟨a, rows, rfl, ⟨dx, D, kvs, e1, _, _⟩, q⟩ | ⟨d, hd, q⟩
    · exact ⟨_, rfl, _, _, _, _, true, rfl, .own _, T.ty e1, T.yes, _, rfl, iteF q⟩
    · refine ⟨_, rfl, _, _, _, _, false, rfl, .own _, hd.ty, T.data d, _, rfl, iteT ⟨_, rfl, fun e he => ?_⟩⟩
      exact q _ e (Same.new (Same.refl _) he) he (upd_same ..)
abbrev s_are_signs : Stmt := top 33
theorem sc_are_signs : FnScope ["thing", "most", "sign"] ["thing", "most"] (defScope s_are_signs) := ⟨rfl, rfl, rfl, by decide +kernel, rfl, by decide +kernel, by decide +kernel⟩

theorem ok_are_signs (bt : Bt mg) (D : Def K mg "are_signs" s_are_signs) : Prom P w K mg base 1 "are_signs" ["thing", "most"] (spAreSigns K) := by
  refine prom_mk D sc_are_signs (fun vs H Q E h => ?_) (fun _ _ _ _ _ _ us hl => match us, hl with | [_, _], _ => rfl) (fun f cdv A outer s H vs Q E hr h => ?_)
  · obtain ⟨x, d, m, rfl, _⟩ := h
    rfl
  · obtain ⟨x, d, most, rfl, hd, hn, q⟩ := h
    refine ⟨_, (pss_cons (ps_if (PW.pt (pw_or (pt_not (pt_val (pe_callB (id := "isinstance") (isiTK (K := K)) (by rfl) bt.isinstance_ (by decide +kernel) (pa_cons (pv 0) (pa_cons (pe_tup (pa_cons (pe_bltn (v := .ty "list") rfl bt.list_ (by decide +kernel) rfl) (pa_cons (pe_bltn (v := .ty "tuple") rfl bt.tuple_ (by decide +kernel) rfl) pa_nil))) pa_nil))))) (pw_or1 (pt_not (pt_chain op_le op_le pe_int (pe_callB (id := "len") (lenK (K := K)) (by rfl) bt.len_ (by decide +kernel) (pa_cons (pv 0) pa_nil)) (pv 1)))))) (pss_one (ps_ret pe_bl)) pss_nil)
      (pss_one (ps_ret (pe_callB (id := "all") (allK (K := K) rfl) (by rfl) bt.all_ (by decide +kernel) (pa_cons (pe_lc (own := [("sign", 2)]) (g := gName 2) rfl sc_are_signs.nd (pi_either (pi_listK (K := K) rfl (pv 0)) (pi_tupK (K := K) rfl (pv 0))) (blkOk_by (N := ["thing", "most", "sign"]) (sc := defScope s_are_signs) (by decide +kernel)) (fun _ _ _ _ _ => (pg_name (i := 2) sc_are_signs.nd rfl (Or.inl rfl))) (fun _ _ _ _ _ => pts_nil) (fun _ _ _ _ _ => (pe_callB (id := "isinstance") (isiK (K := K)) (by rfl) bt.isinstance_ (by decide +kernel) (pa_cons (pv 2) (pa_cons (pe_bltn (v := .ty "str") rfl bt.str_ (by decide +kernel) rfl) pa_nil))))) pa_nil))))), ?_⟩
    refine ⟨_, rfl, (by show 2 ≤ sizeLine; decide), fun T hT => ⟨_, T, [.ty "list", .ty "tuple"], _, _, isD "list" d || isD "tuple" d, rfl, upd_same .., .cons (.ty "list") (.cons (.ty "tuple") .nil), (Dt.same (Same.new (Same.refl _) hT) hd).ty, isi_lt, _, rfl, ?_⟩⟩
    have sT : Same H (L2.upd H T (.tup [.ty "list", .ty "tuple"])) := Same.new (Same.refl _) hT
    generalize L2.upd H T (.tup [.ty "list", .ty "tuple"]) = H0 at sT ⊢
    unfold signsD at q
    cases c : (isD "list" d || isD "tuple" d) with
    | false =>
      rw [seq_nokind c] at q
      exact iteT (iteT (q _ sT))
    | true =>
      obtain ⟨ds, es⟩ := seq_kind c
      rw [es] at q
      obtain ⟨a, xs, rfl, hS, hA⟩ := (Dt.same sT hd).seq es
      have hl := hA.length
      replace q : ∀ G, Same H G → Q (.bl (decide (1 ≤ ds.length) && decide ((ds.length : Int) ≤ most) && ds.all isStrD)) G := q
      have h20 := hn ds es
      refine iteF ⟨_, rfl, _, _, rfl, hS.len, _, _, rfl, rfl, _, rfl, ?_⟩
      by_cases h1 : 1 ≤ ds.length
      · rw [decide_eq_true (show (1 : Int) ≤ (xs.length : Nat) by omega)]
        rw [decide_eq_true h1] at q
        refine iteT ⟨_, rfl, _, _, rfl, rfl, _, rfl, ?_⟩
        by_cases h2 : (ds.length : Int) ≤ most
        · rw [decide_eq_true (show ((xs.length : Nat) : Int) ≤ most by omega)]
          rw [decide_eq_true h2, Bool.and_true, Bool.true_and] at q
          refine iteF (seq_it rfl hS fun J G wk hG L hL => lc_same wk hG (by omega) (Same.refl _) hL (fun i => .bl (isStrD (ds.getD i .none))) (fun _ => rfl) ?_ ?_)
          · intro i x H2 C hx s2 k
            obtain ⟨di, hdi, hx2⟩ := hA.get hx
            have e : ds.getD i .none = di := by rw [List.getD_eq_getElem?_getD, hdi]; rfl
            rw [e, ← isStr_eq] at k
            exact ⟨_, rfl, _, _, _, _, isD "str" di, rfl, .ty "str", (Dt.same s2 hx2).ty, isi_str, k _ (Same.refl _)⟩
          · intro H2 s2 hL2
            refine ⟨L, (List.range xs.length).map fun i => isStrD (ds.getD i .none), rfl, .inl (.inl (by rw [hL2, List.map_map]; rfl)), ?_⟩
            have ea : ((List.range xs.length).map fun i => isStrD (ds.getD i .none)).all id = ds.all isStrD := by
              rw [hl]
              have : (List.range ds.length).map (fun i => isStrD (ds.getD i .none)) = ds.map isStrD := by
                apply List.ext_getElem?
                intro i
                rw [List.getElem?_map, List.getElem?_map]
                rcases Nat.lt_or_ge i ds.length with z | z
                · rw [List.getElem?_range z, List.getElem?_eq_getElem z]
                  simp [List.getD_eq_getElem?_getD, List.getElem?_eq_getElem z]
                · rw [List.getElem?_eq_none (by simpa using z), List.getElem?_eq_none z]
                  rfl
              rw [this, List.all_map]
              rfl
            rw [ea]
            exact q _ (sT.trans s2)
        · rw [decide_eq_false (show ¬ ((xs.length : Nat) : Int) ≤ most by omega)]
          rw [decide_eq_false h2] at q
          exact iteT (q _ sT)
      · rw [decide_eq_false (show ¬ (1 : Int) ≤ (xs.length : Nat) by omega)]
        rw [decide_eq_false h1] at q
        exact iteF ⟨_, rfl, iteT (q _ sT)⟩
end

end TS

namespace TS
open PySem PySem.Spec PyProof.Rows L2 TL

/-! ### places_of -/
def plS (rows : List (Str × Int)) (z : Str) : Option Nat := if letterL (tl z) then some 0 else if z ∈ rows.map (·.1) then some (plR rows z).toNat else none
inductive Out where
  | bad (i : Nat)
  | beyond (i : Nat)
  | unended (k : Nat)
  | ok
/-- what lacks behind the places, or where the first sign beyond the end stands -/
def scan : Nat → Nat → List Nat → Out
  | 0, _, [] => .ok
  | k + 1, _, [] => .unended (k + 1)
  | 0, i, _ :: _ => .beyond i
  | k + 1, i, p :: r => scan (k + p) (i + 1) r
def plN (rows : List (Str × Int)) (z : Str) : Nat := (plS rows z).getD 0
def outS (rows : List (Str × Int)) (zs : List Str) : Out := match zs.findIdx? (fun z => (plS rows z).isNone) with
  | some i => .bad i
  | none => scan 1 0 (zs.map (plN rows))
theorem scan_lacks {rows : List (Str × Int)} : ∀ (zs : List Str) (k i : Nat), (∀ z ∈ zs, (plS rows z).isSome = true) → scan k i (zs.map (plN rows)) = .ok → lacks (plS rows) k zs = some 0
  | [], 0, i, _, _ => rfl
  | [], k + 1, i, _, h => by cases h
  | z :: r, 0, i, _, h => by cases h
  | z :: r, k + 1, i, hz, h => by
    have h1 := hz z (by simp)
    cases hp : plS rows z with
    | none => rw [hp] at h1; cases h1
    | some p =>
      have e : plN rows z = p := by unfold plN; rw [hp]; rfl
      show (plS rows z).bind _ = _
      rw [hp]
      refine scan_lacks r (k + p) (i + 1) (fun y hy => hz y (List.mem_cons_of_mem _ hy)) ?_
      rw [List.map_cons] at h
      rw [← e]
      exact h
theorem out_lacks {rows : List (Str × Int)} {zs : List Str} (h : outS rows zs = .ok) : (∀ z ∈ zs, (plS rows z).isSome = true) ∧ lacks (plS rows) 1 zs = some 0 := by
  unfold outS at h
  split at h
  · cases h
  · rename_i e
    have all : ∀ z ∈ zs, (plS rows z).isSome = true := fun z hz => by
      have := List.findIdx?_eq_none_iff.mp e z hz
      cases hp : plS rows z with
      | none => rw [hp] at this; cases this
      | some p => rfl
    exact ⟨all, scan_lacks zs 1 0 all h⟩
/-- C of the value v is raised -/
def Rs (K : PySem.W.Frag) (H : Hp) (E : XK) (C f : Str) (v : V) : Prop := ∀ G e, Same H G → H e = none → G e = some (.xd [(f, v)]) → E (.ref (He.ga K C)) (some e) G
def outE (K : PySem.W.Frag) (H : Hp) (E : XK) (ok : Prop) : Out → Prop
  | .bad i => Rs K H E "NoSign" "at" (.int i)
  | .beyond i => Rs K H E "Beyond" "at" (.int i)
  | .unended k => Rs K H E "Unended" "many" (.int k)
  | .ok => ok
structure RowsP (rows : List (Str × Int)) : Prop where
  lo : ∀ r ∈ rows, 0 ≤ r.2
  hi : ∀ r ∈ rows, r.2 ≤ 4
theorem plR_in {rows : List (Str × Int)} (h : RowsP rows) (z : Str) : 0 ≤ plR rows z ∧ plR rows z ≤ 4 := by
  unfold plR
  cases hf : rows.find? fun r => decide (r.1 = z) with
  | none => exact ⟨Int.le_refl 0, by decide⟩
  | some r => exact ⟨h.lo r (List.mem_of_find?_eq_some hf), h.hi r (List.mem_of_find?_eq_some hf)⟩
theorem plN_le {rows : List (Str × Int)} (h : RowsP rows) (z : Str) : plN rows z ≤ 4 := by
  unfold plN plS
  have := plR_in h z
  split
  · exact Nat.zero_le _
  · split
    · show (plR rows z).toNat ≤ 4
      omega
    · exact Nat.zero_le _
def spPlOf (K : PySem.W.Frag) : Sp := fun vs H Q E => ∃ (wa sa : Addr) (rows : List (Str × Int)) (zs : List Str), vs = [.ref wa, .ref sa] ∧ WordsAt K H wa rows ∧ RowsP rows ∧ Sq K H sa (zs.map V.str) ∧ zs.length ≤ 20000 ∧ (∀ z ∈ zs, z.length ≤ 100000) ∧
  outE K H E (∀ G p, Same H G → H p = none → G p = some (.lst (zs.map fun z => V.int (plN rows z : Nat))) → Q (.ref p) G) (outS rows zs)
theorem findIdx_at {zs : List Str} {f : Str → Bool} {i : Nat} {z : Str} (hz : zs[i]? = some z) (hf : f z = true) (h : ∀ y ∈ zs.take i, f y = false) : zs.findIdx? f = some i := by
  obtain ⟨hi, e⟩ := List.getElem?_eq_some_iff.mp hz
  refine List.findIdx?_eq_some_iff_getElem.mpr ⟨hi, by rw [e]; exact hf, fun j hj => ?_⟩
  have : zs[j]'(by omega) ∈ zs.take i := by
    have e2 : (zs.take i)[j]? = some (zs[j]'(by omega)) := by rw [List.getElem?_take_of_lt hj, List.getElem?_eq_getElem (by omega)]
    exact List.mem_of_getElem? e2
  rw [h _ this]
  decide
theorem findIdx_no {zs : List Str} {f : Str → Bool} (h : ∀ y ∈ zs, f y = false) : zs.findIdx? f = none := List.findIdx?_eq_none_iff.mpr h
theorem enum_it0 {K : PySem.W.Frag} {H0 H : Hp} {a : Addr} {xs : List V} {i : Nat} {σ : L2.St} {R : It → Hp → Prop} (hv : σ[i]? = some (some (.ref a))) (h : Sq K H0 a xs) (s : Same H0 H)
    (k : ∀ (J : It) (G : Hp → Prop), Walk J xs.length G (YPair (fun i => some (.int (i : Nat))) (fun i => xs[i]?)) → (∀ H', Same H0 H' → G H') → R J H) : iEnum K (tCons (tVar i) tNil) σ H R ∨ iEnumT K (tCons (tVar i) tNil) σ H R := by
  rcases h with h | h
  · exact .inl ⟨_, hv, a, xs, rfl, s.seq h, k _ _ walk_enum fun _ e => e.seq h⟩
  · exact .inr ⟨_, hv, a, xs, rfl, SqT.same s h, k _ _ walk_enumT fun _ e => SqT.same e h⟩
theorem Same.keep {H G : Hp} {F : Addr} {o : HO} (s : Same H G) (h : H F = none) : Same H (L2.upd G F o) := fun a u e => by
  rw [upd_ne (ne_of_none e h)]
  exact s a u e
section
variable {P : Program} {w : World} {K : PySem.W.Frag} {mg : Str → Option Value} {base : Heap}
abbrev s_NoSigns___init__ : Stmt := inClass (top 5) 0
theorem sc_NoSigns___init__ : FnScope ["self", "found"] ["self", "found"] (defScope s_NoSigns___init__) := ⟨rfl, rfl, rfl, by decide +kernel, rfl, by decide +kernel, by decide +kernel⟩
theorem ok_NoSigns_ini (fam_TermError : FamV K (He.ga K "TermError")) (g_TermError : mg "TermError" = some (.ref (He.ga K "TermError"))) (x_NoSigns : OwnV K (He.ga K "NoSigns") "found") (D : DefM K (He.ma K (He.ga K "NoSigns") "__init__") "__init__" "NoSigns.__init__" s_NoSigns___init__) :
    PromA CX0 P w K mg base 1 (He.ma K (He.ga K "NoSigns") "__init__") ["self", "found"] (spIni (He.ga K "NoSigns") "found") := by
  refine meth_mk D sc_NoSigns___init__ (fun vs H Q E h => ?_) (fun _ _ _ _ _ _ us hl => match us, hl with | [_, _], _ => rfl) (fun cdv A outer s H vs Q E hr h => ?_)
  · obtain ⟨a, v, rfl, _⟩ := h
    rfl
  · obtain ⟨a, v, rfl, ha, q⟩ := h
    refine ⟨_, (pss_cons (ps_expr (pe_famInit fam_TermError rfl g_TermError (pa_cons (pv 0) (pa_cons pe_str pa_nil))))
      (pss_one (ps_ost (pv 0) (pv 1)))), ?_⟩
    exact ⟨_, rfl, a, _, _, rfl, by decide, x_NoSigns.ox, ha, _, rfl, _, rfl, a, _, rfl, x_NoSigns.ox, x_NoSigns.no, .inl ⟨ha, fun dx h1 h2 => q dx h1 h2⟩⟩

abbrev s_NoSign___init__ : Stmt := inClass (top 6) 0
theorem sc_NoSign___init__ : FnScope ["self", "at"] ["self", "at"] (defScope s_NoSign___init__) := ⟨rfl, rfl, rfl, by decide +kernel, rfl, by decide +kernel, by decide +kernel⟩
theorem ok_NoSign_ini (fam_TermError : FamV K (He.ga K "TermError")) (g_TermError : mg "TermError" = some (.ref (He.ga K "TermError"))) (x_NoSign : OwnV K (He.ga K "NoSign") "at") (D : DefM K (He.ma K (He.ga K "NoSign") "__init__") "__init__" "NoSign.__init__" s_NoSign___init__) :
    PromA CX0 P w K mg base 1 (He.ma K (He.ga K "NoSign") "__init__") ["self", "at"] (spIni (He.ga K "NoSign") "at") := by
  refine meth_mk D sc_NoSign___init__ (fun vs H Q E h => ?_) (fun _ _ _ _ _ _ us hl => match us, hl with | [_, _], _ => rfl) (fun cdv A outer s H vs Q E hr h => ?_)
  · obtain ⟨a, v, rfl, _⟩ := h
    rfl
  · obtain ⟨a, v, rfl, ha, q⟩ := h
    refine ⟨_, (pss_cons (ps_expr (pe_famInit fam_TermError rfl g_TermError (pa_cons (pv 0) (pa_cons pe_str pa_nil))))
      (pss_one (ps_ost (pv 0) (pv 1)))), ?_⟩
    exact ⟨_, rfl, a, _, _, rfl, by decide, x_NoSign.ox, ha, _, rfl, _, rfl, a, _, rfl, x_NoSign.ox, x_NoSign.no, .inl ⟨ha, fun dx h1 h2 => q dx h1 h2⟩⟩

abbrev s_Beyond___init__ : Stmt := inClass (top 7) 0
theorem sc_Beyond___init__ : FnScope ["self", "at"] ["self", "at"] (defScope s_Beyond___init__) := ⟨rfl, rfl, rfl, by decide +kernel, rfl, by decide +kernel, by decide +kernel⟩
theorem ok_Beyond_ini (fam_TermError : FamV K (He.ga K "TermError")) (g_TermError : mg "TermError" = some (.ref (He.ga K "TermError"))) (x_Beyond : OwnV K (He.ga K "Beyond") "at") (D : DefM K (He.ma K (He.ga K "Beyond") "__init__") "__init__" "Beyond.__init__" s_Beyond___init__) :
    PromA CX0 P w K mg base 1 (He.ma K (He.ga K "Beyond") "__init__") ["self", "at"] (spIni (He.ga K "Beyond") "at") := by
  refine meth_mk D sc_Beyond___init__ (fun vs H Q E h => ?_) (fun _ _ _ _ _ _ us hl => match us, hl with | [_, _], _ => rfl) (fun cdv A outer s H vs Q E hr h => ?_)
  · obtain ⟨a, v, rfl, _⟩ := h
    rfl
  · obtain ⟨a, v, rfl, ha, q⟩ := h
    refine ⟨_, (pss_cons (ps_expr (pe_famInit fam_TermError rfl g_TermError (pa_cons (pv 0) (pa_cons pe_str pa_nil))))
      (pss_one (ps_ost (pv 0) (pv 1)))), ?_⟩
    exact ⟨_, rfl, a, _, _, rfl, by decide, x_Beyond.ox, ha, _, rfl, _, rfl, a, _, rfl, x_Beyond.ox, x_Beyond.no, .inl ⟨ha, fun dx h1 h2 => q dx h1 h2⟩⟩

abbrev s_Unended___init__ : Stmt := inClass (top 8) 0
theorem sc_Unended___init__ : FnScope ["self", "many"] ["self", "many"] (defScope s_Unended___init__) := ⟨rfl, rfl, rfl, by decide +kernel, rfl, by decide +kernel, by decide +kernel⟩
theorem ok_Unended_ini (fam_TermError : FamV K (He.ga K "TermError")) (g_TermError : mg "TermError" = some (.ref (He.ga K "TermError"))) (x_Unended : OwnV K (He.ga K "Unended") "many") (D : DefM K (He.ma K (He.ga K "Unended") "__init__") "__init__" "Unended.__init__" s_Unended___init__) :
    PromA CX0 P w K mg base 1 (He.ma K (He.ga K "Unended") "__init__") ["self", "many"] (spIni (He.ga K "Unended") "many") := by
  refine meth_mk D sc_Unended___init__ (fun vs H Q E h => ?_) (fun _ _ _ _ _ _ us hl => match us, hl with | [_, _], _ => rfl) (fun cdv A outer s H vs Q E hr h => ?_)
  · obtain ⟨a, v, rfl, _⟩ := h
    rfl
  · obtain ⟨a, v, rfl, ha, q⟩ := h
    refine ⟨_, (pss_cons (ps_expr (pe_famInit fam_TermError rfl g_TermError (pa_cons (pv 0) (pa_cons pe_str pa_nil))))
      (pss_one (ps_ost (pv 0) (pv 1)))), ?_⟩
    exact ⟨_, rfl, a, _, _, rfl, by decide, x_Unended.ox, ha, _, rfl, _, rfl, a, _, rfl, x_Unended.ox, x_Unended.no, .inl ⟨ha, fun dx h1 h2 => q dx h1 h2⟩⟩

abbrev s_NoNumber___init__ : Stmt := inClass (top 9) 0
theorem sc_NoNumber___init__ : FnScope ["self", "found"] ["self", "found"] (defScope s_NoNumber___init__) := ⟨rfl, rfl, rfl, by decide +kernel, rfl, by decide +kernel, by decide +kernel⟩
theorem ok_NoNumber_ini (fam_TermError : FamV K (He.ga K "TermError")) (g_TermError : mg "TermError" = some (.ref (He.ga K "TermError"))) (x_NoNumber : OwnV K (He.ga K "NoNumber") "found") (D : DefM K (He.ma K (He.ga K "NoNumber") "__init__") "__init__" "NoNumber.__init__" s_NoNumber___init__) :
    PromA CX0 P w K mg base 1 (He.ma K (He.ga K "NoNumber") "__init__") ["self", "found"] (spIni (He.ga K "NoNumber") "found") := by
  refine meth_mk D sc_NoNumber___init__ (fun vs H Q E h => ?_) (fun _ _ _ _ _ _ us hl => match us, hl with | [_, _], _ => rfl) (fun cdv A outer s H vs Q E hr h => ?_)
  · obtain ⟨a, v, rfl, _⟩ := h
    rfl
  · obtain ⟨a, v, rfl, ha, q⟩ := h
    refine ⟨_, (pss_cons (ps_expr (pe_famInit fam_TermError rfl g_TermError (pa_cons (pv 0) (pa_cons pe_str pa_nil))))
      (pss_one (ps_ost (pv 0) (pv 1)))), ?_⟩
    exact ⟨_, rfl, a, _, _, rfl, by decide, x_NoNumber.ox, ha, _, rfl, _, rfl, a, _, rfl, x_NoNumber.ox, x_NoNumber.no, .inl ⟨ha, fun dx h1 h2 => q dx h1 h2⟩⟩

abbrev s_places_of : Stmt := top 34
theorem sc_places_of : FnScope ["words", "signs", "found", "at", "sign", "lacking", "many"] ["words", "signs"] (defScope s_places_of) := ⟨rfl, rfl, rfl, by decide +kernel, rfl, by decide +kernel, by decide +kernel⟩

set_option maxHeartbeats 800000 in
theorem ok_places_of (bt : Bt mg) (p_is_letter : Prom P w K mg base 2 "is_letter" ["thing"] (spLetter K)) (cl_Words : Cls K (wcls K)) (mm_Words_has : Meth K (wcls K) "has" (He.ma K (wcls K) "has")) (mm_Words_places : Meth K (wcls K) "places" (He.ma K (wcls K) "places"))
    (p_Words_has : PromA CX0 P w K mg base 1 (He.ma K (wcls K) "has") ["self", "thing"] (spHas K)) (p_Words_places : PromA CX0 P w K mg base 2 (He.ma K (wcls K) "places") ["self", "name"] (spPlaces K))
    (g_NoSign : mg "NoSign" = some (.ref (He.ga K "NoSign"))) (x_NoSign : OwnV K (He.ga K "NoSign") "at") (pi_NoSign : PromA CX0 P w K mg base 1 (He.ma K (He.ga K "NoSign") "__init__") ["self", "at"] (spIni (He.ga K "NoSign") "at"))
    (g_Beyond : mg "Beyond" = some (.ref (He.ga K "Beyond"))) (x_Beyond : OwnV K (He.ga K "Beyond") "at") (pi_Beyond : PromA CX0 P w K mg base 1 (He.ma K (He.ga K "Beyond") "__init__") ["self", "at"] (spIni (He.ga K "Beyond") "at"))
    (g_Unended : mg "Unended" = some (.ref (He.ga K "Unended"))) (x_Unended : OwnV K (He.ga K "Unended") "many") (pi_Unended : PromA CX0 P w K mg base 1 (He.ma K (He.ga K "Unended") "__init__") ["self", "many"] (spIni (He.ga K "Unended") "many"))
    (D : Def K mg "places_of" s_places_of) : PromX P w K mg base 3 "places_of" ["words", "signs"] (spPlOf K) := by
  refine promX_mk D sc_places_of (fun vs H Q E h => ?_) (fun _ _ _ _ _ _ us hl => match us, hl with | [_, _], _ => rfl) (fun f cdv A outer s H vs Q E hr h => ?_)
  · obtain ⟨wa, sa, rows, zs, rfl, _⟩ := h
    rfl
  · obtain ⟨wa, sa, rows, zs, rfl, hW, hP, hS, hl, hz, q⟩ := h
    refine ⟨_, (pss_cons (ps_set (i := 2) sc_places_of.nd rfl (Or.inl rfl) (pe_lst pa_nil))
      (pss_cons (ps_for (passes_of rfl) rfl (pi_either (pi_enumK (K := K) rfl rfl bt.enumerate_ (pa_cons (pv 1) pa_nil)) (pi_enumT (K := K) rfl rfl bt.enumerate_ (pa_cons (pv 1) pa_nil))) (pg_tupK (K := K) (n := 2) rfl rfl (pgs_cons (pg_name (i := 3) sc_places_of.nd rfl (Or.inl rfl)) (pgs_cons (pg_name (i := 4) sc_places_of.nd rfl (Or.inl rfl)) pgs_nil))) (pss_one (ps_if (pt_val (pe_pc p_is_letter (hr.mono (by decide)) rfl (pa_cons (pv 4) pa_nil))) (pss_one (ps_expr (pe_appendK (K := K) rfl (pv 2) pe_int))) (pss_one (ps_if (pt_val (pe_pm cl_Words mm_Words_has p_Words_has (hr.mono (by decide)) (pv 0) (pa_cons (pv 4) pa_nil))) (pss_one (ps_expr (pe_appendK (K := K) rfl (pv 2) (pe_pm cl_Words mm_Words_places p_Words_places (hr.mono (by decide)) (pv 0) (pa_cons (pv 4) pa_nil))))) (pss_one (ps_raise1 x_NoSign pi_NoSign rfl takesF (hr.mono (by decide)) rfl g_NoSign (pv 3))))))))
      (pss_cons (ps_set (i := 5) sc_places_of.nd rfl (Or.inl rfl) pe_int)
      (pss_cons (ps_for (passes_of rfl) rfl (pi_enumK (K := K) rfl rfl bt.enumerate_ (pa_cons (pv 2) pa_nil)) (pg_tupK (K := K) (n := 2) rfl rfl (pgs_cons (pg_name (i := 3) sc_places_of.nd rfl (Or.inl rfl)) (pgs_cons (pg_name (i := 6) sc_places_of.nd rfl (Or.inl rfl)) pgs_nil))) (pss_cons (ps_if (pt_cmpR op_eq (pv 5) pe_int (nomark _)) (pss_one (ps_raise1 x_Beyond pi_Beyond rfl takesF (hr.mono (by decide)) rfl g_Beyond (pv 3))) pss_nil)
      (pss_one (ps_aug (i := 5) sc_places_of.nd rfl (Or.inl rfl) (pe_op op_sub (pv 6) pe_int) ip_add))))
      (pss_cons (ps_if (pt_cmpR op_gt (pv 5) pe_int (nomark _)) (pss_one (ps_raise1 x_Unended pi_Unended rfl takesF (hr.mono (by decide)) rfl g_Unended (pv 5))) pss_nil)
      (pss_one (ps_ret (pv 2)))))))), ?_⟩
    refine ⟨(by show 0 ≤ sizeLine; decide), fun F hF => ?_⟩
    (generalize hG : L2.upd _ F _ = H1; have sF := same_of hG hF; have eF := at_of hG; clear hG)
    refine enum_it0 (K := K) (H := H1) rfl hS sF fun J G wk hG => ?_
    have lz : (zs.map V.str).length = zs.length := List.length_map ..
    refine for_it wk (fun i τ G' => (∃ x1 x2 x3 x4, τ = [some (.ref wa), some (.ref sa), some (.ref F), x1, x2, x3, x4]) ∧ Same H G' ∧ G' F = some (.lst ((zs.take i).map fun z => V.int (plN rows z : Nat))) ∧ ∀ z ∈ zs.take i, (plS rows z).isNone = false)
      ⟨⟨_, _, _, _, rfl⟩, sF, eF, by simp⟩ (fun i τ G' _ p => hG G' p.2.1) ?_ ?_
    · rintro i v τ G1 G2 hi ⟨⟨x1, x2, x3, x4, rfl⟩, sH, eG, al⟩ ⟨T, y, x, rfl, hT, rfl, ey, hx⟩
      cases ey
      rw [lz] at hi
      obtain ⟨z, hzi, rfl⟩ : ∃ z, zs[i]? = some z ∧ x = .str z := by
        replace hx : (zs.map V.str)[i]? = some x := hx
        rw [List.getElem?_map] at hx
        cases hq : zs[i]? with
        | none => rw [hq] at hx; cases hx
        | some z => rw [hq] at hx; cases hx; exact ⟨z, rfl, rfl⟩
      (generalize hG : L2.upd _ T _ = G3; have sT := same_of hG hT; have eT := at_of hG; clear hG)
      have sH3 := sH.trans sT
      have hzl := hz z (List.mem_of_getElem? hzi)
      refine ⟨T, _, rfl, .inl (.inl eT), rfl, _, _, rfl, _, _, rfl, rfl, ?_⟩
      refine ⟨_, rfl, _, .str z, rfl, .str z, fun y e => by cases e; exact hzl, fun G4 s4 => ⟨_, rfl, ?_⟩⟩
      have eF4 := s4 _ _ (sT _ _ eG)
      have sH4 := sH3.trans s4
      have et : ∀ p : Nat, plN rows z = p → (zs.take (i + 1)).map (fun z => V.int (plN rows z : Nat)) = (zs.take i).map (fun z => V.int (plN rows z : Nat)) ++ [V.int (p : Nat)] := fun p hp => by
        rw [take_map (fun z => V.int (plN rows z : Nat)) hzi, hp]
      have al' : (plS rows z).isNone = false → ∀ y ∈ zs.take (i + 1), (plS rows y).isNone = false := fun h y hy => by
        rw [List.take_succ, hzi] at hy
        rcases List.mem_append.mp hy with m | m
        · exact al y m
        · rw [List.mem_singleton.mp m]; exact h
      have lF : ((zs.take i).map (fun z => V.int (plN rows z : Nat))).length ≤ 20000 := by rw [List.length_map, List.length_take]; omega
      have go : ∀ p : Nat, plS rows z = some p → ∀ G5, Same H G5 → G5 F = some (.lst ((zs.take i).map fun z => V.int (plN rows z : Nat))) →
          Same H (L2.upd G5 F (.lst ((zs.take i).map (fun z => V.int (plN rows z : Nat)) ++ [V.int (p : Nat)]))) ∧ L2.upd G5 F (.lst ((zs.take i).map (fun z => V.int (plN rows z : Nat)) ++ [V.int (p : Nat)])) F = some (.lst ((zs.take (i + 1)).map fun z => V.int (plN rows z : Nat))) ∧ ∀ y ∈ zs.take (i + 1), (plS rows y).isNone = false := fun p hp G5 s5 _ =>
        ⟨Same.keep s5 hF, by rw [upd_same, et p (by unfold plN; rw [hp]; rfl)], al' (by rw [hp]; rfl)⟩
      cases hL : letterD (.str z) with
      | true =>
        have hp : plS rows z = some 0 := by unfold plS; rw [show letterL (tl z) = true from hL]; rfl
        obtain ⟨g1, g2, g3⟩ := go 0 hp G4 sH4 eF4
        exact iteT ⟨_, rfl, .inl ⟨rfl, _, .inl (.inl eF4)⟩, F, _, _, rfl, rfl, eF4, sz5' (by omega), ⟨_, _, _, _, rfl⟩, g1, g2, g3⟩
      | false =>
        have hL' : letterL (tl z) = false := hL
        have hW4 := hW.same sH4
        obtain ⟨dx, DD, kvs, e1, e2, e3⟩ := id hW4
        refine iteF ⟨_, rfl, wa, dx, _, rfl, e1, rfl, _, rfl, wa, rows, _, .str z, rfl, hW4, .str z, _, rfl, ?_⟩
        cases hH : hasR rows (.str z) with
        | true =>
          have hm : z ∈ rows.map (·.1) := of_decide_eq_true hH
          have hp : plS rows z = some (plR rows z).toNat := by unfold plS; rw [hL', if_neg Bool.false_ne_true, if_pos hm]
          have hpl := plR_in hP z
          obtain ⟨g1, g2, g3⟩ := go _ hp G4 sH4 eF4
          refine iteT ⟨_, rfl, .inl ⟨rfl, _, .inl (.inl eF4)⟩, _, rfl, wa, dx, _, rfl, e1, rfl, _, rfl, wa, rows, z, rfl, hW4, hm, F, _, _, rfl, rfl, eF4, sz5' (by omega), ?_⟩
          rw [show (((plR rows z).toNat : Nat) : Int) = plR rows z by omega] at g1 g2
          exact ⟨⟨_, _, _, _, rfl⟩, g1, g2, g3⟩
        | false =>
          have hm : z ∉ rows.map (·.1) := of_decide_eq_false hH
          have hp : plS rows z = none := by unfold plS; rw [hL', if_neg Bool.false_ne_true, if_neg hm]
          have eo : outS rows zs = .bad i := by
            unfold outS
            rw [findIdx_at hzi (by rw [hp]; rfl) al]
          rw [eo] at q
          exact iteF ⟨_, rfl, fun e he => q _ e (sH4.trans (Same.new (Same.refl _) he)) (sH4.free he) (upd_same ..)⟩
    · rintro τ G1 ⟨⟨x1, x2, x3, x4, rfl⟩, sH, eG, al⟩
      rw [lz, List.take_length] at eG al
      have eo : outS rows zs = scan 1 0 (zs.map (plN rows)) := by
        unfold outS
        rw [findIdx_no al]
      rw [eo] at q
      have lp : (zs.map fun z => V.int (plN rows z : Nat)).length = zs.length := List.length_map ..
      refine ⟨_, rfl, F, _, rfl, .inl (.inl eG), for_it walk_enum (fun i τ G' => (∃ (k : Nat), (∃ x1 x2 x4, τ = [some (.ref wa), some (.ref sa), some (.ref F), x1, x2, some (.int k), x4]) ∧ scan k i ((zs.map (plN rows)).drop i) = scan 1 0 (zs.map (plN rows))) ∧ Same H G' ∧ G' F = some (.lst (zs.map fun z => V.int (plN rows z : Nat))))
        ⟨⟨1, ⟨_, _, _, rfl⟩, rfl⟩, sH, eG⟩ (fun i τ G' _ p => .inl (.inl p.2.2)) ?_ ?_⟩
      · rintro i v τ G2 G3 hi ⟨⟨k, ⟨y1, y2, y4, rfl⟩, hk⟩, s2, e2⟩ ⟨T, y, x, rfl, hT, rfl, ey, hx⟩
        cases ey
        rw [lp] at hi
        obtain ⟨z, hzi, rfl⟩ : ∃ z, zs[i]? = some z ∧ x = .int (plN rows z : Nat) := by
          replace hx : (zs.map fun z => V.int (plN rows z : Nat))[i]? = some x := hx
          rw [List.getElem?_map] at hx
          cases hq : zs[i]? with
          | none => rw [hq] at hx; cases hx
          | some z => rw [hq] at hx; cases hx; exact ⟨z, rfl, rfl⟩
        (generalize hG : L2.upd _ T _ = G4; have sT := same_of hG hT; have eT := at_of hG; clear hG)
        have s4 := s2.trans sT
        have ed : (zs.map (plN rows)).drop i = plN rows z :: (zs.map (plN rows)).drop (i + 1) := List.drop_eq_getElem?_toList_append .. ▸ (by rw [List.getElem?_map, hzi]; rfl)
        refine ⟨T, _, rfl, .inl (.inl eT), rfl, _, _, rfl, _, _, rfl, rfl, ?_⟩
        refine ⟨_, rfl, rfl, _, rfl, ?_⟩
        cases k with
        | zero =>
          rw [ed] at hk
          have hk' : scan 1 0 (zs.map (plN rows)) = .beyond i := hk.symm
          rw [hk'] at q
          exact iteT ⟨_, rfl, fun e he => q _ e (s4.trans (Same.new (Same.refl _) he)) (s4.free he) (upd_same ..)⟩
        | succ k =>
          refine iteF' (by simp; omega) ?_
          rw [ed] at hk
          replace hk : scan (k + plN rows z) (i + 1) ((zs.map (plN rows)).drop (i + 1)) = _ := hk
          have eI : ((k + 1 : Nat) : Int) + (((plN rows z : Nat) : Int) - 1) = ((k + plN rows z : Nat) : Int) := by omega
          exact ⟨_, rfl, _, rfl, _, _, rfl, rfl, _, _, rfl, rfl, ⟨⟨k + plN rows z, ⟨_, _, _, by rw [← eI]; rfl⟩, hk⟩, s4, sT _ _ e2⟩⟩
      · rintro τ G2 ⟨⟨k, ⟨y1, y2, y4, rfl⟩, hk⟩, s2, e2⟩
        rw [lp, List.drop_eq_nil_of_le (by rw [List.length_map]; exact Nat.le_refl _)] at hk
        refine ⟨_, rfl, _, _, rfl, rfl, _, rfl, ?_⟩
        cases k with
        | zero =>
          rw [← hk] at q
          exact iteF ⟨_, rfl, q G2 F s2 hF e2⟩
        | succ k =>
          rw [← hk] at q
          exact iteT' (decide_eq_true (by omega)) ⟨_, rfl, fun e he => q _ e (s2.trans (Same.new (Same.refl _) he)) (s2.free he) (upd_same ..)⟩
end

end TS

namespace TS
open PySem PySem.Spec PyProof.Rows L2 TL

/-! ### ends_of -/
theorem ixN_of {n j : Nat} (hj : j < n) : ixN n (j : Int) = some j := by
  unfold ixN
  rw [if_pos (by omega), if_pos (by omega)]
  rfl
theorem rep_one {α : Type} (x : α) : ∀ n : Nat, (List.replicate n [x]).flatten = List.replicate n x
  | 0 => rfl
  | n + 1 => by rw [List.replicate_succ, List.flatten_cons, rep_one x n]; rfl
def spEndsOf (K : PySem.W.Frag) : Sp := fun vs H Q _ => ∃ (p : Addr) (pl : Str → Option Nat) (r : Fs), vs = [.ref p] ∧ r.wf pl ∧ r.size ≤ 20000 ∧ SqL K H p (r.flat.map fun z => V.int ((pl z).getD 0 : Nat)) ∧
  ∀ G q, Same H G → H q = none → G q = some (.lst ((r.ends 0).map fun n => V.int (n : Nat))) → Q (.ref q) G
section
variable {P : Program} {w : World} {K : PySem.W.Frag} {mg : Str → Option Value} {base : Heap}
abbrev s_ends_of : Stmt := top 35
theorem sc_ends_of : FnScope ["places", "ends", "at", "stop", "turn"] ["places"] (defScope s_ends_of) := ⟨rfl, rfl, rfl, by decide +kernel, rfl, by decide +kernel, by decide +kernel⟩

set_option maxHeartbeats 800000 in
theorem ok_ends_of (bt : Bt mg) (D : Def K mg "ends_of" s_ends_of) : Prom P w K mg base 1 "ends_of" ["places"] (spEndsOf K) := by
  refine prom_mk D sc_ends_of (fun vs H Q E h => ?_) (fun _ _ _ _ _ _ us hl => match us, hl with | [_], _ => rfl) (fun f cdv A outer s H vs Q E hr h => ?_)
  · obtain ⟨p, pl, r, rfl, _⟩ := h
    rfl
  · obtain ⟨p, pl, r, rfl, hw, hl, hS, q⟩ := h
    obtain ⟨n, hn⟩ : ∃ n, n = r.size := ⟨_, rfl⟩
    have lz : (r.flat.map fun z => V.int ((pl z).getD 0 : Nat)).length = n := by rw [List.length_map, Fs.flat_len, hn]
    refine ⟨_, (pss_cons (ps_set (i := 1) sc_ends_of.nd rfl (Or.inl rfl) (pe_op op_rep (pe_lst (pa_cons pe_int pa_nil)) (pe_callB (id := "len") (lenK (K := K)) (by rfl) bt.len_ (by decide +kernel) (pa_cons (pv 0) pa_nil))))
      (pss_cons (ps_for PassesOwn.never rfl (pi_revK (K := K) rfl rfl bt.reversed_ (pa_cons (pe_listRg rfl rfl bt.list_ (prg_1 rfl bt.range_ (pe_callB (id := "len") (lenK (K := K)) (by rfl) bt.len_ (by decide +kernel) (pa_cons (pv 0) pa_nil)))) pa_nil)) (pg_name (i := 2) sc_ends_of.nd rfl (Or.inl rfl)) (pss_cons (ps_set (i := 3) sc_ends_of.nd rfl (Or.inl rfl) (pe_op op_add (pv 2) pe_int))
      (pss_cons (ps_for PassesOwn.never rfl (pi_range1 rfl bt.range_ (pa_cons (pe_ix (ix_listK (K := K)) (pv 0) (pv 2) (fun _ _ => rfl)) pa_nil)) (pg_name (i := 4) sc_ends_of.nd rfl (Or.inl rfl)) (pss_one (ps_set (i := 3) sc_ends_of.nd rfl (Or.inl rfl) (pe_ix (ix_listK (K := K)) (pv 1) (pv 3) (fun _ _ => rfl)))))
      (pss_one (ps_asg (pv 3) (pg_sub (pv 1) (pv 2) set_list))))))
      (pss_one (ps_ret (pv 1))))), ?_⟩
    refine ⟨(by show 1 ≤ sizeLine; decide), fun L0 hL0 => ?_⟩
    (generalize hG : L2.upd _ L0 _ = H1; have s0 := same_of hG hL0; have e0 := at_of hG; clear hG)
    refine ⟨_, rfl, _, _, rfl, .inl ⟨_, s0.seq hS, rfl⟩, L0, _, _, rfl, rfl, e0, ?_, ?_, ?_, fun F hF => ?_⟩
    · rw [lz]; omega
    · rw [lz]; omega
    · rw [lz]
      show 1 * ((n : Nat) : Int).toNat ≤ sizeLine
      rw [sizeLine_eq]
      omega
    rw [lz]
    have hF0 := s0.free hF
    have er : (List.replicate ((n : Nat) : Int).toNat [V.int 0]).flatten = (List.replicate n 0).map (fun n : Nat => V.int (n : Nat)) := by
      rw [Int.toNat_natCast, rep_one, List.map_replicate]
      rfl
    rw [er]
    (generalize hG : L2.upd _ F _ = H2; have sF := same_of hG hF; have eF := at_of hG; clear hG)
    have sH2 := s0.trans sF
    refine ⟨_, rfl, _, _, rfl, .inl ⟨_, sH2.seq hS, rfl⟩, _, rfl, ?_, fun Z hZ => ?_⟩
    · rw [lz]
      exact RgOk.of_le (by omega) (by omega) (by omega) (by omega)
    rw [lz]
    (generalize hG : L2.upd _ Z _ = H3; have sZ := same_of hG hZ; have eZ := at_of hG; clear hG)
    have sH3 := sH2.trans sZ
    have lr : (rgV 0 ((n : Nat) : Int)).length = n := by rw [rgV_length]; omega
    have nFZ : Z ≠ F := fun e => by rw [e, eF] at hZ; cases hZ
    refine ⟨Z, _, rfl, .inl (.inl eZ), for_it walk_rev (fun i τ G' => (∃ x1 x2 x3, τ = [some (.ref p), some (.ref F), x1, x2, x3]) ∧ Same H G' ∧ G' Z = some (.lst (rgV 0 ((n : Nat) : Int))) ∧ ∃ E' : List Nat, G' F = some (.lst (E'.map fun n => V.int (n : Nat))) ∧ E'.length = n ∧ ∀ j, n - i ≤ j → E'[j]? = (r.ends 0)[j]?)
      ⟨⟨_, _, _, rfl⟩, sH3, eZ, List.replicate n 0, sZ _ _ eF, by simp, fun j hj => ?_⟩ (fun i τ G' _ p => .inl (.inl p.2.2.1)) ?_ ?_⟩
    · rw [List.getElem?_eq_none (by simp; omega), List.getElem?_eq_none (by rw [Fs.ends_len, ← hn]; omega)]
    · rintro i v τ G1 G2 hi ⟨⟨x1, x2, x3, rfl⟩, sH, eZ1, E', eE, lE, hE⟩ ⟨rfl, hx⟩
      rw [lr] at hi hx
      obtain ⟨at_, hat⟩ : ∃ at_, at_ = n - 1 - i := ⟨_, rfl⟩
      rw [← hat] at hx
      have hv : v = .int (at_ : Nat) := by
        unfold rgV at hx
        rw [List.getElem?_map, List.getElem?_range (by omega)] at hx
        cases hx
        show V.int (0 + (at_ : Int)) = _
        rw [Int.zero_add]
      subst hv
      obtain ⟨sg, ts, nd⟩ := Fs.node r 0 at_ hw (by omega)
      have hk : (pl sg).getD 0 = ts.len := by rw [nd.many]; rfl
      have hin := nd.in_
      rw [Fs.flat_len, ← hn] at hin
      have stop := nd.stop
      rw [Nat.zero_add] at stop
      have kids := nd.kids
      rw [Nat.zero_add] at kids
      have jm : jump E' ts.len (at_ + 1) = some (at_ + 1 + ts.size) := Fs.jumps ts (at_ + 1) E' fun j hj => by rw [hE _ (by omega), kids j hj]
      have tl20 : ts.len ≤ ts.size := Fs.len_size ts
      refine ⟨_, rfl, _, _, rfl, rfl, _, rfl, _, rfl, p, _, _, .int (ts.len : Nat), rfl, rfl, sH.seq hS, atI_nat (by rw [List.getElem?_map, nd.sign]; show some (V.int ((pl sg).getD 0 : Nat)) = _; rw [hk]), _, rfl, ?_, ?_, ?_⟩
      · omega
      · omega
      refine for_it walk_range (fun t τ G' => G' = G2 ∧ ∃ (st : Nat) (x3 : Option V), τ = [some (.ref p), some (.ref F), some (.int (at_ : Nat)), some (.int (st : Nat)), x3] ∧ jump E' (ts.len - t) st = some (at_ + 1 + ts.size)) ⟨rfl, at_ + 1, _, rfl, jm⟩ (fun _ _ _ _ _ => trivial) ?_ ?_
      · rintro t v τ G3 G4 ht ⟨rfl, st, y3, rfl, hj⟩ ⟨rfl, rfl⟩
        have ht' : t < ts.len := by omega
        rw [show ts.len - t = (ts.len - (t + 1)) + 1 by omega] at hj
        cases he : E'[st]? with
        | none =>
          rw [show jump E' (ts.len - (t + 1) + 1) st = (E'[st]?).bind (jump E' (ts.len - (t + 1))) from rfl, he] at hj
          cases hj
        | some st' =>
          rw [show jump E' (ts.len - (t + 1) + 1) st = (E'[st]?).bind (jump E' (ts.len - (t + 1))) from rfl, he] at hj
          refine ⟨_, rfl, _, rfl, F, _, _, .int (st' : Nat), rfl, rfl, .inl (.inl eE), atI_nat (by rw [List.getElem?_map, he]; rfl), rfl, st', _, rfl, hj⟩
      · rintro τ G3 ⟨rfl, st, y3, rfl, hj⟩
        have est : st = at_ + 1 + ts.size := by
          rw [show ts.len - ((ts.len : Nat) : Int).toNat = 0 by omega] at hj
          exact Option.some.inj hj
        subst est
        have aE : at_ < E'.length := by omega
        refine ⟨_, rfl, _, rfl, _, rfl, F, _, _, at_, rfl, rfl, eE, ?_, ⟨_, _, _, rfl⟩, Same.keep sH hF0, ?_, E'.set at_ (at_ + 1 + ts.size), ?_, ?_, ?_⟩
        · rw [List.length_map]
          exact ixN_of aE
        · rw [upd_ne nFZ]; exact eZ1
        · rw [upd_same, List.map_set]
        · rw [List.length_set, lE]
        · intro j hj
          rw [List.getElem?_set]
          by_cases e : at_ = j
          · rw [if_pos e, if_pos (by omega), ← e, stop]
          · rw [if_neg e]
            exact hE j (by omega)
    · rintro τ G1 ⟨⟨x1, x2, x3, rfl⟩, sH, eZ1, E', eE, lE, hE⟩
      have e : E' = r.ends 0 := List.ext_getElem? fun j => hE j (by rw [lr]; omega)
      rw [e] at eE
      exact ⟨_, rfl, q G1 F sH hF0 eE⟩
end

end TS

namespace TS
open PySem PySem.Spec PyProof.Rows L2 TL

/-! ### Term -/
def tcls (K : PySem.W.Frag) : Addr := He.ga K "Term"
def intsV (l : List Nat) : List V := l.map fun n => V.int (n : Nat)
/-- the term at a -/
def TermAt (K : PySem.W.Frag) (G : Hp) (a wa : Addr) (zs : List Str) (es : List Nat) : Prop := ∃ dx s e, G a = some (.ins (tcls K) dx [("term_words", .ref wa), ("all_signs", .ref s), ("all_ends", .ref e)]) ∧ SqT K G s (zs.map V.str) ∧ SqT K G e (intsV es)
theorem TermAt.same {K : PySem.W.Frag} {G G' : Hp} {a wa : Addr} {zs : List Str} {es : List Nat} (h : TermAt K G a wa zs es) (e : Same G G') : TermAt K G' a wa zs es :=
  let ⟨dx, s, n, x, y, z⟩ := h; ⟨dx, s, n, e _ _ x, SqT.same e y, SqT.same e z⟩
def wholeI : PyData → Option Int
  | .int m => if 1 ≤ m ∧ m ≤ 9999 then some m else none
  | _ => none
def strOf : PyData → Str
  | .str z => z
  | _ => ""
def strsD (d : PyData) : List Str := ((seqD d).getD []).map strOf
inductive Due where
  | number
  | signs
  | out (o : Out)
def dueD (rows : List (Str × Int)) (d dm : PyData) : Due := match wholeI dm with
  | none => .number
  | some m => if signsD m d then .out (outS rows (strsD d)) else .signs
def dueE (K : PySem.W.Frag) (H : Hp) (E : XK) (y m : V) (ok : Prop) : Due → Prop
  | .number => Rs K H E "NoNumber" "found" m
  | .signs => Rs K H E "NoSigns" "found" y
  | .out o => outE K H E ok o
/-- data that may be handed in -/
structure Handed (d : PyData) : Prop where
  few : ∀ ds, seqD d = some ds → ds.length ≤ 20000
  short : ∀ ds, seqD d = some ds → ∀ e ∈ ds, ∀ z, e = .str z → z.length ≤ 100000
def spTIni (K : PySem.W.Frag) : Sp := fun vs H Q E => ∃ (a dx : Addr) (x y m : V), vs = [.ref a, x, y, m] ∧ H a = some (.ins (tcls K) dx []) ∧
  ((∃ d, Dt K H x d ∧ Rs K H E "NoWords" "found" x) ∨
  (∃ (wa : Addr) (rows : List (Str × Int)) (d dm : PyData), x = .ref wa ∧ WordsAt K H wa rows ∧ RowsP rows ∧ Dt K H y d ∧ Dt K H m dm ∧ Handed d ∧
    dueE K H E y m (∀ (G : Hp) (r : Fs), Fx a H G → r.flat = strsD d → r.wf (plS rows) → r.len = 1 → TermAt K G a wa r.flat (r.ends 0) → Q .non G) (dueD rows d dm)))
def spTSigns (K : PySem.W.Frag) : Sp := fun vs H Q _ => ∃ (a wa : Addr) (zs : List Str) (es : List Nat), vs = [.ref a] ∧ TermAt K H a wa zs es ∧ ∀ l, H l = none → Q (.ref l) (L2.upd H l (.lst (zs.map V.str)))
/-- a list stays where another thing is changed -/
theorem SqL.upd {K : PySem.W.Frag} {H : Hp} {a t : Addr} {xs : List V} {o o' : HO} (ha : H a = some o) (ho : ∀ l, o ≠ .lst l) (hf : ∀ b u, o ≠ .frz b u) (h : SqL K H t xs) : SqL K (L2.upd H a o') t xs := by
  rcases h with (h | ⟨q, h⟩) | h
  · refine .inl (.inl ?_)
    rw [upd_ne]
    · exact h
    · intro e
      rw [e, ha] at h
      exact ho _ (Option.some.inj h)
  · refine .inl (.inr ⟨q, ?_⟩)
    rw [upd_ne]
    · exact h
    · intro e
      rw [e, ha] at h
      exact hf _ _ (Option.some.inj h)
  · exact .inr h
theorem wholeI_none {d : PyData} (h : wholeD 1 9999 d = false) : wholeI d = none := by
  cases d with
  | int i =>
    show (if 1 ≤ i ∧ i ≤ 9999 then some i else none) = none
    rw [if_neg]
    rintro ⟨h1, h2⟩
    have : (decide ((1 : Int) ≤ i) && decide (i ≤ 9999)) = false := h
    rw [decide_eq_true h1, decide_eq_true h2] at this
    cases this
  | _ => rfl
theorem wholeI_some {d : PyData} (h : wholeD 1 9999 d = true) : ∃ m, d = .int m ∧ wholeI d = some m := by
  cases d with
  | int i =>
    obtain ⟨h1, h2⟩ := Bool.and_eq_true_iff.mp h
    exact ⟨i, rfl, if_pos ⟨of_decide_eq_true h1, of_decide_eq_true h2⟩⟩
  | _ => cases h
theorem signs_strs {m : Int} {d : PyData} (h : signsD m d = true) : ∃ ds, seqD d = some ds ∧ strsD d = ds.map strOf ∧ ds = (strsD d).map PyData.str ∧ (ds.length : Int) ≤ m := by
  unfold signsD at h
  cases hs : seqD d with
  | none => rw [hs] at h; cases h
  | some ds =>
    rw [hs] at h
    obtain ⟨h1, h2⟩ := Bool.and_eq_true_iff.mp h
    have e1 : strsD d = ds.map strOf := by unfold strsD; rw [hs]; rfl
    refine ⟨ds, rfl, e1, ?_, of_decide_eq_true (Bool.and_eq_true_iff.mp h1).2⟩
    rw [e1, List.map_map]
    have : ∀ x ∈ ds, (PyData.str ∘ strOf) x = x := fun x hx => by
      have := List.all_eq_true.mp h2 x hx
      cases x <;> first | rfl | cases this
    rw [List.map_congr_left this, List.map_id']
theorem dtAll_strs {K : PySem.W.Frag} {H : Hp} : ∀ {xs : List V} {zs : List Str}, DtAll K H xs (zs.map PyData.str) → xs = zs.map V.str
  | _, [], h => by cases h; rfl
  | _, z :: r, h => by
    cases h with
    | cons h0 t =>
      cases h0
      rw [dtAll_strs t]
      rfl
section
variable {P : Program} {w : World} {K : PySem.W.Frag} {mg : Str → Option Value} {base : Heap}
abbrev s_Term_signs : Stmt := inClass (top 36) 2
theorem sc_Term_signs : FnScope ["self"] ["self"] (defScope s_Term_signs) := ⟨rfl, rfl, rfl, by decide +kernel, rfl, by decide +kernel, by decide +kernel⟩

theorem ok_Term_signs (bt : Bt mg) (cl : Cls K (tcls K)) (nb : NoAttr K (tcls K) "all_signs") (D : DefM K (He.ma K (tcls K) "signs") "signs" "Term.signs" s_Term_signs) : PromA CX0 P w K mg base 1 (He.ma K (tcls K) "signs") ["self"] (spTSigns K) := by
  refine meth_mk D sc_Term_signs (fun vs H Q E h => ?_) (fun _ _ _ _ _ _ us hl => match us, hl with | [_], _ => rfl) (fun cdv A outer s H vs Q E hr h => ?_)
  · obtain ⟨a, wa, zs, es, rfl, _⟩ := h
    rfl
  · obtain ⟨a, wa, zs, es, rfl, ⟨dx, sa, ea, e1, e2, e3⟩, q⟩ := h
    refine ⟨_, (pss_one (ps_ret (pe_callTy (T := "list") (listK (K := K)) (by rfl) bt.list_ (by decide +kernel) (pa_cons (pe_fld (pv 0) rfl) pa_nil)))), ?_⟩
    exact ⟨_, rfl, a, _, dx, _, _, rfl, e1, cl, nb, rfl, sa, _, rfl, .inr e2, q⟩
abbrev s_Term___init__ : Stmt := inClass (top 36) 0
theorem sc_Term___init__ : FnScope ["self", "words", "signs", "most", "places"] ["self", "words", "signs", "most"] (defScope s_Term___init__) := ⟨rfl, rfl, rfl, by decide +kernel, rfl, by decide +kernel, by decide +kernel⟩

set_option maxHeartbeats 800000 in
theorem ok_Term_ini (bt : Bt mg) (k_GREATEST : ∃ t, mg "GREATEST" = some (.int 9999 t)) (cl : Cls K (tcls K)) (n1 : NoAttr K (tcls K) "term_words") (n2 : NoAttr K (tcls K) "all_signs") (n3 : NoAttr K (tcls K) "all_ends")
    (p_need_words : PromX P w K mg base 3 "need_words" ["words"] (spNeed K)) (p_is_whole : Prom P w K mg base 1 "is_whole" ["thing", "low", "high"] (spWhole K)) (p_are_signs : Prom P w K mg base 1 "are_signs" ["thing", "most"] (spAreSigns K))
    (p_places_of : PromX P w K mg base 3 "places_of" ["words", "signs"] (spPlOf K)) (p_ends_of : Prom P w K mg base 1 "ends_of" ["places"] (spEndsOf K))
    (g_NoNumber : mg "NoNumber" = some (.ref (He.ga K "NoNumber"))) (x_NoNumber : OwnV K (He.ga K "NoNumber") "found") (pi_NoNumber : PromA CX0 P w K mg base 1 (He.ma K (He.ga K "NoNumber") "__init__") ["self", "found"] (spIni (He.ga K "NoNumber") "found"))
    (g_NoSigns : mg "NoSigns" = some (.ref (He.ga K "NoSigns"))) (x_NoSigns : OwnV K (He.ga K "NoSigns") "found") (pi_NoSigns : PromA CX0 P w K mg base 1 (He.ma K (He.ga K "NoSigns") "__init__") ["self", "found"] (spIni (He.ga K "NoSigns") "found"))
    {kws : List (Str × V)} (D : DefMK K (He.ma K (tcls K) "__init__") "__init__" "Term.__init__" s_Term___init__ kws) :
    ∃ fd, FunD K "__init__" "Term.__init__" (defArgs s_Term___init__) (defBody s_Term___init__) (defScope s_Term___init__) [] kws (He.ma K (tcls K) "__init__") fd ∧ FnOk P w K mg base (L2.CX P w) 4 (He.ma K (tcls K) "__init__") fd ["self", "words", "signs", "most"] (spTIni K) := by
  obtain ⟨t_GREATEST, c_GREATEST⟩ := k_GREATEST
  refine methXK_mk D sc_Term___init__ (fun vs H Q E h => ?_) (fun cdv A outer s H vs Q E hr h => ?_)
  · obtain ⟨a, dx, x, y, m, rfl, _⟩ := h
    rfl
  · obtain ⟨a, dx, x, y, m, rfl, ha, h⟩ := h
    refine ⟨_, (pss_cons (ps_expr (pe_pcX p_need_words takesF (hr.mono (by decide)) rfl (pa_cons (pv 1) pa_nil)))
      (pss_cons (ps_if (pt_not (pt_val (pe_pc p_is_whole (hr.mono (by decide)) rfl (pa_cons (pv 3) (pa_cons pe_int (pa_cons (pe_glob (v := .int 9999) rfl c_GREATEST ⟨_, rfl⟩) pa_nil)))))) (pss_one (ps_raise1 x_NoNumber pi_NoNumber rfl takesF (hr.mono (by decide)) rfl g_NoNumber (pv 3))) pss_nil)
      (pss_cons (ps_if (pt_not (pt_val (pe_pc p_are_signs (hr.mono (by decide)) rfl (pa_cons (pv 2) (pa_cons (pv 3) pa_nil))))) (pss_one (ps_raise1 x_NoSigns pi_NoSigns rfl takesF (hr.mono (by decide)) rfl g_NoSigns (pv 2))) pss_nil)
      (pss_cons (ps_set (i := 4) sc_Term___init__.nd rfl (Or.inl rfl) (pe_pcX p_places_of takesF (hr.mono (by decide)) rfl (pa_cons (pv 1) (pa_cons (pv 2) pa_nil))))
      (pss_cons (ps_fld (pv 0) (pv 1) rfl)
      (pss_cons (ps_fld (pv 0) (pe_callTy (T := "tuple") (tupleK (K := K)) (by rfl) bt.tuple_ (by decide +kernel) (pa_cons (pv 2) pa_nil)) rfl)
      (pss_one (ps_fld (pv 0) (pe_callTy (T := "tuple") (tupleK (K := K)) (by rfl) bt.tuple_ (by decide +kernel) (pa_cons (pe_pc p_ends_of (hr.mono (by decide)) rfl (pa_cons (pv 4) pa_nil)) pa_nil)) rfl)))))))), ?_⟩
    rcases h with ⟨d, hd, q⟩ | ⟨wa, rows, d, dm, rfl, hW, hP, hd, hm, hh, q⟩
    · exact ⟨_, rfl, x, rfl, .inr ⟨d, hd, fun G e s1 he ge => q G e s1 he ge⟩⟩
    · refine ⟨_, rfl, _, rfl, .inl ⟨wa, rows, rfl, hW, ?_⟩⟩
      refine ⟨_, rfl, m, dm, 1, 9999, rfl, hm, _, rfl, ?_⟩
      unfold dueD at q
      cases c1 : wholeD 1 9999 dm with
      | false =>
        rw [wholeI_none c1] at q
        exact iteT ⟨_, rfl, fun e he => q _ e (Same.new (Same.refl _) he) he (upd_same ..)⟩
      | true =>
        obtain ⟨mi, rfl, em⟩ := wholeI_some c1
        cases hm
        rw [em] at q
        replace q : dueE K H E y (V.int mi) (∀ (G : Hp) (r : Fs), Fx a H G → r.flat = strsD d → r.wf (plS rows) → r.len = 1 → TermAt K G a wa r.flat (r.ends 0) → Q .non G) (if signsD mi d = true then .out (outS rows (strsD d)) else .signs) := q
        refine iteF ⟨_, rfl, _, rfl, y, d, mi, rfl, hd, hh.few, fun H1 s1 => ⟨_, rfl, ?_⟩⟩
        cases c2 : signsD mi d with
        | false =>
          replace q : Rs K H E "NoSigns" "found" y := by
            rw [c2, if_neg Bool.false_ne_true] at q
            exact q
          exact iteT ⟨_, rfl, fun e he => q _ e (s1.trans (Same.new (Same.refl _) he)) (s1.free he) (upd_same ..)⟩
        | true =>
          obtain ⟨ds, es, e1, e2, e3⟩ := signs_strs c2
          obtain ⟨sa, xs, rfl, hS, hA⟩ := (Dt.same s1 hd).seq es
          have ex : xs = (strsD d).map V.str := dtAll_strs (by rw [← e2]; exact hA)
          subst ex
          have lz : (strsD d).length ≤ 20000 := by rw [e1, List.length_map]; exact hh.few ds es
          have hz : ∀ z ∈ strsD d, z.length ≤ 100000 := fun z hz => hh.short ds es (.str z) (by rw [e2]; exact List.mem_map_of_mem hz) z rfl
          rw [c2, if_pos rfl] at q
          refine iteF ⟨_, rfl, _, rfl, wa, sa, rows, strsD d, rfl, hW.same s1, hP, hS, lz, hz, ?_⟩
          cases ho : outS rows (strsD d) with
          | bad i =>
            rw [ho] at q
            exact fun G e s2 he ge => q G e (s1.trans s2) (s1.free he) ge
          | beyond i =>
            rw [ho] at q
            exact fun G e s2 he ge => q G e (s1.trans s2) (s1.free he) ge
          | unended k =>
            rw [ho] at q
            exact fun G e s2 he ge => q G e (s1.trans s2) (s1.free he) ge
          | ok =>
            rw [ho] at q
            replace q : ∀ (G : Hp) (r : Fs), Fx a H G → r.flat = strsD d → r.wf (plS rows) → r.len = 1 → TermAt K G a wa r.flat (r.ends 0) → Q .non G := q
            obtain ⟨hall, hlk⟩ := out_lacks ho
            obtain ⟨r, hr1, hr2, hr3⟩ := parse _ _ hlk
            intro G2 p s2 hp ep
            have s12 := s1.trans s2
            have na : G2 a = some (.ins (tcls K) dx []) := s12 _ _ ha
            have fx2 : Fx a H G2 := Fx.of s12
            have nt : ∀ fs : List (Str × V), ∀ l, HO.ins (tcls K) dx fs ≠ .tup l := fun _ _ => nofun
            have nf : ∀ fs : List (Str × V), ∀ b u, HO.ins (tcls K) dx fs ≠ .frz b u := fun _ _ _ => nofun
            have nl : ∀ fs : List (Str × V), ∀ l, HO.ins (tcls K) dx fs ≠ .lst l := fun _ _ => nofun
            have wr : ∀ {G : Hp} {o o' : HO}, Fx a H G → Fx a H (L2.upd G a o') := fun f => f.upd
            refine ⟨_, rfl, _, rfl, a, _, dx, _, rfl, na, cl, n1, by decide, ?_⟩
            rw [show putF (("term_words" : Str)) (V.ref wa) [] = [((("term_words" : Str)), V.ref wa)] from rfl]
            have pa : p ≠ a := fun e => by rw [e, s1 _ _ ha] at hp; cases hp
            have e3 : L2.upd G2 a (.ins (tcls K) dx [("term_words", .ref wa)]) a = some (.ins (tcls K) dx [("term_words", .ref wa)]) := upd_same ..
            have ep3 : L2.upd G2 a (.ins (tcls K) dx [("term_words", .ref wa)]) p = some (.lst ((strsD d).map fun z => V.int (plN rows z : Nat))) := (upd_ne pa).trans ep
            have f3 : Fx a H (L2.upd G2 a (.ins (tcls K) dx [("term_words", .ref wa)])) := fx2.upd
            have hS3 : Sq K (L2.upd G2 a (.ins (tcls K) dx [("term_words", .ref wa)])) sa ((strsD d).map V.str) := by
              rcases hS.same s2 with h | h
              · exact .inl (SqL.upd na (nl _) (nf _) h)
              · exact .inr (SqT.upd na (nt _) (nf _) h)
            generalize L2.upd G2 a (.ins (tcls K) dx [("term_words", .ref wa)]) = G3 at e3 ep3 f3 hS3 ⊢
            rcases hS3 with hS3 | hS3
            · refine ⟨_, rfl, sa, _, rfl, .inl ⟨hS3, fun st hst => ?_⟩⟩
              (generalize hG : L2.upd _ st _ = G4; have s4 := same_of hG hst; have hT4 := at_of hG; clear hG)
              have e4 := s4 _ _ e3
              have ep4 := s4 _ _ ep3
              have f4 : Fx a H G4 := f3.trans (Fx.of s4)
              replace hT4 : SqT K G4 st ((strsD d).map V.str) := .inl (.inl hT4)
              refine ⟨_, rfl, a, _, dx, _, rfl, e4, cl, n2, by simp, ?_⟩
              rw [show putF ("all_signs" : Str) (V.ref st) [(("term_words" : Str), V.ref wa)] = [(("term_words" : Str), V.ref wa), (("all_signs" : Str), V.ref st)] from rfl]
              have e5 : L2.upd G4 a (.ins (tcls K) dx [("term_words", .ref wa), ("all_signs", .ref st)]) a = some (.ins (tcls K) dx [("term_words", .ref wa), ("all_signs", .ref st)]) := upd_same ..
              have ep5 : L2.upd G4 a (.ins (tcls K) dx [("term_words", .ref wa), ("all_signs", .ref st)]) p = some (.lst ((strsD d).map fun z => V.int (plN rows z : Nat))) := (upd_ne pa).trans ep4
              have f5 : Fx a H (L2.upd G4 a (.ins (tcls K) dx [("term_words", .ref wa), ("all_signs", .ref st)])) := f4.upd
              have hT5 : SqT K (L2.upd G4 a (.ins (tcls K) dx [("term_words", .ref wa), ("all_signs", .ref st)])) st ((strsD d).map V.str) := SqT.upd e4 (nt _) (nf _) hT4
              generalize L2.upd G4 a (.ins (tcls K) dx [("term_words", .ref wa), ("all_signs", .ref st)]) = G5 at e5 ep5 f5 hT5 ⊢
              refine ⟨_, rfl, p, plS rows, r, rfl, hr2, by rw [← Fs.flat_len, hr1]; exact lz, by rw [hr1]; exact .inl (.inl ep5), fun G6 eq6 s6 hq6 ee6 => ?_⟩
              refine ⟨eq6, _, rfl, .inl ⟨.inl (.inl ee6), fun l hl => ?_⟩⟩
              (generalize hG : L2.upd _ l _ = G7; have s7 := same_of hG hl; have e7 := at_of hG; clear hG)
              refine ⟨_, rfl, a, _, dx, _, rfl, s7 _ _ (s6 _ _ e5), cl, n3, by simp, ?_⟩
              have ha7 := s7 _ _ (s6 _ _ e5)
              refine q _ r (fun b o hb e => (upd_ne hb).trans (s7 _ _ (s6 _ _ (f5 b o hb e)))) hr1 hr2 hr3 ⟨dx, st, l, upd_same .., ?_, ?_⟩
              · rw [hr1]
                exact SqT.upd ha7 (nt _) (nf _) (SqT.same (s6.trans s7) hT5)
              · exact SqT.upd ha7 (nt _) (nf _) (.inl (.inl e7))
            · refine ⟨_, rfl, sa, _, rfl, .inr ⟨hS3, ?_⟩⟩
              obtain ⟨st, est⟩ : ∃ st, st = sa := ⟨_, rfl⟩
              obtain ⟨G4, eG4⟩ : ∃ G4, G4 = G3 := ⟨_, rfl⟩
              rw [← eG4] at e3 ep3 f3 hS3
              rw [← est] at hS3
              rw [← eG4, ← est]
              have e4 := e3
              have ep4 := ep3
              have f4 := f3
              have hT4 := hS3
              refine ⟨_, rfl, a, _, dx, _, rfl, e4, cl, n2, by simp, ?_⟩
              rw [show putF ("all_signs" : Str) (V.ref st) [(("term_words" : Str), V.ref wa)] = [(("term_words" : Str), V.ref wa), (("all_signs" : Str), V.ref st)] from rfl]
              have e5 : L2.upd G4 a (.ins (tcls K) dx [("term_words", .ref wa), ("all_signs", .ref st)]) a = some (.ins (tcls K) dx [("term_words", .ref wa), ("all_signs", .ref st)]) := upd_same ..
              have ep5 : L2.upd G4 a (.ins (tcls K) dx [("term_words", .ref wa), ("all_signs", .ref st)]) p = some (.lst ((strsD d).map fun z => V.int (plN rows z : Nat))) := (upd_ne pa).trans ep4
              have f5 : Fx a H (L2.upd G4 a (.ins (tcls K) dx [("term_words", .ref wa), ("all_signs", .ref st)])) := f4.upd
              have hT5 : SqT K (L2.upd G4 a (.ins (tcls K) dx [("term_words", .ref wa), ("all_signs", .ref st)])) st ((strsD d).map V.str) := SqT.upd e4 (nt _) (nf _) hT4
              generalize L2.upd G4 a (.ins (tcls K) dx [("term_words", .ref wa), ("all_signs", .ref st)]) = G5 at e5 ep5 f5 hT5 ⊢
              refine ⟨_, rfl, p, plS rows, r, rfl, hr2, by rw [← Fs.flat_len, hr1]; exact lz, by rw [hr1]; exact .inl (.inl ep5), fun G6 eq6 s6 hq6 ee6 => ?_⟩
              refine ⟨eq6, _, rfl, .inl ⟨.inl (.inl ee6), fun l hl => ?_⟩⟩
              (generalize hG : L2.upd _ l _ = G7; have s7 := same_of hG hl; have e7 := at_of hG; clear hG)
              refine ⟨_, rfl, a, _, dx, _, rfl, s7 _ _ (s6 _ _ e5), cl, n3, by simp, ?_⟩
              have ha7 := s7 _ _ (s6 _ _ e5)
              refine q _ r (fun b o hb e => (upd_ne hb).trans (s7 _ _ (s6 _ _ (f5 b o hb e)))) hr1 hr2 hr3 ⟨dx, st, l, upd_same .., ?_, ?_⟩
              · rw [hr1]
                exact SqT.upd ha7 (nt _) (nf _) (SqT.same (s6.trans s7) hT5)
              · exact SqT.upd ha7 (nt _) (nf _) (.inl (.inl e7))
end

end TS

namespace TS
open PySem PySem.Spec PyProof.Rows L2 TL

/-! ### caught -/
mutual
theorem Dt.dp {K : PySem.W.Frag} {H : Hp} : ∀ {v : V} {d : PyData}, Dt K H v d → d.canLay0 = true → Dp K H v d
  | _, _, .non, _ => .non
  | _, _, .bl b, _ => .bl b
  | _, _, .int i, _ => .int i
  | _, _, .str x, _ => .str x
  | _, _, .lst h a, c => .lst h (DtAll.dp a (by simpa [PyData.canLay0] using c))
  | _, _, .tup h a, c => .tup h (DtAll.dp a (by simpa [PyData.canLay0] using c))
  | _, _, .dct _ _ _, c => by simp [PyData.canLay0] at c
theorem DtAll.dp {K : PySem.W.Frag} {H : Hp} : ∀ {v : List V} {d : List PyData}, DtAll K H v d → PyData.canLayAll0 d = true → DpAll K H v d
  | _, _, .nil, _ => .nil
  | _, _, .cons a b, c => by
    unfold PyData.canLayAll0 at c
    obtain ⟨c1, c2⟩ := Bool.and_eq_true_iff.mp c
    exact .cons (Dt.dp a c1) (DtAll.dp b c2)
end
def exs : List Str := ["NoWords", "NoNumber", "NoSigns", "NoSign", "Beyond", "Unended"]
def exF : List Str := ["found", "found", "found", "at", "at", "many"]
def exK : List Str := ["words", "number", "signs", "sign", "beyond", "unended"]
def leftOut (u : PyData) : Bool := PyData.eqv u (.str "left out")
def mostD (u : PyData) : PyData := if leftOut u then .int 100 else u
def mostV (u : PyData) (v : V) : V := if leftOut u then .int 100 else v
/-- what is told: p is the pair of its kind and the thing -/
def ResP (K : PySem.W.Frag) (G : Hp) (p : Addr) (y m : V) (zs : List Str) : Due → Prop
  | .number => G p = some (.tup [.str "number", m])
  | .signs => G p = some (.tup [.str "signs", y])
  | .out (.bad i) => G p = some (.tup [.str "sign", .int i])
  | .out (.beyond i) => G p = some (.tup [.str "beyond", .int i])
  | .out (.unended i) => G p = some (.tup [.str "unended", .int i])
  | .out .ok => ∃ l, G p = some (.tup [.str "told", .ref l]) ∧ G l = some (.lst (zs.map V.str))
theorem caught_of {K : PySem.W.Frag} {H : Hp} {a dx : Addr} {x y m : V} {C : Hp → Prop} {Q : VK} {E : XK} (ha : H a = none) (hdx : H dx = none) (ne : dx ≠ a)
    (hE : ∀ i, i < 6 → ∀ G e v, Same H G → G e = some (.xd [(exF.getD i "", v)]) → (∀ p, G p = none → Q (.ref p) (L2.upd G p (.tup [.str (exK.getD i ""), v]))) → E (.ref (He.ga K (exs.getD i ""))) (some e) G)
    (ok : ∀ (G : Hp) (wa : Addr) (zs : List Str) (es : List Nat), Same H G → TermAt K G a wa zs es → (∀ G' p l, Same G G' → G p = none → G' p = some (.tup [.str "told", .ref l]) → G' l = some (.lst (zs.map V.str)) → Q (.ref p) G') → C G)
    (h : (∃ d, Dt K H x d ∧ ∀ G p, Same H G → H p = none → G p = some (.tup [.str "words", x]) → Q (.ref p) G) ∨
      (∃ (wa : Addr) (rows : List (Str × Int)) (d dm : PyData), x = .ref wa ∧ WordsAt K H wa rows ∧ RowsP rows ∧ Dt K H y d ∧ Dt K H m dm ∧ Handed d ∧ ∀ G p, Same H G → H p = none → ResP K G p y m (strsD d) (dueD rows d dm) → Q (.ref p) G)) :
    spTIni K [.ref a, x, y, m] (L2.upd (L2.upd H dx (.own a)) a (.ins (tcls K) dx [])) (fun v G => v = .non ∧ C G) E := by
  have s1 : Same H (L2.upd (L2.upd H dx (.own a)) a (.ins (tcls K) dx [])) := fun b o e => by
    rw [upd_ne (ne_of_none e ha), upd_ne (ne_of_none e hdx)]
    exact e
  have ea : L2.upd (L2.upd H dx (.own a)) a (.ins (tcls K) dx []) a = some (.ins (tcls K) dx []) := upd_same ..
  generalize L2.upd (L2.upd H dx (.own a)) a (.ins (tcls K) dx []) = H1 at s1 ea ⊢
  have rs : ∀ i, i < 6 → ∀ v, (∀ G p, Same H G → H p = none → G p = some (.tup [.str (exK.getD i ""), v]) → Q (.ref p) G) → Rs K H1 E (exs.getD i "") (exF.getD i "") v := fun i hi v k G e s2 he ge =>
    hE i hi G e v (s1.trans s2) ge fun p hp => k _ p ((s1.trans s2).trans (Same.new (Same.refl _) hp)) ((s1.trans s2).free hp) (upd_same ..)
  rcases h with ⟨d, hd, q⟩ | ⟨wa, rows, d, dm, rfl, hW, hP, hd, hm, hh, q⟩
  · exact ⟨a, dx, x, y, m, rfl, ea, .inl ⟨d, Dt.same s1 hd, rs 0 (by decide) x q⟩⟩
  · refine ⟨a, dx, _, y, m, rfl, ea, .inr ⟨wa, rows, d, dm, rfl, hW.same s1, hP, Dt.same s1 hd, Dt.same s1 hm, hh, ?_⟩⟩
    cases hD : dueD rows d dm with
    | number => rw [hD] at q; exact rs 1 (by decide) m q
    | signs => rw [hD] at q; exact rs 2 (by decide) y q
    | out o =>
      rw [hD] at q
      cases o with
      | bad i => exact rs 3 (by decide) _ q
      | beyond i => exact rs 4 (by decide) _ q
      | unended i => exact rs 5 (by decide) _ q
      | ok =>
        intro G r fx er _ _ ta
        have sG : Same H G := fun b o e => fx b o (ne_of_none e ha) (s1 _ _ e)
        rw [er] at ta
        exact ⟨rfl, ok G wa _ _ sG ta fun G' p l s2 hp ep el => q G' p (sG.trans s2) (sG.free hp) ⟨l, ep, el⟩⟩
def spCaught8 (K : PySem.W.Frag) : Sp := fun vs H Q _ => ∃ (x y u : V) (d du : PyData), vs = [x, y, u] ∧ Dt K H y d ∧ Handed d ∧ Dt K H u du ∧ SeqAt.shaped du = true ∧
  ((∃ e, Dt K H x e ∧ ∀ G p, Same H G → H p = none → G p = some (.tup [.str "words", x]) → Q (.ref p) G) ∨
  (∃ (wa : Addr) (rows : List (Str × Int)), x = .ref wa ∧ WordsAt K H wa rows ∧ RowsP rows ∧ ∀ G p, Same H G → H p = none → ResP K G p y (mostV du u) (strsD d) (dueD rows d (mostD du)) → Q (.ref p) G))
theorem shaped_lay {d : PyData} (h : SeqAt.shaped d = true) : d.canLay0 = true := (Bool.and_eq_true_iff.mp h).1
section
variable {P : Program} {w : World} {K : PySem.W.Frag} {mg : Str → Option Value} {base : Heap}
abbrev s__law_caught : Stmt := top 47
theorem sc__law_caught : FnScope ["_law_words", "_law_signs_here", "_law_upto", "e"] ["_law_words", "_law_signs_here", "_law_upto"] (defScope s__law_caught) := ⟨rfl, rfl, rfl, by decide +kernel, rfl, by decide +kernel, by decide +kernel⟩

set_option maxHeartbeats 800000 in
theorem ok_caught8 (bt : Bt mg) (m_Term : Mk K (tcls K) (He.ma K (tcls K) "__init__")) (cl_Term : Cls K (tcls K)) (mm_Term_signs : Meth K (tcls K) "signs" (He.ma K (tcls K) "signs")) (g_Term : mg "Term" = some (.ref (tcls K)))
    (hx : ∀ i, i < 6 → ∀ j, j < 6 → PySem.W.exmOne K (.ref (He.ga K (exs.getD i ""))) (.ref (He.ga K (exs.getD j ""))) = some (decide (i = j)))
    (g_NoWords : mg "NoWords" = some (.ref (He.ga K "NoWords"))) (g_NoNumber : mg "NoNumber" = some (.ref (He.ga K "NoNumber"))) (g_NoSigns : mg "NoSigns" = some (.ref (He.ga K "NoSigns"))) (g_NoSign : mg "NoSign" = some (.ref (He.ga K "NoSign"))) (g_Beyond : mg "Beyond" = some (.ref (He.ga K "Beyond"))) (g_Unended : mg "Unended" = some (.ref (He.ga K "Unended")))
    (x_NoWords : OwnV K (He.ga K "NoWords") "found") (x_NoNumber : OwnV K (He.ga K "NoNumber") "found") (x_NoSigns : OwnV K (He.ga K "NoSigns") "found") (x_NoSign : OwnV K (He.ga K "NoSign") "at") (x_Beyond : OwnV K (He.ga K "Beyond") "at") (x_Unended : OwnV K (He.ga K "Unended") "many")
    (p_Term0 : PromAK P w K mg base 4 (He.ma K (tcls K) "__init__") ["self", "words", "signs", "most"] (spTIni K) 3 [] (fun vs zs => vs ++ ([V.int 100] ++ zs))) (p_Term1 : PromAK P w K mg base 4 (He.ma K (tcls K) "__init__") ["self", "words", "signs", "most"] (spTIni K) 3 ["most"] (fun vs zs => vs ++ ([] ++ zs)))
    (p_Term_signs : PromA CX0 P w K mg base 1 (He.ma K (tcls K) "signs") ["self"] (spTSigns K)) (D : Def K mg "_law_caught" s__law_caught) : Prom P w K mg base 6 "_law_caught" ["_law_words", "_law_signs_here", "_law_upto"] (spCaught8 K) := by
  refine prom_mk D sc__law_caught (fun vs H Q E h => ?_) (fun _ _ _ _ _ _ us hl => match us, hl with | [_, _, _], _ => rfl) (fun f cdv A outer s H vs Q E hr h => ?_)
  · obtain ⟨x, y, u, d, du, rfl, _⟩ := h
    rfl
  · obtain ⟨x, y, u, d, du, rfl, hd, hh, hu, su, h⟩ := h
    refine ⟨_, (pss_one (ps_try rfl rfl sc__law_caught.nd (fun W pn xe tk po => (pss_cons (ps_if (pt_cmpR (op_eqDK (K := K) hr.units) (pv 2) pe_str (nomark _)) (pss_one (ps_ret (pe_tup (pa_cons pe_str (pa_cons (pe_pm0 cl_Term mm_Term_signs p_Term_signs (hr.mono (by decide)) (pe_makeSK m_Term p_Term0 tk (hr.mono (by decide)) rfl g_Term (pa_cons (pv 0) (pa_cons (pv 1) pa_nil)) pk_nil)) pa_nil))))) pss_nil)
      (pss_one (ps_ret (pe_tup (pa_cons pe_str (pa_cons (pe_pm0 cl_Term mm_Term_signs p_Term_signs (hr.mono (by decide)) (pe_makeSK m_Term p_Term1 tk (hr.mono (by decide)) rfl g_Term (pa_cons (pv 0) (pa_cons (pv 1) pa_nil)) (pk_cons (pv 2) pk_nil))) pa_nil))))))) (ClausesOk.as_ (i := 3) rfl rfl ⟨rfl, by decide, .inl g_NoWords⟩ (fun a oe cls d pn zc hfl => (pss_one (ps_ret (pe_tup (pa_cons pe_str (pa_cons (pe_xf x_NoWords.xf x_NoWords.no zc hfl (pv 3)) pa_nil)))))) (ClausesOk.as_ (i := 3) rfl rfl ⟨rfl, by decide, .inl g_NoNumber⟩ (fun a oe cls d pn zc hfl => (pss_one (ps_ret (pe_tup (pa_cons pe_str (pa_cons (pe_xf x_NoNumber.xf x_NoNumber.no zc hfl (pv 3)) pa_nil)))))) (ClausesOk.as_ (i := 3) rfl rfl ⟨rfl, by decide, .inl g_NoSigns⟩ (fun a oe cls d pn zc hfl => (pss_one (ps_ret (pe_tup (pa_cons pe_str (pa_cons (pe_xf x_NoSigns.xf x_NoSigns.no zc hfl (pv 3)) pa_nil)))))) (ClausesOk.as_ (i := 3) rfl rfl ⟨rfl, by decide, .inl g_NoSign⟩ (fun a oe cls d pn zc hfl => (pss_one (ps_ret (pe_tup (pa_cons pe_str (pa_cons (pe_xf x_NoSign.xf x_NoSign.no zc hfl (pv 3)) pa_nil)))))) (ClausesOk.as_ (i := 3) rfl rfl ⟨rfl, by decide, .inl g_Beyond⟩ (fun a oe cls d pn zc hfl => (pss_one (ps_ret (pe_tup (pa_cons pe_str (pa_cons (pe_xf x_Beyond.xf x_Beyond.no zc hfl (pv 3)) pa_nil)))))) (ClausesOk.as_ (i := 3) rfl rfl ⟨rfl, by decide, .inl g_Unended⟩ (fun a oe cls d pn zc hfl => (pss_one (ps_ret (pe_tup (pa_cons pe_str (pa_cons (pe_xf x_Unended.xf x_Unended.no zc hfl (pv 3)) pa_nil)))))) ClausesOk.stop)))))))), ?_⟩
    refine ⟨_, rfl, du, .str "left out", hu.dp (shaped_lay su), .str _, su, by decide +kernel, _, rfl, ?_⟩
    unfold mostV mostD leftOut at h
    cases hlo : PyData.eqv du (.str "left out") with
    | true =>
      rw [hlo] at h
      refine iteT ⟨_, rfl, _, rfl, rfl, rfl, fun a dx ha hdx ne => ?_⟩
      refine caught_of (Q := Q) ha hdx ne ?_ ?_ ?_
      · intro i hi G e v sG ge k
        match i, hi with
        | 0, _ => exact ⟨true, hx 0 (by decide) 0 (by decide), fun _ o ho => ⟨_, rfl, rfl, rfl, e, _, _, rfl, ge, rfl, (by show 2 ≤ sizeLine; decide), fun p hp => k p hp⟩, fun z => (by cases z)⟩
        | 1, _ => exact ⟨false, hx 1 (by decide) 0 (by decide), fun z => (by cases z), fun _ => ⟨true, hx 1 (by decide) 1 (by decide), fun _ o ho => ⟨_, rfl, rfl, rfl, e, _, _, rfl, ge, rfl, (by show 2 ≤ sizeLine; decide), fun p hp => k p hp⟩, fun z => (by cases z)⟩⟩
        | 2, _ => exact ⟨false, hx 2 (by decide) 0 (by decide), fun z => (by cases z), fun _ => ⟨false, hx 2 (by decide) 1 (by decide), fun z => (by cases z), fun _ => ⟨true, hx 2 (by decide) 2 (by decide), fun _ o ho => ⟨_, rfl, rfl, rfl, e, _, _, rfl, ge, rfl, (by show 2 ≤ sizeLine; decide), fun p hp => k p hp⟩, fun z => (by cases z)⟩⟩⟩
        | 3, _ => exact ⟨false, hx 3 (by decide) 0 (by decide), fun z => (by cases z), fun _ => ⟨false, hx 3 (by decide) 1 (by decide), fun z => (by cases z), fun _ => ⟨false, hx 3 (by decide) 2 (by decide), fun z => (by cases z), fun _ => ⟨true, hx 3 (by decide) 3 (by decide), fun _ o ho => ⟨_, rfl, rfl, rfl, e, _, _, rfl, ge, rfl, (by show 2 ≤ sizeLine; decide), fun p hp => k p hp⟩, fun z => (by cases z)⟩⟩⟩⟩
        | 4, _ => exact ⟨false, hx 4 (by decide) 0 (by decide), fun z => (by cases z), fun _ => ⟨false, hx 4 (by decide) 1 (by decide), fun z => (by cases z), fun _ => ⟨false, hx 4 (by decide) 2 (by decide), fun z => (by cases z), fun _ => ⟨false, hx 4 (by decide) 3 (by decide), fun z => (by cases z), fun _ => ⟨true, hx 4 (by decide) 4 (by decide), fun _ o ho => ⟨_, rfl, rfl, rfl, e, _, _, rfl, ge, rfl, (by show 2 ≤ sizeLine; decide), fun p hp => k p hp⟩, fun z => (by cases z)⟩⟩⟩⟩⟩
        | 5, _ => exact ⟨false, hx 5 (by decide) 0 (by decide), fun z => (by cases z), fun _ => ⟨false, hx 5 (by decide) 1 (by decide), fun z => (by cases z), fun _ => ⟨false, hx 5 (by decide) 2 (by decide), fun z => (by cases z), fun _ => ⟨false, hx 5 (by decide) 3 (by decide), fun z => (by cases z), fun _ => ⟨false, hx 5 (by decide) 4 (by decide), fun z => (by cases z), fun _ => ⟨true, hx 5 (by decide) 5 (by decide), fun _ o ho => ⟨_, rfl, rfl, rfl, e, _, _, rfl, ge, rfl, (by show 2 ≤ sizeLine; decide), fun p hp => k p hp⟩, fun z => (by cases z)⟩⟩⟩⟩⟩⟩
      · intro G wa zs es sG ta k
        obtain ⟨dx2, s2, e2, e1, _, _⟩ := id ta
        refine ⟨a, dx2, _, rfl, e1, rfl, a, wa, zs, es, rfl, ta, fun l hl => ⟨(by show 2 ≤ sizeLine; decide), fun p hp => ?_⟩⟩
        have sl : Same G (L2.upd G l (.lst (zs.map V.str))) := Same.new (Same.refl _) hl
        exact k _ p l (sl.trans (Same.new (Same.refl _) hp)) (sl.free hp) (upd_same ..) (Same.new (Same.refl _) hp _ _ (upd_same ..))
      · rcases h with ⟨e, he, q⟩ | ⟨wa, rows, rfl, hW, hP, q⟩
        · exact .inl ⟨e, he, q⟩
        · exact .inr ⟨wa, rows, d, .int 100, rfl, hW, hP, hd, .int 100, hh, q⟩
    | false =>
      rw [hlo] at h
      refine iteF ⟨_, rfl, _, rfl, _, rfl, rfl, rfl, fun a dx ha hdx ne => ?_⟩
      refine caught_of (Q := Q) ha hdx ne ?_ ?_ ?_
      · intro i hi G e v sG ge k
        match i, hi with
        | 0, _ => exact ⟨true, hx 0 (by decide) 0 (by decide), fun _ o ho => ⟨_, rfl, rfl, rfl, e, _, _, rfl, ge, rfl, (by show 2 ≤ sizeLine; decide), fun p hp => k p hp⟩, fun z => (by cases z)⟩
        | 1, _ => exact ⟨false, hx 1 (by decide) 0 (by decide), fun z => (by cases z), fun _ => ⟨true, hx 1 (by decide) 1 (by decide), fun _ o ho => ⟨_, rfl, rfl, rfl, e, _, _, rfl, ge, rfl, (by show 2 ≤ sizeLine; decide), fun p hp => k p hp⟩, fun z => (by cases z)⟩⟩
        | 2, _ => exact ⟨false, hx 2 (by decide) 0 (by decide), fun z => (by cases z), fun _ => ⟨false, hx 2 (by decide) 1 (by decide), fun z => (by cases z), fun _ => ⟨true, hx 2 (by decide) 2 (by decide), fun _ o ho => ⟨_, rfl, rfl, rfl, e, _, _, rfl, ge, rfl, (by show 2 ≤ sizeLine; decide), fun p hp => k p hp⟩, fun z => (by cases z)⟩⟩⟩
        | 3, _ => exact ⟨false, hx 3 (by decide) 0 (by decide), fun z => (by cases z), fun _ => ⟨false, hx 3 (by decide) 1 (by decide), fun z => (by cases z), fun _ => ⟨false, hx 3 (by decide) 2 (by decide), fun z => (by cases z), fun _ => ⟨true, hx 3 (by decide) 3 (by decide), fun _ o ho => ⟨_, rfl, rfl, rfl, e, _, _, rfl, ge, rfl, (by show 2 ≤ sizeLine; decide), fun p hp => k p hp⟩, fun z => (by cases z)⟩⟩⟩⟩
        | 4, _ => exact ⟨false, hx 4 (by decide) 0 (by decide), fun z => (by cases z), fun _ => ⟨false, hx 4 (by decide) 1 (by decide), fun z => (by cases z), fun _ => ⟨false, hx 4 (by decide) 2 (by decide), fun z => (by cases z), fun _ => ⟨false, hx 4 (by decide) 3 (by decide), fun z => (by cases z), fun _ => ⟨true, hx 4 (by decide) 4 (by decide), fun _ o ho => ⟨_, rfl, rfl, rfl, e, _, _, rfl, ge, rfl, (by show 2 ≤ sizeLine; decide), fun p hp => k p hp⟩, fun z => (by cases z)⟩⟩⟩⟩⟩
        | 5, _ => exact ⟨false, hx 5 (by decide) 0 (by decide), fun z => (by cases z), fun _ => ⟨false, hx 5 (by decide) 1 (by decide), fun z => (by cases z), fun _ => ⟨false, hx 5 (by decide) 2 (by decide), fun z => (by cases z), fun _ => ⟨false, hx 5 (by decide) 3 (by decide), fun z => (by cases z), fun _ => ⟨false, hx 5 (by decide) 4 (by decide), fun z => (by cases z), fun _ => ⟨true, hx 5 (by decide) 5 (by decide), fun _ o ho => ⟨_, rfl, rfl, rfl, e, _, _, rfl, ge, rfl, (by show 2 ≤ sizeLine; decide), fun p hp => k p hp⟩, fun z => (by cases z)⟩⟩⟩⟩⟩⟩
      · intro G wa zs es sG ta k
        obtain ⟨dx2, s2, e2, e1, _, _⟩ := id ta
        refine ⟨a, dx2, _, rfl, e1, rfl, a, wa, zs, es, rfl, ta, fun l hl => ⟨(by show 2 ≤ sizeLine; decide), fun p hp => ?_⟩⟩
        have sl : Same G (L2.upd G l (.lst (zs.map V.str))) := Same.new (Same.refl _) hl
        exact k _ p l (sl.trans (Same.new (Same.refl _) hp)) (sl.free hp) (upd_same ..) (Same.new (Same.refl _) hp _ _ (upd_same ..))
      · rcases h with ⟨e, he, q⟩ | ⟨wa, rows, rfl, hW, hP, q⟩
        · exact .inl ⟨e, he, q⟩
        · exact .inr ⟨wa, rows, d, du, rfl, hW, hP, hd, hu, hh, q⟩
end

end TS

namespace TS
open PySem PySem.Spec PyProof.Rows L2 TL

/-! ### the law's own look at letters -/
theorem val_ge : ∀ (r : List Nat) (a : Nat), a * 10 ^ r.length ≤ r.foldl (fun acc c => acc * 10 + (c - 48)) a
  | [], a => by simp
  | c :: r, a => by
    have h := val_ge r (a * 10 + (c - 48))
    rw [List.foldl_cons, List.length_cons, Nat.pow_succ]
    refine Nat.le_trans ?_ h
    rw [show a * (10 ^ r.length * 10) = (a * 10) * 10 ^ r.length by rw [Nat.mul_comm (10 ^ r.length) 10, Nat.mul_assoc]]
    exact Nat.mul_le_mul_right _ (by omega)
/-- three figures or more that begin with no nought are no number below a hundred -/
theorem plain_big {r : List Nat} (h : plainL r = true) (h3 : 3 ≤ r.length) : ¬ NumText.digitsVal r ≤ 99 := by
  unfold plainL at h
  obtain ⟨_, h2⟩ := Bool.and_eq_true_iff.mp h
  obtain ⟨h4, h5⟩ := Bool.and_eq_true_iff.mp h2
  match r, h3 with
  | c :: d :: e :: r, _ =>
    have hc := List.all_eq_true.mp h4 c (by simp)
    have h48 : c ≠ 48 := fun e => by subst e; simp at h5
    unfold digit at hc
    obtain ⟨x1, x2⟩ := Bool.and_eq_true_iff.mp hc
    have x1 := of_decide_eq_true x1
    have q := val_ge (d :: e :: r) (0 * 10 + (c - 48))
    have e2 : NumText.digitsVal (c :: d :: e :: r) = (d :: e :: r).foldl (fun acc c => acc * 10 + (c - 48)) (0 * 10 + (c - 48)) := rfl
    rw [e2]
    intro hh
    have p : 10 ^ (d :: e :: r).length ≥ 100 := by
      rw [List.length_cons, List.length_cons, Nat.pow_succ, Nat.pow_succ]
      have := Nat.one_le_pow r.length 10 (by decide)
      omega
    have : (0 * 10 + (c - 48)) * 10 ^ (d :: e :: r).length ≥ 1 * 10 ^ (d :: e :: r).length := Nat.mul_le_mul_right _ (by omega)
    omega
def strI (k : Nat) : Str := toString ((0 : Int) + (k : Int))
def tails : List (List Nat) := (List.range 100).map fun k => tl (strI k)
theorem tails_plain : ∀ r ∈ tails, (plainL r && decide (NumText.digitsVal r ≤ 99)) = true := by decide +kernel
theorem plain_tails {r : List Nat} (h : plainL r = true) (h3 : r.length < 3) : r ∈ tails := by
  unfold plainL at h
  obtain ⟨h1, h2⟩ := Bool.and_eq_true_iff.mp h
  obtain ⟨h4, h5⟩ := Bool.and_eq_true_iff.mp h2
  have h6 := of_decide_eq_true (Bool.and_eq_true_iff.mp h1).1
  have dg : ∀ c ∈ r, ∃ k, k < 10 ∧ c = 48 + k := fun c hc => by
    have := List.all_eq_true.mp h4 c hc
    unfold digit at this
    obtain ⟨x1, x2⟩ := Bool.and_eq_true_iff.mp this
    have := of_decide_eq_true x1
    have := of_decide_eq_true x2
    exact ⟨c - 48, by omega, by omega⟩
  match r, h6, h3 with
  | [c], _, _ =>
    obtain ⟨k, hk, rfl⟩ := dg c (by simp)
    exact (by decide +kernel : ∀ k < 10, [48 + k] ∈ tails) k hk
  | [c, d], _, _ =>
    obtain ⟨k, hk, rfl⟩ := dg c (by simp)
    obtain ⟨j, hj, rfl⟩ := dg d (by simp)
    have hk0 : k ≠ 0 := fun e => by subst e; simp at h5
    exact (by decide +kernel : ∀ k < 10, ∀ j < 10, k ≠ 0 → [48 + k, 48 + j] ∈ tails) k hk j hj hk0
theorem cap_cmp (c : Nat) : (!decide ([c] < [65])) = true ∧ (!decide ([90] < [c])) = true ↔ capL c = true := by
  unfold capL
  simp only [Bool.not_eq_true', decide_eq_false_iff_not, Bool.and_eq_true, decide_eq_true_eq, List.cons_lt_cons_iff, List.lt_irrefl, and_false, or_false]
  omega
theorem inV_strs {z : Str} {l : List Str} : inV (.str z) (l.map V.str) = decide (z ∈ l) := by
  unfold inV
  rw [List.any_map]
  induction l with
  | nil => rfl
  | cons y r ih =>
    rw [List.any_cons, ih]
    show ((y == z) || decide (z ∈ r)) = _
    by_cases h : y = z
    · subst h; simp
    · have h' : ¬ z = y := fun e => h e.symm
      have e : (y == z) = false := by simpa using h
      rw [e]
      simp [h']
def spLLetter : Sp := fun vs H Q _ => ∃ z : Str, vs = [.str z] ∧ z.length ≤ 100000 ∧ ∀ H', Same H H' → Q (.bl (letterL (tl z))) H'
section
variable {P : Program} {w : World} {K : PySem.W.Frag} {mg : Str → Option Value} {base : Heap}
abbrev s__law_is_letter : Stmt := top 45
theorem sc__law_is_letter : FnScope ["_law_sign", "_law_tail", "_law_k"] ["_law_sign"] (defScope s__law_is_letter) := ⟨rfl, rfl, rfl, by decide +kernel, rfl, by decide +kernel, by decide +kernel⟩

set_option maxHeartbeats 800000 in
theorem ok_law_is_letter (bt : Bt mg) (D : Def K mg "_law_is_letter" s__law_is_letter) : Prom P w K mg base 1 "_law_is_letter" ["_law_sign"] spLLetter := by
  refine prom_mk D sc__law_is_letter (fun vs H Q E h => ?_) (fun _ _ _ _ _ _ us hl => match us, hl with | [_], _ => rfl) (fun f cdv A outer s H vs Q E hr h => ?_)
  · obtain ⟨z, rfl, _⟩ := h
    rfl
  · obtain ⟨z, rfl, hz, q⟩ := h
    refine ⟨_, (pss_cons (ps_if (pt_not (pt_chain op_le_str op_le_str pe_str (pe_slice sl_str (pv 0) po_none (po_some pe_int)) pe_str)) (pss_one (ps_ret pe_bl)) pss_nil)
      (pss_cons (ps_set (i := 1) sc__law_is_letter.nd rfl (Or.inl rfl) (pe_slice sl_str (pv 0) (po_some pe_int) po_none))
      (pss_one (ps_ret (pe_or (pe_cmpR op_eq (pv 1) pe_str (nomark _)) (pe_one (pe_and (pe_cmpR op_lt (pe_callB (id := "len") (lenK (K := K)) (by rfl) bt.len_ (by decide +kernel) (pa_cons (pv 1) pa_nil)) pe_int (nomark _)) (pe_one (pe_cmpR (op_inK (K := K)) (pv 1) (pe_lc (own := [("_law_k", 2)]) (g := gName 2) rfl sc__law_is_letter.nd (pi_range1 rfl bt.range_ (pa_cons pe_int pa_nil)) (blkOk_by (N := ["_law_sign", "_law_tail", "_law_k"]) (sc := defScope s__law_is_letter) (by decide +kernel)) (fun _ _ _ _ _ => (pg_name (i := 2) sc__law_is_letter.nd rfl (Or.inl rfl))) (fun _ _ _ _ _ => pts_nil) (fun _ _ _ _ _ => (pe_callTy (T := "str") call_str_int (by rfl) bt.str_ (by decide +kernel) (pa_cons (pv 2) pa_nil)))) rfl))))))))), ?_⟩
    have len0 : (tl z).length = z.length := (len_tl z).symm
    have e1 : tl (cutS z none (some 1)) = (tl z).take 1 := by
      show ((tl z).drop (HT.sIx z.length 0 none)).take (HT.sIx z.length z.length (some ((1 : Nat) : Int)) - HT.sIx z.length 0 none) = _
      rw [HT.sIx_nat, HT.sIx_none]
      show (tl z).take (min 1 z.length - 0) = _
      rw [Nat.sub_zero, ← len0]
      by_cases h : 1 ≤ (tl z).length
      · rw [Nat.min_eq_left h]
      · rw [List.take_of_length_le (by omega), List.take_of_length_le (by omega)]
    have e2 : tl (cutS z (some 1) none) = (tl z).drop 1 := by
      show ((tl z).drop (HT.sIx z.length 0 (some ((1 : Nat) : Int)))).take (HT.sIx z.length z.length none - HT.sIx z.length 0 (some ((1 : Nat) : Int))) = _
      rw [HT.sIx_nat, HT.sIx_none]
      rw [List.take_of_length_le (by rw [List.length_drop]; omega)]
      by_cases h : 1 ≤ z.length
      · rw [Nat.min_eq_left h]
      · rw [List.drop_eq_nil_of_le (by omega), List.drop_eq_nil_of_le (by omega)]
    refine ⟨_, rfl, _, rfl, z, rfl, sz5 hz, _, _, rfl, rfl, _, rfl, ?_⟩
    have eA : ("A" : Str).cps.toList = [65] := by decide +kernel
    have eZ : ("Z" : Str).cps.toList = [90] := by decide +kernel
    have e1' : (cutS z none (some 1)).cps.toList = (tl z).take 1 := e1
    rw [eA, e1']
    cases er : tl z with
    | nil =>
      rw [er] at q
      exact iteF' (by decide) ⟨_, rfl, iteT (q _ (Same.refl _))⟩
    | cons c r =>
      have el : letterL (tl z) = (capL c && (decide (r = []) || (plainL r && decide (NumText.digitsVal r ≤ 99)))) := by rw [er]; rfl
      rw [el] at q
      have no : capL c = false → Q (.bl false) H := fun h => by
        have := q H (Same.refl _)
        rw [h] at this
        exact this
      show if (!decide ([c] < [65])) = true then _ else _
      by_cases h1 : (!decide ([c] < [65])) = true
      · rw [if_pos h1]
        refine ⟨_, _, rfl, rfl, _, rfl, ?_⟩
        rw [eZ, e1', er]
        show if (!(!decide ([90] < [c]))) = true then _ else _
        by_cases h2 : (!decide ([90] < [c])) = true
        · have hc : capL c = true := (cap_cmp c).mp ⟨h1, h2⟩
          rw [h2]
          refine iteF ⟨_, rfl, _, rfl, z, rfl, sz5 hz, ?_⟩
          rw [hc, Bool.true_and] at q
          have e3 : tl (cutS z (some 1) none) = r := by rw [e2, er]; rfl
          have l3 : (cutS z (some 1) none).length = r.length := by rw [len_tl, e3]
          have l4 : r.length ≤ 100000 := by
            have := len0
            rw [er, List.length_cons] at this
            omega
          generalize cutS z (some 1) none = zt at e3 l3 ⊢
          refine ⟨_, rfl, rfl, _, rfl, ?_⟩
          by_cases h0 : r = []
          · have ez : zt = "" := ext_tl (by rw [e3, h0]; decide +kernel)
            rw [decide_eq_true h0] at q
            refine iteT' (decide_eq_true (congrArg V.str ez)) ?_
            exact q _ (Same.refl _)
          · have nz : ¬ V.str zt = V.str "" := fun e => h0 (by
              rw [V.str.inj e] at e3
              rw [← e3]
              decide +kernel)
            rw [decide_eq_false h0, Bool.false_or] at q
            refine iteF' (decide_eq_false nz) ⟨_, rfl, _, _, rfl, ⟨sz5 (by omega), rfl⟩, _, _, rfl, rfl, _, rfl, ?_⟩
            by_cases hl : r.length < 3
            · refine iteT' (decide_eq_true (by omega)) ⟨_, rfl, _, rfl, by decide, by decide, fun L hL => lc_sameF walk_range (fun _ _ => trivial) (by decide) hL (fun i => .str (strI i)) (fun _ => rfl) ?_ ?_⟩
              · intro i H2 C hi s2 k
                exact ⟨_, rfl, _, rfl, by
                  have hi' : i < 100 := hi
                  exact (by decide +kernel : ∀ i : Nat, i < 100 → ((0 : Int) + (i : Int)).natAbs.log2 < 1920) i hi', k _ (Same.refl _)⟩
              · intro H2 s2 eL
                refine ⟨L, _, rfl, .inl (.inl (.inl eL)), rfl, ?_, ?_⟩
                · rw [List.all_eq_true]
                  intro v hv
                  obtain ⟨y, _, rfl⟩ := List.mem_map.mp hv
                  rfl
                · have em : (List.range ((100 : Int)).toNat).map (fun i => V.str (strI i)) = ((List.range 100).map strI).map V.str := by rw [List.map_map]; rfl
                  have ei : inV (.str zt) ((List.range ((100 : Int)).toNat).map (fun i => V.str (strI i))) = (plainL r && decide (NumText.digitsVal r ≤ 99)) := by
                    rw [em, inV_strs]
                    cases hp : (plainL r && decide (NumText.digitsVal r ≤ 99)) with
                    | true =>
                      have hm := plain_tails (Bool.and_eq_true_iff.mp hp).1 hl
                      obtain ⟨k, hk, ek⟩ := List.mem_map.mp hm
                      exact decide_eq_true (List.mem_map.mpr ⟨k, hk, ext_tl (by rw [e3]; exact ek)⟩)
                    | false =>
                      refine decide_eq_false fun hm => ?_
                      obtain ⟨k, hk, ek⟩ := List.mem_map.mp hm
                      have := tails_plain r (List.mem_map.mpr ⟨k, hk, by rw [ek, e3]⟩)
                      rw [hp] at this
                      cases this
                  have := q H2 s2
                  rw [← ei] at this
                  exact this
            · refine iteF' (decide_eq_false (by omega)) ?_
              have e4 : (plainL r && decide (NumText.digitsVal r ≤ 99)) = false := by
                cases hp : plainL r with
                | false => rfl
                | true => rw [decide_eq_false (plain_big hp (by omega))]; rfl
              rw [e4] at q
              exact q _ (Same.refl _)
        · refine iteT' (by simpa using h2) (no ?_)
          cases hc : capL c with
          | false => rfl
          | true => exact absurd ((cap_cmp c).mpr hc).2 h2
      · rw [if_neg h1]
        refine ⟨_, rfl, iteT (no ?_)⟩
        cases hc : capL c with
        | false => rfl
        | true => exact absurd ((cap_cmp c).mpr hc).1 h1
end

end TS

namespace TS
open PySem PySem.Spec PyProof.Rows L2 TL

/-! ### what is due -/
def prV (r : Str × Int) : Key × V := (Sum.inr r.1, .int r.2)
theorem merge_new : ∀ {kvs acc : List (Key × V)}, ((acc ++ kvs).map (·.1)).Nodup → mergeK acc kvs = acc ++ kvs
  | [], acc, _ => by rw [List.append_nil]; rfl
  | kv :: r, acc, h => by
    have e : putK acc kv.1 kv.2 = acc ++ [kv] := by
      refine putK_new _ (valV_none fun x hx e => ?_)
      rw [List.map_append, List.nodup_append] at h
      exact h.2.2 x.1 (List.mem_map_of_mem hx) kv.1 (by simp) e
    show mergeK (putK acc kv.1 kv.2) r = _
    rw [e, merge_new (by rw [List.append_assoc]; exact h), List.append_assoc]
    rfl
theorem rows_pairs {K : PySem.W.Frag} {H : Hp} : ∀ {rows : List (Str × Int)} {xs : List V}, DtAll K H xs (rows.map rowPy) → ∃ ps : List Addr, xs = ps.map V.ref ∧ Paired (fun p kv => SqT K H p [kV kv.1, kv.2]) ps (rows.map prV)
  | [], _, h => by cases h; exact ⟨[], rfl, .nil⟩
  | r :: rs, _, h => by
    cases h with
    | cons h0 t =>
      obtain ⟨ps, rfl, hp⟩ := rows_pairs t
      obtain ⟨a, ys, rfl, hT, hA⟩ := h0.tup_inv
      cases hA with
      | cons y0 t1 => cases t1 with
      | cons y1 t2 => cases t2 with
      | nil =>
      cases y0
      cases y1
      exact ⟨a :: ps, rfl, .cons hT hp⟩
theorem pr_val : ∀ (rows : List (Str × Int)) (z : Str), valV (rows.map prV) (Sum.inr z) = if z ∈ rows.map (·.1) then some (.int (plR rows z)) else none
  | [], z => rfl
  | r :: rs, z => by
    unfold valV plR
    rw [List.map_cons, List.find?_cons, List.find?_cons]
    by_cases e : r.1 = z
    · have e1 : decide ((prV r).1 = (Sum.inr z : Key)) = true := decide_eq_true (congrArg Sum.inr e)
      rw [e1, decide_eq_true e, if_pos (by simp [e])]
      rfl
    · have e1 : decide ((prV r).1 = (Sum.inr z : Key)) = false := decide_eq_false fun h => e (Sum.inr.inj h)
      have e2 : (z ∈ (r :: rs).map (·.1)) ↔ z ∈ rs.map (·.1) := by
        rw [List.map_cons, List.mem_cons]
        exact ⟨fun h => h.elim (fun h => absurd h.symm e) id, .inr⟩
      have ih := pr_val rs z
      unfold valV plR at ih
      rw [e1, decide_eq_false e]
      simp only [e2]
      exact ih
theorem name_small {z : Str} (h : nameS z = true) : letterL (tl z) = false := by
  unfold nameS at h
  obtain ⟨h1, h2⟩ := Bool.and_eq_true_iff.mp h
  cases er : tl z with
  | nil => rfl
  | cons c r =>
    have hc := List.all_eq_true.mp h2 c (by show c ∈ tl z; rw [er]; simp)
    obtain ⟨h3, h4⟩ := Bool.and_eq_true_iff.mp hc
    have h3 := of_decide_eq_true h3
    show (capL c && _) = false
    unfold capL
    rw [decide_eq_false (show ¬ c ≤ 90 by omega), Bool.and_false, Bool.false_and]
theorem no_letter {rows : List (Str × Int)} (ro : RowsOk rows) {z : Str} (h : z ∈ rows.map (·.1)) : letterL (tl z) = false := by
  obtain ⟨r, hr, rfl⟩ := List.mem_map.mp h
  exact name_small (ro.names r hr)
theorem plS_none {rows : List (Str × Int)} {z : Str} : (plS rows z).isNone = (!decide (z ∈ rows.map (·.1)) && !letterL (tl z)) := by
  unfold plS
  by_cases hL : letterL (tl z) = true
  · rw [if_pos hL, hL, Bool.not_true, Bool.and_false]; rfl
  · rw [if_neg hL, Bool.eq_false_iff.mpr hL]
    by_cases hm : z ∈ rows.map (·.1)
    · rw [if_pos hm, decide_eq_true hm]; rfl
    · rw [if_neg hm, decide_eq_false hm]; rfl
theorem get_plN {rows : List (Str × Int)} (ro : RowsOk rows) (z : Str) : (valV (rows.map prV) (Sum.inr z)).getD (.int 0) = .int (plN rows z : Nat) := by
  rw [pr_val]
  unfold plN plS
  by_cases hm : z ∈ rows.map (·.1)
  · have := plR_in ⟨ro.lo, ro.hi⟩ z
    rw [if_pos hm, no_letter ro hm, if_neg Bool.false_ne_true, if_pos hm]
    show V.int (plR rows z) = V.int ((plR rows z).toNat : Nat)
    rw [show (((plR rows z).toNat : Nat) : Int) = plR rows z by omega]
  · rw [if_neg hm]
    split
    · rfl
    · rfl
def HandedL (d : PyData) : Prop := ∀ ds, seqD d = some ds → ∀ e ∈ ds, e.canLay0 = true ∧ e.depth ≤ 30
def spDue (K : PySem.W.Frag) : Sp := fun vs H Q _ => ∃ (rw_ : Addr) (y m : V) (rows : List (Str × Int)) (d dm : PyData), vs = [.ref rw_, y, m] ∧ RowsOk rows ∧ Dt K H (.ref rw_) (.list (rows.map rowPy)) ∧ Dt K H y d ∧ Handed d ∧ HandedL d ∧ Dt K H m dm ∧
  ∀ G p, Same H G → H p = none → ResP K G p y m (strsD d) (dueD rows d dm) → Q (.ref p) G
theorem lay_all : ∀ {ds : List PyData}, (∀ e ∈ ds, e.canLay0 = true) → PyData.canLayAll0 ds = true
  | [], _ => rfl
  | d :: r, h => by unfold PyData.canLayAll0; rw [h d (by simp), lay_all fun x m => h x (List.mem_cons_of_mem _ m)]; rfl
theorem shaped_list {ds : List PyData} (h : ∀ e ∈ ds, e.canLay0 = true ∧ e.depth ≤ 30) : SeqAt.shaped (.list ds) = true := by
  unfold SeqAt.shaped
  rw [show (PyData.list ds).canLay0 = true by unfold PyData.canLay0; exact lay_all fun e m => (h e m).1, Bool.true_and]
  refine decide_eq_true ?_
  unfold PyData.depth
  have := all_deep fun e m => (h e m).2
  omega
theorem eqvAll_nil (l : List PyData) : PyData.eqv (.list l) (.list []) = l.isEmpty := by
  unfold PyData.eqv
  cases l <;> rfl
section
variable {P : Program} {w : World} {K : PySem.W.Frag} {mg : Str → Option Value} {base : Heap}
abbrev s__law_due : Stmt := top 46
theorem sc__law_due : FnScope ["_law_rows_here", "_law_signs_here", "_law_upto", "_law_places", "_law_at", "_law_sign", "_law_lacking"] ["_law_rows_here", "_law_signs_here", "_law_upto"] (defScope s__law_due) := ⟨rfl, rfl, rfl, by decide +kernel, rfl, by decide +kernel, by decide +kernel⟩

set_option maxHeartbeats 800000 in
theorem ok_due (bt : Bt mg) (p__law_is_letter : Prom P w K mg base 1 "_law_is_letter" ["_law_sign"] spLLetter) (D : Def K mg "_law_due" s__law_due) : Prom P w K mg base 2 "_law_due" ["_law_rows_here", "_law_signs_here", "_law_upto"] (spDue K) := by
  refine prom_mk D sc__law_due (fun vs H Q E h => ?_) (fun _ _ _ _ _ _ us hl => match us, hl with | [_, _, _], _ => rfl) (fun f cdv A outer s H vs Q E hr h => ?_)
  · obtain ⟨rw_, y, m, rows, d, dm, rfl, _⟩ := h
    rfl
  · obtain ⟨rw_, y, m, rows, d, dm, rfl, ro, hrw, hd, hh, hhl, hm, q⟩ := h
    refine ⟨_, (pss_cons (ps_if (PW.pt (pw_or (pt_val (pe_callB (id := "isinstance") (isiK (K := K)) (by rfl) bt.isinstance_ (by decide +kernel) (pa_cons (pv 2) (pa_cons (pe_bltn (v := .ty "bool") rfl bt.bool_ (by decide +kernel) rfl) pa_nil)))) (pw_or (pt_not (pt_val (pe_callB (id := "isinstance") (isiK (K := K)) (by rfl) bt.isinstance_ (by decide +kernel) (pa_cons (pv 2) (pa_cons (pe_bltn (v := .ty "int") rfl bt.int_ (by decide +kernel) rfl) pa_nil))))) (pw_or1 (pt_not (pt_chain op_le op_le pe_int (pv 2) pe_int)))))) (pss_one (ps_ret (pe_tup (pa_cons pe_str (pa_cons (pv 2) pa_nil))))) pss_nil)
      (pss_cons (ps_if (PW.pt (pw_or (pt_not (pt_val (pe_callB (id := "isinstance") (isiTK (K := K)) (by rfl) bt.isinstance_ (by decide +kernel) (pa_cons (pv 1) (pa_cons (pe_tup (pa_cons (pe_bltn (v := .ty "list") rfl bt.list_ (by decide +kernel) rfl) (pa_cons (pe_bltn (v := .ty "tuple") rfl bt.tuple_ (by decide +kernel) rfl) pa_nil))) pa_nil))))) (pw_or1 (pt_not (pt_chain op_lt op_le pe_int (pe_callB (id := "len") (lenK (K := K)) (by rfl) bt.len_ (by decide +kernel) (pa_cons (pv 1) pa_nil)) (pv 2)))))) (pss_one (ps_ret (pe_tup (pa_cons pe_str (pa_cons (pv 1) pa_nil))))) pss_nil)
      (pss_cons (ps_if (pt_cmpR (op_neDK (K := K) hr.units) (pe_lc (own := [("_law_sign", 5)]) (g := gName 5) rfl sc__law_due.nd (pi_either (pi_listK (K := K) rfl (pv 1)) (pi_tupK (K := K) rfl (pv 1))) (blkOk_by (N := ["_law_rows_here", "_law_signs_here", "_law_upto", "_law_places", "_law_at", "_law_sign", "_law_lacking"]) (sc := defScope s__law_due) (by decide +kernel)) (fun _ _ _ _ _ => (pg_name (i := 5) sc__law_due.nd rfl (Or.inl rfl))) (fun _ _ _ _ _ => (pts_one (pt_not (pt_val (pe_callB (id := "isinstance") (isiK (K := K)) (by rfl) bt.isinstance_ (by decide +kernel) (pa_cons (pv 5) (pa_cons (pe_bltn (v := .ty "str") rfl bt.str_ (by decide +kernel) rfl) pa_nil))))))) (fun _ _ _ _ _ => (pv 5))) (pe_lst pa_nil) (nomark _)) (pss_one (ps_ret (pe_tup (pa_cons pe_str (pa_cons (pv 1) pa_nil))))) pss_nil)
      (pss_cons (ps_set (i := 3) sc__law_due.nd rfl (Or.inl rfl) (pe_callTy (T := "dict") (call_dictP rfl) (by rfl) bt.dict_ (by decide +kernel) (pa_cons (pv 0) pa_nil)))
      (pss_cons (ps_for PassesOwn.never rfl (pi_either (pi_enumK (K := K) rfl rfl bt.enumerate_ (pa_cons (pv 1) pa_nil)) (pi_enumT (K := K) rfl rfl bt.enumerate_ (pa_cons (pv 1) pa_nil))) (pg_tupK (K := K) (n := 2) rfl rfl (pgs_cons (pg_name (i := 4) sc__law_due.nd rfl (Or.inl rfl)) (pgs_cons (pg_name (i := 5) sc__law_due.nd rfl (Or.inl rfl)) pgs_nil))) (pss_one (ps_if (PW.pt (pw_and (pt_cmp (pc_dnotin (units1 hr) (pv 5) (pv 3))) (pw_and1 (pt_not (pt_val (pe_pc p__law_is_letter (hr.mono (by decide)) rfl (pa_cons (pv 5) pa_nil))))))) (pss_one (ps_ret (pe_tup (pa_cons pe_str (pa_cons (pv 4) pa_nil))))) pss_nil)))
      (pss_cons (ps_set (i := 6) sc__law_due.nd rfl (Or.inl rfl) pe_int)
      (pss_cons (ps_for PassesOwn.never rfl (pi_either (pi_enumK (K := K) rfl rfl bt.enumerate_ (pa_cons (pv 1) pa_nil)) (pi_enumT (K := K) rfl rfl bt.enumerate_ (pa_cons (pv 1) pa_nil))) (pg_tupK (K := K) (n := 2) rfl rfl (pgs_cons (pg_name (i := 4) sc__law_due.nd rfl (Or.inl rfl)) (pgs_cons (pg_name (i := 5) sc__law_due.nd rfl (Or.inl rfl)) pgs_nil))) (pss_cons (ps_if (pt_cmpR op_eq (pv 6) pe_int (nomark _)) (pss_one (ps_ret (pe_tup (pa_cons pe_str (pa_cons (pv 4) pa_nil))))) pss_nil)
      (pss_one (ps_set (i := 6) sc__law_due.nd rfl (Or.inl rfl) (pe_op op_add (pe_op op_sub (pv 6) pe_int) (pe_dget2 (units1 hr) (pv 3) (pv 5) pe_int ⟨rfl, rfl, rfl, rfl⟩))))))
      (pss_one (ps_ret (pe_ifExp (pt_cmpR op_eq (pv 6) pe_int (nomark _)) (pe_tup (pa_cons pe_str (pa_cons (pe_callTy (T := "list") (listK (K := K)) (by rfl) bt.list_ (by decide +kernel) (pa_cons (pv 1) pa_nil)) pa_nil))) (pe_tup (pa_cons pe_str (pa_cons (pv 6) pa_nil))))))))))))), ?_⟩
    refine ⟨_, rfl, _, _, _, _, isD "bool" dm, rfl, .ty "bool", hm.ty, isi_bool, _, rfl, ?_⟩
    have num : wholeI dm = none → ∀ p, H p = none → Q (.ref p) (L2.upd H p (.tup [.str "number", m])) := fun e p hp => q _ p (Same.new (Same.refl _) hp) hp (by
      unfold dueD
      rw [e]
      exact upd_same ..)
    cases cb : isD "bool" dm with
    | true =>
      obtain ⟨b, rfl⟩ := isD_bool cb
      exact iteT (iteT ⟨_, rfl, (by show 2 ≤ sizeLine; decide), fun p hp => num rfl p hp⟩)
    | false =>
      refine iteF ⟨_, rfl, _, _, _, _, isD "int" dm, rfl, .ty "int", hm.ty, isi_int, _, rfl, ?_⟩
      cases ci : isD "int" dm with
      | false =>
        refine iteT (iteT ⟨_, rfl, (by show 2 ≤ sizeLine; decide), fun p hp => num ?_ p hp⟩)
        cases dm <;> first | rfl | (rw [isD_ints] at ci; cases ci)
      | true =>
        obtain ⟨mi, rfl⟩ : ∃ i, dm = .int i := by
          rcases isD_int ci with h | ⟨b, rfl⟩
          · exact h
          · rw [isD_bools] at cb; cases cb
        cases hm
        refine iteF ⟨_, rfl, _, _, rfl, rfl, _, rfl, ?_⟩
        by_cases w1 : 1 ≤ mi
        rotate_left
        · rw [decide_eq_false w1]
          exact iteF ⟨_, rfl, iteT ⟨_, rfl, (by show 2 ≤ sizeLine; decide), fun p hp => num (if_neg fun h => w1 h.1) p hp⟩⟩
        rw [decide_eq_true w1]
        refine iteT ⟨_, _, rfl, rfl, _, rfl, ?_⟩
        by_cases w2 : mi ≤ 9999
        rotate_left
        · rw [decide_eq_false w2]
          exact iteT ⟨_, rfl, (by show 2 ≤ sizeLine; decide), fun p hp => num (if_neg fun h => w2 h.2) p hp⟩
        rw [decide_eq_true w2]
        have em : wholeI (.int mi) = some mi := if_pos ⟨w1, w2⟩
        have eD : dueD rows d (.int mi) = if signsD mi d = true then .out (outS rows (strsD d)) else .signs := by
          unfold dueD
          rw [em]
        rw [eD] at q
        have sig : signsD mi d = false → ∀ G p, Same H G → G p = none → Q (.ref p) (L2.upd G p (.tup [.str "signs", y])) := fun e G p sG hp => q _ p (sG.trans (Same.new (Same.refl _) hp)) (sG.free hp) (by
          rw [e, if_neg Bool.false_ne_true]
          exact upd_same ..)
        refine iteF ⟨_, rfl, (by show 2 ≤ sizeLine; decide), fun T hT => ⟨_, T, [.ty "list", .ty "tuple"], _, _, isD "list" d || isD "tuple" d, rfl, upd_same .., .cons (.ty "list") (.cons (.ty "tuple") .nil), (Dt.same (Same.new (Same.refl _) hT) hd).ty, isi_lt, _, rfl, ?_⟩⟩
        (generalize hG : L2.upd _ T _ = H0; have sT := same_of hG hT; have eT := at_of hG; clear hG)
        cases c : (isD "list" d || isD "tuple" d) with
        | false =>
          refine iteT (iteT ⟨_, rfl, (by show 2 ≤ sizeLine; decide), fun p hp => sig ?_ _ p sT hp⟩)
          unfold signsD
          rw [seq_nokind c]
        | true =>
          obtain ⟨ds, es⟩ := seq_kind c
          obtain ⟨a, xs, rfl, hS, hA⟩ := (Dt.same sT hd).seq es
          have hl := hA.length
          have h20 := hh.few ds es
          have esg : signsD mi d = (decide (1 ≤ ds.length) && decide ((ds.length : Int) ≤ mi) && ds.all isStrD) := by unfold signsD; rw [es]
          refine iteF ⟨_, rfl, _, _, rfl, hS.len, _, _, rfl, rfl, _, rfl, ?_⟩
          by_cases h1 : 1 ≤ ds.length
          rotate_left
          · rw [decide_eq_false (show ¬ (0 : Int) < (xs.length : Nat) by omega)]
            exact iteF ⟨_, rfl, iteT ⟨_, rfl, (by show 2 ≤ sizeLine; decide), fun p hp => sig (by rw [esg, decide_eq_false h1]; rfl) _ p sT hp⟩⟩
          rw [decide_eq_true (show (0 : Int) < (xs.length : Nat) by omega)]
          refine iteT ⟨_, rfl, _, _, rfl, rfl, _, rfl, ?_⟩
          by_cases h2 : (ds.length : Int) ≤ mi
          rotate_left
          · rw [decide_eq_false (show ¬ ((xs.length : Nat) : Int) ≤ mi by omega)]
            exact iteT ⟨_, rfl, (by show 2 ≤ sizeLine; decide), fun p hp => sig (by rw [esg, decide_eq_false h2, Bool.and_false]; rfl) _ p sT hp⟩
          rw [decide_eq_true (show ((xs.length : Nat) : Int) ≤ mi by omega)]
          rw [decide_eq_true h1, decide_eq_true h2, Bool.true_and, Bool.true_and] at esg
          refine iteF (seq_it rfl hS fun J G wk hG L hL => lc_it wk (fun i G' => Same H0 G' ∧ ∃ acc, G' L = some (.lst acc) ∧ acc.length ≤ i ∧ DtAll K H0 acc ((ds.take i).filter fun d => !isStrD d)) ⟨Same.new (Same.refl _) hL, [], upd_same .., Nat.le_refl _, .nil⟩ (fun i G' _ p => hG G' p.1) ?_ ?_)
          · rintro i x H2 H3 hi ⟨s2, acc, eL, la, hac⟩ ⟨rfl, hx⟩
            obtain ⟨di, hdi, hx2⟩ := hA.get hx
            have et : (ds.take (i + 1)).filter (fun d => !isStrD d) = (ds.take i).filter (fun d => !isStrD d) ++ (if isStrD di then [] else [di]) := by
              rw [List.take_add_one, hdi, List.filter_append]
              cases hs : isStrD di <;> simp [hs]
            refine ⟨rfl, _, rfl, _, _, _, _, isD "str" di, rfl, .ty "str", (Dt.same s2 hx2).ty, isi_str, _, rfl, ?_⟩
            rw [isStr_eq]
            cases hs : isStrD di with
            | true =>
              rw [hs, if_pos rfl, List.append_nil] at et
              exact iteF ⟨s2, acc, eL, Nat.le_succ_of_le la, by rw [et]; exact hac⟩
            | false =>
              rw [hs, if_neg Bool.false_ne_true] at et
              exact iteT ⟨_, rfl, acc, eL, sz5' (by omega), Same.keep s2 hL, acc ++ [x], upd_same .., by rw [List.length_append]; exact Nat.add_le_add_right la 1, by rw [et]; exact DtAll.append hac (.cons hx2 .nil)⟩
          · rintro H2 ⟨s2, acc, eL, la, hac⟩
            refine ⟨(by show 0 ≤ sizeLine; decide), fun N hN => ?_⟩
            (generalize hG : L2.upd _ N _ = H3; have sN := same_of hG hN; have eN := at_of hG; clear hG)
            rw [List.take_of_length_le (by omega)] at hac
            have s03 := s2.trans sN
            have hl3 : ∀ e ∈ ds.filter (fun d => !isStrD d), e.canLay0 = true ∧ e.depth ≤ 30 := fun e he => hhl ds es e (List.mem_filter.mp he).1
            refine ⟨_, _, Dp.lst (.inl (.inl (sN _ _ eL))) ((DtAll.same s03 hac).dp (lay_all fun e he => (hl3 e he).1)), Dp.lst (.inl (.inl eN)) .nil, shaped_list hl3, by decide +kernel, _, rfl, ?_⟩
            rw [eqvAll_nil]
            have sH3 := sT.trans s03
            cases ha : ds.all isStrD with
            | false =>
              have : (ds.filter (fun d => !isStrD d)).isEmpty = false := by
                obtain ⟨e, he, hne⟩ := List.all_eq_false.mp ha
                have hm : e ∈ ds.filter (fun d => !isStrD d) := List.mem_filter.mpr ⟨he, by simpa using hne⟩
                cases hf : ds.filter (fun d => !isStrD d) with
                | nil => rw [hf] at hm; cases hm
                | cons _ _ => rfl
              rw [this]
              exact iteT ⟨_, rfl, (by show 2 ≤ sizeLine; decide), fun p hp => sig (by rw [esg, ha]) _ p sH3 hp⟩
            | true =>
              have : (ds.filter (fun d => !isStrD d)).isEmpty = true := by
                rw [List.isEmpty_iff, List.filter_eq_nil_iff]
                intro e he
                rw [List.all_eq_true.mp ha e he]
                decide
              rw [this]
              rw [ha] at esg
              rw [esg, if_pos rfl] at q
              obtain ⟨ds', es', ez1, ez2, _⟩ := signs_strs esg
              have : ds' = ds := Option.some.inj (es'.symm.trans es)
              subst this
              have hz : ∀ z ∈ strsD d, z.length ≤ 100000 := fun z hz => hh.short ds' es (.str z) (by rw [ez2]; exact List.mem_map_of_mem hz) z rfl
              have lz : (strsD d).length ≤ 20000 := by rw [ez1, List.length_map]; exact h20
              have ex : xs = (strsD d).map V.str := dtAll_strs (by rw [← ez2]; exact hA)
              subst ex
              obtain ⟨zs, hzs⟩ : ∃ zs, zs = strsD d := ⟨_, rfl⟩
              rw [← hzs] at q hz lz hS
              obtain ⟨_, xr, er, hrL, hrA⟩ := (Dt.same sH3 hrw).list_inv
              cases er
              obtain ⟨ps, eps, hps⟩ := rows_pairs hrA
              refine iteF ⟨_, rfl, rw_, ps, _, rfl, by rw [← eps]; exact hrL, hps, fun PD hPD => ?_⟩
              rw [merge_new (acc := []) (by
                rw [List.nil_append, List.map_map]
                exact List.pairwise_map.mpr ((List.pairwise_map.mp ro.nd).imp fun z e => z (Sum.inr.inj e))), List.nil_append]
              (generalize hG : L2.upd _ PD _ = H5; have sP := same_of hG hPD; have eP := at_of hG; clear hG)
              have sH5 := sH3.trans sP
              have hS5 := hS.same (s03.trans sP)
              have lm : (zs.map V.str).length = zs.length := List.length_map ..
              have at_z : ∀ {i : Nat} {x : V}, (zs.map V.str)[i]? = some x → ∃ z, zs[i]? = some z ∧ x = .str z := fun {i x} hx => by
                rw [List.getElem?_map] at hx
                cases hq : zs[i]? with
                | none => rw [hq] at hx; cases hx
                | some z => rw [hq] at hx; cases hx; exact ⟨z, rfl, rfl⟩
              refine enum_it (K := K) (H := H5) rfl hS5 fun J G wk hG => for_it wk (fun i τ G' => (∃ x4 x5 x6, τ = [some (.ref rw_), some (.ref a), some (.int mi), some (.ref PD), x4, x5, x6]) ∧ Same H5 G' ∧ ∀ z ∈ zs.take i, (plS rows z).isNone = false)
                ⟨⟨_, _, _, rfl⟩, Same.refl _, by simp⟩ (fun i τ G' _ p => hG G' p.2.1) ?_ ?_
              · rintro i v τ G1 G2 hi ⟨⟨x4, x5, x6, rfl⟩, s5, al⟩ ⟨T2, y2, x, rfl, hT2, rfl, ey, hx⟩
                cases ey
                obtain ⟨z, hzi, rfl⟩ := at_z hx
                (generalize hG : L2.upd _ T2 _ = G3; have sT2 := same_of hG hT2; have eT2 := at_of hG; clear hG)
                have s6 := s5.trans sT2
                have hzl := hz z (List.mem_of_getElem? hzi)
                refine ⟨T2, _, rfl, .inl (.inl eT2), rfl, _, _, rfl, _, _, rfl, rfl, ?_⟩
                refine ⟨_, rfl, _, rfl, PD, _, rfl, DGet.k (k := Sum.inr z) (s6 _ _ eP), _, rfl, ?_⟩
                rw [pr_val]
                have nx : (plS rows z).isNone = false → ∀ y ∈ zs.take (i + 1), (plS rows y).isNone = false := fun h y hy => by
                  rw [List.take_succ, hzi] at hy
                  rcases List.mem_append.mp hy with m | m
                  · exact al y m
                  · rw [List.mem_singleton.mp m]; exact h
                by_cases hm : z ∈ rows.map (·.1)
                · rw [if_pos hm]
                  exact iteF (iteF ⟨⟨_, _, _, rfl⟩, s6, nx (by rw [plS_none, decide_eq_true hm]; rfl)⟩)
                · rw [if_neg hm]
                  refine iteT ⟨_, rfl, z, rfl, hzl, fun G4 s4 => ⟨_, rfl, ?_⟩⟩
                  cases hL : letterL (tl z) with
                  | true => exact iteF ⟨⟨_, _, _, rfl⟩, s6.trans s4, nx (by rw [plS_none, hL, Bool.not_true, Bool.and_false])⟩
                  | false =>
                    have sH7 := (sH5.trans s6).trans s4
                    refine iteT ⟨_, rfl, (by show 2 ≤ sizeLine; decide), fun p hp => q _ p (sH7.trans (Same.new (Same.refl _) hp)) (sH7.free hp) ?_⟩
                    unfold outS
                    rw [findIdx_at hzi (by rw [plS_none, hL, decide_eq_false hm]; rfl) al]
                    exact upd_same ..
              · rintro τ G1 ⟨⟨x4, x5, x6, rfl⟩, s5, al⟩
                rw [lm, List.take_length] at al
                have eo : outS rows zs = scan 1 0 (zs.map (plN rows)) := by
                  unfold outS
                  rw [findIdx_no al]
                rw [eo] at q
                refine enum_it0 (K := K) (H := G1) rfl (hS5.same s5) (Same.refl _) fun J G wk hG => for_it wk (fun i τ G' => (∃ (k : Nat), (∃ x4 x5, τ = [some (.ref rw_), some (.ref a), some (.int mi), some (.ref PD), x4, x5, some (.int k)]) ∧ scan k i ((zs.map (plN rows)).drop i) = scan 1 0 (zs.map (plN rows))) ∧ Same G1 G')
                  ⟨⟨1, ⟨_, _, rfl⟩, rfl⟩, Same.refl _⟩ (fun i τ G' _ p => hG G' p.2) ?_ ?_
                · rintro i v τ G2 G3 hi ⟨⟨k, ⟨y1, y2, rfl⟩, hk⟩, s2'⟩ ⟨T2, y2, x, rfl, hT2, rfl, ey, hx⟩
                  cases ey
                  obtain ⟨z, hzi, rfl⟩ := at_z hx
                  (generalize hG : L2.upd _ T2 _ = G4; have sT2 := same_of hG hT2; have eT2 := at_of hG; clear hG)
                  have s4 := s2'.trans sT2
                  have sH4 := (sH5.trans s5).trans s4
                  have ed : (zs.map (plN rows)).drop i = plN rows z :: (zs.map (plN rows)).drop (i + 1) := List.drop_eq_getElem?_toList_append .. ▸ (by rw [List.getElem?_map, hzi]; rfl)
                  refine ⟨T2, _, rfl, .inl (.inl eT2), rfl, _, _, rfl, _, _, rfl, rfl, ?_⟩
                  refine ⟨_, rfl, rfl, _, rfl, ?_⟩
                  rw [ed] at hk
                  cases k with
                  | zero =>
                    have hk' : scan 1 0 (zs.map (plN rows)) = .beyond i := hk.symm
                    rw [hk'] at q
                    exact iteT ⟨_, rfl, (by show 2 ≤ sizeLine; decide), fun p hp => q _ p (sH4.trans (Same.new (Same.refl _) hp)) (sH4.free hp) (upd_same ..)⟩
                  | succ k =>
                    refine iteF' (by simp; omega) ?_
                    replace hk : scan (k + plN rows z) (i + 1) ((zs.map (plN rows)).drop (i + 1)) = _ := hk
                    have eP4 := s4 _ _ (s5 _ _ eP)
                    refine ⟨_, rfl, _, _, rfl, rfl, _, rfl, PD, rfl, .inl ⟨_, .inl eP4⟩, _, rfl, _, DGet.k (k := Sum.inr z) eP4, ?_⟩
                    rw [get_plN ro]
                    have eI : ((k + 1 : Nat) : Int) - 1 + ((plN rows z : Nat) : Int) = ((k + plN rows z : Nat) : Int) := by omega
                    exact ⟨_, _, rfl, rfl, ⟨k + plN rows z, ⟨_, _, by rw [← eI]; rfl⟩, hk⟩, s4⟩
                · rintro τ G2 ⟨⟨k, ⟨y1, y2, rfl⟩, hk⟩, s2'⟩
                  have sH4 := (sH5.trans s5).trans s2'
                  rw [lm, List.drop_eq_nil_of_le (by rw [List.length_map]; exact Nat.le_refl _)] at hk
                  refine ⟨_, rfl, rfl, _, rfl, ?_⟩
                  rw [← hk] at q
                  cases k with
                  | zero =>
                    refine iteT ⟨_, rfl, a, _, rfl, hS5.same (s5.trans s2'), fun l hl => ⟨(by show 2 ≤ sizeLine; decide), fun p hp => ?_⟩⟩
                    have sl : Same G2 (L2.upd G2 l (.lst (zs.map V.str))) := Same.new (Same.refl _) hl
                    exact q _ p ((sH4.trans sl).trans (Same.new (Same.refl _) hp)) (sH4.free (sl.free hp)) ⟨l, upd_same .., Same.new (Same.refl _) hp _ _ (upd_same ..)⟩
                  | succ k =>
                    exact iteF' (by simp; omega) ⟨_, rfl, (by show 2 ≤ sizeLine; decide), fun p hp => q _ p (sH4.trans (Same.new (Same.refl _) hp)) (sH4.free hp) (upd_same ..)⟩
end

end TS

namespace TS
open PySem PySem.Spec PyProof.Rows L2 TL

/-! ### right -/
def El (e : PyData) : Prop := Sm 2 30 e ∧ e.canLay0 = true
structure HOk (n : Nat) (d : PyData) : Prop where
  len : ∀ ds, seqD d = some ds → ds.length ≤ n
  els : ∀ ds, seqD d = some ds → ∀ e ∈ ds, El e
  sm : Sm 5 20000 d
/-- handed in: what is a list is one of its own, beyond H0 -/
def Hd (K : PySem.W.Frag) (H0 H : Hp) (v : V) (d : PyData) (n : Nat) : Prop := HOk n d ∧ ((isD "list" d = false ∧ Dt K H0 v d) ∨ ∃ a xs ds, v = .ref a ∧ d = .list ds ∧ H0 a = none ∧ H a = some (.lst xs) ∧ DtAll K H0 xs ds)
theorem Hd.dt {K : PySem.W.Frag} {H0 H : Hp} {v : V} {d : PyData} {n : Nat} (h : Hd K H0 H v d n) (s : Same H0 H) : Dt K H v d := by
  rcases h.2 with ⟨_, h⟩ | ⟨a, xs, ds, rfl, rfl, _, e, h⟩
  · exact Dt.same s h
  · exact .lst (.inl (.inl e)) (DtAll.same s h)
theorem Hd.same {K : PySem.W.Frag} {H0 H H' : Hp} {v : V} {d : PyData} {n m : Nat} (h : Hd K H0 H v d n) (hn : n ≤ m) (s : ∀ a o, v = .ref a → H0 a = none → H a = some o → H' a = some o) : Hd K H0 H' v d m := by
  refine ⟨⟨fun ds e => Nat.le_trans (h.1.len ds e) hn, h.1.els, h.1.sm⟩, ?_⟩
  rcases h.2 with h | ⟨a, xs, ds, rfl, rfl, ha, e, h⟩
  · exact .inl h
  · exact .inr ⟨a, xs, ds, rfl, rfl, ha, s a _ rfl ha e, h⟩
theorem El.short {e : PyData} (h : El e) {z : Str} (ez : e = .str z) : z.length ≤ 30 := by
  subst ez
  exact h.1.to.2.2.2
theorem El.deep {e : PyData} (h : El e) : e.depth ≤ 2 := h.1.to.2.1
theorem HOk.handed {n : Nat} {d : PyData} (h : HOk n d) (hn : n ≤ 20000) : Handed d := ⟨fun ds e => Nat.le_trans (h.len ds e) hn, fun ds e x m z ez => Nat.le_trans ((h.els ds e x m).short ez) (by decide)⟩
theorem HOk.handedL {n : Nat} {d : PyData} (h : HOk n d) : HandedL d := fun ds e x m => ⟨(h.els ds e x m).2, Nat.le_trans (h.els ds e x m).deep (by decide)⟩
def kindOf : Due → Str
  | .number => "number"
  | .signs => "signs"
  | .out (.bad _) => "sign"
  | .out (.beyond _) => "beyond"
  | .out (.unended _) => "unended"
  | .out .ok => "told"
def valD (d dm : PyData) : Due → PyData
  | .number => dm
  | .signs => d
  | .out (.bad i) => .int i
  | .out (.beyond i) => .int i
  | .out (.unended i) => .int i
  | .out .ok => .list ((strsD d).map .str)
/-- the pair's thing -/
theorem ResP.val {K : PySem.W.Frag} {G : Hp} {p : Addr} {y m : V} {d dm : PyData} {x : Due} (h : ResP K G p y m (strsD d) x) (hy : Dt K G y d) (hm : Dt K G m dm) :
    ∃ v, G p = some (.tup [.str (kindOf x), v]) ∧ Dt K G v (valD d dm x) ∧ (x = .number → v = m) ∧ (x = .signs → v = y) := by
  cases x with
  | number => exact ⟨m, h, hm, fun _ => rfl, nofun⟩
  | signs => exact ⟨y, h, hy, nofun, fun _ => rfl⟩
  | out o =>
    cases o with
    | bad i => exact ⟨_, h, .int _, nofun, nofun⟩
    | beyond i => exact ⟨_, h, .int _, nofun, nofun⟩
    | unended i => exact ⟨_, h, .int _, nofun, nofun⟩
    | ok =>
      obtain ⟨l, e1, e2⟩ := h
      refine ⟨_, e1, .lst (.inl (.inl e2)) ?_, nofun, nofun⟩
      have : ∀ zs : List Str, DtAll K G (zs.map V.str) (zs.map PyData.str) := fun zs => by
        induction zs with
        | nil => exact .nil
        | cons z r ih => exact .cons (.str z) ih
      exact this _
theorem Sm.nat {i k : Nat} (h : i ≤ 2000) : Sm k 20 (.int (i : Int)) := by
  have all : ∀ j ∈ List.range 2001, smB 0 20 (.int (j : Int)) = true := by decide +kernel
  exact Sm.mono (k := 0) (all i (List.mem_range.mpr (by omega))) (Nat.zero_le _) (Nat.le_refl _)
theorem scan_small : ∀ (ps : List Nat) (k i : Nat), (∀ p ∈ ps, p ≤ 4) → (∀ j, scan k i ps = .beyond j → j < i + ps.length) ∧ (∀ m, scan k i ps = .unended m → m ≤ k + 4 * ps.length)
  | [], 0, i, _ => ⟨fun j h => (by cases h), fun m h => (by cases h)⟩
  | [], k + 1, i, _ => ⟨fun j h => (by cases h), fun m h => (by cases h; simp)⟩
  | p :: r, 0, i, _ => ⟨fun j h => (by cases h; simp), fun m h => (by cases h)⟩
  | p :: r, k + 1, i, hp => by
    obtain ⟨a, b⟩ := scan_small r (k + p) (i + 1) fun q hq => hp q (List.mem_cons_of_mem _ hq)
    have h4 := hp p (by simp)
    refine ⟨fun j h => ?_, fun m h => ?_⟩
    · have := a j h
      rw [List.length_cons]
      omega
    · have := b m h
      rw [List.length_cons]
      omega
theorem val_small {rows : List (Str × Int)} {d dm : PyData} {n : Nat} (hP : RowsP rows) (h : HOk n d) (hn : n ≤ 300) (hm : HOk n dm) : Sm 5 20000 (valD d dm (dueD rows d dm)) := by
  cases hx : dueD rows d dm with
  | number => exact hm.sm
  | signs => exact h.sm
  | out o =>
    have lz : (strsD d).length ≤ n := by
      unfold strsD
      rw [List.length_map]
      cases hs : seqD d with
      | none => exact Nat.zero_le _
      | some ds => exact h.len ds hs
    have ho : outS rows (strsD d) = o := by
      unfold dueD at hx
      split at hx
      · cases hx
      · split at hx
        · cases hx; rfl
        · cases hx
    have ls : ((strsD d).map (plN rows)).length = (strsD d).length := List.length_map ..
    have sc := scan_small ((strsD d).map (plN rows)) 1 0 fun p hp => by
      obtain ⟨z, _, rfl⟩ := List.mem_map.mp hp
      exact plN_le hP z
    unfold outS at ho
    cases o with
    | bad i =>
      split at ho
      · rename_i j hj
        cases ho
        have := (List.findIdx?_eq_some_iff_getElem.mp hj).1
        exact (Sm.nat (k := 0) (by omega)).mono (by decide) (by decide)
      · have : scan 1 0 ((strsD d).map (plN rows)) = .bad i := ho
        exfalso
        have nb : ∀ (ps : List Nat) (k j : Nat), scan k j ps ≠ .bad i := fun ps => by
          induction ps with
          | nil => intro k j h; cases k <;> cases h
          | cons p r ih =>
            intro k j h
            cases k with
            | zero => cases h
            | succ k => exact ih _ _ h
        exact nb _ _ _ this
    | beyond i =>
      split at ho
      · cases ho
      · have := sc.1 i ho
        exact (Sm.nat (k := 0) (by omega)).mono (by decide) (by decide)
    | unended i =>
      split at ho
      · cases ho
      · have := sc.2 i ho
        exact (Sm.nat (k := 0) (by omega)).mono (by decide) (by decide)
    | ok =>
      refine (Sm.list (m := 300) (k := 2) (n := 30) (fun e he => ?_) (by rw [List.length_map]; omega)).mono (by decide) (by decide)
      obtain ⟨z, hz, rfl⟩ := List.mem_map.mp he
      unfold strsD at hz
      obtain ⟨e, he2, rfl⟩ := List.mem_map.mp hz
      cases hs : seqD d with
      | none => rw [hs] at he2; cases he2
      | some ds =>
        rw [hs] at he2
        have hE := h.els ds hs e he2
        cases e <;> first | exact hE.1 | exact (by decide +kernel : smB 2 30 (.str "") = true)
theorem sm_pair {d e : PyData} {k n : Nat} (h : Sm k n d) (g : Sm k n e) : Sm (k + 1) (2 * (n + 1)) (.tuple [d, e]) := Sm.tuple (fun x hx => by
  simp only [List.mem_cons, List.not_mem_nil, or_false] at hx
  rcases hx with rfl | rfl
  · exact h
  · exact g) (by simp)
theorem kind_small (x : Due) : Sm 5 20000 (.str (kindOf x)) := by
  cases x with
  | number => exact (by decide +kernel : smB 5 20000 (.str "number") = true)
  | signs => exact (by decide +kernel : smB 5 20000 (.str "signs") = true)
  | out o =>
    cases o with
    | bad i => exact (by decide +kernel : smB 5 20000 (.str "sign") = true)
    | beyond i => exact (by decide +kernel : smB 5 20000 (.str "beyond") = true)
    | unended i => exact (by decide +kernel : smB 5 20000 (.str "unended") = true)
    | ok => exact (by decide +kernel : smB 5 20000 (.str "told") = true)
theorem most_of {σ : L2.St} {H : Hp} {Q : VK} {i : Nat} {u : V} {du : PyData} (hv : σ[i]? = some (some u)) (h : Q (mostV du u) H) : if PyData.eqv du (.str "left out") = true then tC (V.int 100) σ H Q else tVar i σ H Q := by
  unfold mostV leftOut at h
  cases c : PyData.eqv du (.str "left out") with
  | true => rw [c] at h; exact h
  | false => rw [c] at h; exact ⟨u, hv, h⟩
theorem most_dt {K : PySem.W.Frag} {H : Hp} {u : V} {du : PyData} (h : Dt K H u du) : Dt K H (mostV du u) (mostD du) := by
  unfold mostV mostD
  split
  · exact .int 100
  · exact h
theorem most_ok {n : Nat} {du : PyData} (h : HOk n du) : HOk n (mostD du) := by
  unfold mostD
  split
  · exact ⟨fun ds e => (by cases e), fun ds e => (by cases e), (by decide +kernel : smB 5 20000 (.int 100) = true)⟩
  · exact h
theorem el_late : El (.str "late") := ⟨(by decide +kernel : smB 2 30 (.str "late") = true), by decide +kernel⟩
theorem late_el {n : Nat} {ds : List PyData} (h : HOk n (.list ds)) : ∀ e ∈ ds ++ [.str "late"], e.canLay0 = true ∧ e.depth ≤ 30 := fun e he => by
  have : El e := (List.mem_append.mp he).elim (fun m => h.els ds rfl e m) (fun m => by rw [List.mem_singleton.mp m]; exact el_late)
  exact ⟨this.2, Nat.le_trans this.deep (by decide)⟩
theorem HOk.list {n : Nat} {ds : List PyData} (h : ds.length ≤ n) (hn : n ≤ 300) (he : ∀ e ∈ ds, El e) : HOk n (.list ds) :=
  ⟨fun l e => by cases e; exact h, fun l e => by cases e; exact he, (Sm.list (m := 300) (k := 2) (n := 30) (fun e m => (he e m).1) (by omega)).mono (by decide) (by decide)⟩
theorem HOk.tuple {n : Nat} {ds : List PyData} (h : ds.length ≤ n) (hn : n ≤ 300) (he : ∀ e ∈ ds, El e) : HOk n (.tuple ds) :=
  ⟨fun l e => by cases e; exact h, fun l e => by cases e; exact he, (Sm.tuple (m := 300) (k := 2) (n := 30) (fun e m => (he e m).1) (by omega)).mono (by decide) (by decide)⟩
theorem late_ok {n : Nat} {ds : List PyData} (h : HOk n (.list ds)) (hn : n + 1 ≤ 300) : HOk (n + 1) (.list (ds ++ [.str "late"])) :=
  HOk.list (by have := h.len ds rfl; rw [List.length_append]; exact Nat.add_le_add_right this 1) hn fun e he => (List.mem_append.mp he).elim (fun m => h.els ds rfl e m) (fun m => by rw [List.mem_singleton.mp m]; exact el_late)
def spRight (K : PySem.W.Frag) : Sp := fun vs H Q _ => ∃ (rw_ wa : Addr) (y u : V) (rows : List (Str × Int)) (d du : PyData) (H0 : Hp) (n : Nat), vs = [.ref rw_, .ref wa, y, u] ∧ n ≤ 299 ∧ RowsOk rows ∧ Same H0 H ∧ Dt K H0 (.ref rw_) (.list (rows.map rowPy)) ∧ WordsAt K H0 wa rows ∧
  Hd K H0 H y d n ∧ Hd K H0 H u du n ∧ SeqAt.shaped du = true ∧ (∀ a, y = .ref a → u = .ref a → H0 a ≠ none) ∧ ∀ H' d' du', Same H0 H' → (∀ a o, H a = some o → y ≠ .ref a → u ≠ .ref a → H' a = some o) → Hd K H0 H' y d' (n + 1) → Hd K H0 H' u du' (n + 1) → SeqAt.shaped du' = true → Q (.bl true) H'
section
variable {P : Program} {w : World} {K : PySem.W.Frag} {mg : Str → Option Value} {base : Heap}
abbrev s__law_right : Stmt := top 49
theorem sc__law_right : FnScope ["_law_rows_here", "_law_words", "_law_signs_here", "_law_upto", "_law_due_here", "_law_kept", "_law_found"] ["_law_rows_here", "_law_words", "_law_signs_here", "_law_upto"] (defScope s__law_right) := ⟨rfl, rfl, rfl, by decide +kernel, rfl, by decide +kernel, by decide +kernel⟩

set_option maxHeartbeats 800000 in
theorem ok_right (Y : Sys K) (bt : Bt mg) (p__law_due : Prom P w K mg base 2 "_law_due" ["_law_rows_here", "_law_signs_here", "_law_upto"] (spDue K)) (p__law_caught : Prom P w K mg base 6 "_law_caught" ["_law_words", "_law_signs_here", "_law_upto"] (spCaught8 K)) (D : Def K mg "_law_right" s__law_right) :
    PromG P w K mg base 7 "_law_right" ["_law_rows_here", "_law_words", "_law_signs_here", "_law_upto"] (spRight K) := by
  refine promG_mk D sc__law_right (fun vs H Q E h => ?_) (fun _ _ _ _ _ _ us hl => match us, hl with | [_, _, _, _], _ => rfl) (fun f cdv A outer s H vs Q E hgd hr h => ?_)
  · obtain ⟨rw_, wa, y, u, rows, d, du, H0, n, rfl, _⟩ := h
    rfl
  · obtain ⟨rw_, wa, y, u, rows, d, du, H0, n, rfl, hn, ro, s0, hrw, hW, hy, hu, su, nyu, q⟩ := h
    refine ⟨_, (pss_cons (ps_set (i := 4) sc__law_right.nd rfl (Or.inl rfl) (pe_pc p__law_due (hr.mono (by decide)) rfl (pa_cons (pv 0) (pa_cons (pv 2) (pa_cons (pe_ifExp (pt_cmpR (op_eqDK (K := K) hr.units) (pv 3) pe_str (nomark _)) pe_int (pv 3)) pa_nil)))))
      (pss_cons (ps_set (i := 5) sc__law_right.nd rfl (Or.inl rfl) (pe_callB (id := "repr") (reprK (K := K) Y hgd hr.units) (by rfl) bt.repr_ (by decide +kernel) (pa_cons (pe_tup (pa_cons (pv 2) (pa_cons (pv 3) pa_nil))) pa_nil)))
      (pss_cons (ps_set (i := 6) sc__law_right.nd rfl (Or.inl rfl) (pe_pc p__law_caught (hr.mono (by decide)) rfl (pa_cons (pv 1) (pa_cons (pv 2) (pa_cons (pv 3) pa_nil)))))
      (pss_cons (ps_if (PW.pt (pw_or (pt_cmpR op_ne (pe_callB (id := "repr") (reprK (K := K) Y hgd hr.units) (by rfl) bt.repr_ (by decide +kernel) (pa_cons (pv 6) pa_nil)) (pe_callB (id := "repr") (reprK (K := K) Y hgd hr.units) (by rfl) bt.repr_ (by decide +kernel) (pa_cons (pv 4) pa_nil)) (nomark _)) (pw_or1 (pt_cmpR op_ne (pe_callB (id := "repr") (reprK (K := K) Y hgd hr.units) (by rfl) bt.repr_ (by decide +kernel) (pa_cons (pe_tup (pa_cons (pv 2) (pa_cons (pv 3) pa_nil))) pa_nil)) (pv 5) (nomark _))))) (pss_one (ps_ret pe_bl)) pss_nil)
      (pss_cons (ps_if (PW.pt (pw_and (pt_cmpR (op_inK (K := K)) (pe_ix (ix_tupK (K := K)) (pv 4) pe_int (fun _ _ => rfl)) (pe_tup (pa_cons pe_str (pa_cons pe_str pa_nil))) rfl) (pw_and1 (pt_val (pe_callB (id := "isinstance") (isiK (K := K)) (by rfl) bt.isinstance_ (by decide +kernel) (pa_cons (pe_ix (ix_tupK (K := K)) (pv 4) pe_int (fun _ _ => rfl)) (pa_cons (pe_bltn (v := .ty "list") rfl bt.list_ (by decide +kernel) rfl) pa_nil))))))) (pss_cons (ps_expr (pe_appendK (K := K) rfl (pe_ix (ix_tupK (K := K)) (pv 4) pe_int (fun _ _ => rfl)) pe_str))
      (pss_one (ps_ret (pe_cmpR op_eq (pe_callB (id := "repr") (reprK (K := K) Y hgd hr.units) (by rfl) bt.repr_ (by decide +kernel) (pa_cons (pv 6) pa_nil)) (pe_callB (id := "repr") (reprK (K := K) Y hgd hr.units) (by rfl) bt.repr_ (by decide +kernel) (pa_cons (pv 4) pa_nil)) (nomark _))))) pss_nil)
      (pss_one (ps_ret pe_bl))))))), ?_⟩
    have dy := hy.dt s0
    have dU := hu.dt s0
    have hP : RowsP rows := ⟨ro.lo, ro.hi⟩
    refine ⟨_, rfl, _, rfl, _, rfl, du, .str "left out", dU.dp (shaped_lay su), .str _, su, by decide +kernel, _, rfl, most_of rfl ?_⟩
    refine ⟨rw_, y, _, rows, d, mostD du, rfl, ro, Dt.same s0 hrw, dy, hy.1.handed (by omega), hy.1.handedL, most_dt dU, fun G1 p1 s1 hp1 res1 => ?_⟩
    have dy1 := Dt.same s1 dy
    have du1 := Dt.same s1 dU
    have shp : Shows (.tuple [d, du]) := (sm_pair hy.1.sm hu.1.sm).shows
    refine ⟨_, rfl, _, rfl, (by show 2 ≤ sizeLine; decide), fun T hT => ?_⟩
    (generalize hG : L2.upd _ T _ = G2; have sT := same_of hG hT; have eT := at_of hG; clear hG)
    refine ⟨.ref T, .tuple [d, du], rfl, .tup (.inl (.inl eT)) (.cons (Dt.same sT dy1) (.cons (Dt.same sT du1) .nil)), shp.ok, shp.deep, shp.size, ?_⟩
    have s12 := s1.trans sT
    refine ⟨_, rfl, _, rfl, _, rfl, .ref wa, y, u, d, du, rfl, Dt.same s12 dy, hy.1.handed (by omega), Dt.same s12 dU, su, .inr ⟨wa, rows, rfl, hW.same (s0.trans s12), hP, fun G3 p2 s3 hp2 res2 => ?_⟩⟩
    have s13 := s12.trans s3
    have dy3 := Dt.same s13 dy
    have du3 := Dt.same s13 dU
    obtain ⟨v1, ep1, dv1, n1, g1⟩ := res1.val dy1 (most_dt du1)
    obtain ⟨v2, ep2, dv2, n2, g2⟩ := res2.val dy3 (most_dt du3)
    have ep1' := sT.trans s3 _ _ ep1
    have sm : Sm 6 40002 (.tuple [.str (kindOf (dueD rows d (mostD du))), valD d (mostD du) (dueD rows d (mostD du))]) := sm_pair (kind_small _) (val_small hP hy.1 (by omega) (most_ok hu.1))
    have sh := sm.shows
    obtain ⟨due, edue⟩ : ∃ x, x = dueD rows d (mostD du) := ⟨_, rfl⟩
    rw [← edue] at ep1' ep2 dv1 dv2 sh n1 g1 n2 g2
    refine ⟨_, rfl, .ref p2, _, rfl, .tup (.inl (.inl ep2)) (.cons (.str _) (.cons dv2 .nil)), sh.ok, sh.deep, sh.size, ?_⟩
    refine ⟨_, rfl, .ref p1, _, rfl, .tup (.inl (.inl ep1')) (.cons (.str _) (.cons (Dt.same (sT.trans s3) dv1) .nil)), sh.ok, sh.deep, sh.size, rfl, _, rfl, iteF' (by simp) ?_⟩
    refine ⟨_, rfl, _, rfl, (by show 2 ≤ sizeLine; decide), fun T2 hT2 => ?_⟩
    (generalize hG : L2.upd _ T2 _ = G4; have sT2 := same_of hG hT2; have eT2 := at_of hG; clear hG)
    refine ⟨.ref T2, .tuple [d, du], rfl, .tup (.inl (.inl eT2)) (.cons (Dt.same sT2 dy3) (.cons (Dt.same sT2 du3) .nil)), shp.ok, shp.deep, shp.size, ?_⟩
    refine ⟨_, rfl, rfl, _, rfl, iteF' (by simp) ?_⟩
    have s34 := s3.trans sT2
    have key : inV (.str (kindOf due)) [.str "signs", .str "number"] = false ∨ (inV (.str (kindOf due)) [.str "signs", .str "number"] = true ∧ isD "list" (valD d (mostD du) due) = false) ∨
        (inV (.str (kindOf due)) [.str "signs", .str "number"] = true ∧ ∃ a xs ds, v1 = .ref a ∧ v2 = .ref a ∧ valD d (mostD du) due = .list ds ∧ H0 a = none ∧ H a = some (.lst xs) ∧ DtAll K H0 xs ds ∧ HOk n (.list ds) ∧
          ∀ G', Same H0 G' → G' a = some (.lst (xs ++ [.str "late"])) → (∀ b o, b ≠ a → H b = some o → G' b = some o) → Q (.bl true) G') := by
      cases due with
      | number =>
        refine .inr ?_
        have iv : inV (.str (kindOf .number)) [.str "signs", .str "number"] = true := by decide +kernel
        cases hl : isD "list" (mostD du) with
        | false => exact .inl ⟨iv, hl⟩
        | true =>
          refine .inr ⟨iv, ?_⟩
          have lo : leftOut du = false := by
            cases h : leftOut du with
            | false => rfl
            | true =>
              have : mostD du = .int 100 := by unfold mostD; rw [h]; rfl
              rw [this] at hl
              exact absurd hl (by show ¬ (kitB "int" "list" == some true) = true; decide +kernel)
          have e1 : mostD du = du := by unfold mostD; rw [lo]; rfl
          have e2 : mostV du u = u := by unfold mostV; rw [lo]; rfl
          rw [e1] at hl
          rcases hu.2 with ⟨h, _⟩ | ⟨a, xs, ds, eu, ed, ha0, ea, hA⟩
          · rw [hl] at h; cases h
          · have hOk := hu.1
            rw [ed] at hOk
            refine ⟨a, xs, ds, by rw [n1 rfl, e2, eu], by rw [n2 rfl, e2, eu], e1.trans ed, ha0, ea, hA, hOk, fun G' sG ga gb => ?_⟩
            refine q G' d (.list (ds ++ [.str "late"])) sG (fun b o hb _ h2 => gb b o (fun e => h2 (by rw [eu, e])) hb) (hy.same (Nat.le_succ _) fun b o eb hb hbo => gb b o (fun e => nyu b eb (by rw [eu, e]) (by rw [e]; exact ha0)) hbo) ⟨late_ok hOk (by omega), .inr ⟨a, _, _, eu, rfl, ha0, ga, DtAll.append hA (.cons (.str _) .nil)⟩⟩ ?_
            exact shaped_list fun e he => late_el hOk e he
      | signs =>
        refine .inr ?_
        have iv : inV (.str (kindOf .signs)) [.str "signs", .str "number"] = true := by decide +kernel
        cases hl : isD "list" d with
        | false => exact .inl ⟨iv, hl⟩
        | true =>
          refine .inr ⟨iv, ?_⟩
          rcases hy.2 with ⟨h, _⟩ | ⟨a, xs, ds, eu, ed, ha0, ea, hA⟩
          · rw [hl] at h; cases h
          · have hOk := hy.1
            rw [ed] at hOk
            refine ⟨a, xs, ds, by rw [g1 rfl, eu], by rw [g2 rfl, eu], ed, ha0, ea, hA, hOk, fun G' sG ga gb => ?_⟩
            exact q G' (.list (ds ++ [.str "late"])) du sG (fun b o hb h1 _ => gb b o (fun e => h1 (by rw [eu, e])) hb) ⟨late_ok hOk (by omega), .inr ⟨a, _, _, eu, rfl, ha0, ga, DtAll.append hA (.cons (.str _) .nil)⟩⟩ (hu.same (Nat.le_succ _) fun b o eb hb hbo => gb b o (fun e => nyu a eu (by rw [← e, eb]) ha0) hbo) su
      | out o =>
        refine .inl ?_
        cases o with
        | bad i => exact (by decide +kernel : inV (.str "sign") [.str "signs", .str "number"] = false)
        | beyond i => exact (by decide +kernel : inV (.str "beyond") [.str "signs", .str "number"] = false)
        | unended i => exact (by decide +kernel : inV (.str "unended") [.str "signs", .str "number"] = false)
        | ok => exact (by decide +kernel : inV (.str "told") [.str "signs", .str "number"] = false)
    refine ⟨_, rfl, p1, _, _, .str (kindOf due), rfl, rfl, .inl (.inl (sT2 _ _ ep1')), rfl, (by show 2 ≤ sizeLine; decide), fun T3 hT3 => ?_⟩
    (generalize hG : L2.upd _ T3 _ = G5; have sT3 := same_of hG hT3; have eT3 := at_of hG; clear hG)
    have s35 := s34.trans sT3
    have sH5 := s12.trans s35
    have plain : Q (.bl true) G5 := q G5 d du (s0.trans sH5) (fun _ _ e _ _ => sH5 _ _ e) (hy.same (Nat.le_succ _) fun b o _ _ e => sH5 _ _ e) (hu.same (Nat.le_succ _) fun b o _ _ e => sH5 _ _ e) su
    have ep15 := sT3 _ _ (sT2 _ _ ep1')
    refine ⟨T3, _, rfl, .inr (.inl (.inl eT3)), rfl, rfl, _, rfl, ?_⟩
    show if (if false = true then _ else inV (.str (kindOf due)) [.str "signs", .str "number"]) = true then _ else _
    rw [if_neg Bool.false_ne_true]
    rcases key with k | ⟨k, kl⟩ | ⟨k, a, xs, ds, ev1, ev2, eds, ha0, ea, hA, hOk, kq⟩
    · rw [k]
      exact iteF (iteF plain)
    · rw [k]
      refine iteT ⟨_, rfl, p1, _, _, v1, rfl, rfl, .inl (.inl ep15), rfl, _, _, _, _, isD "list" (valD d (mostD du) due), rfl, .ty "list", (Dt.same ((sT.trans s35)) dv1).ty, isi_list, _, rfl, ?_⟩
      rw [kl]
      exact iteF plain
    · rw [k]
      refine iteT ⟨_, rfl, p1, _, _, v1, rfl, rfl, .inl (.inl ep15), rfl, _, _, _, _, isD "list" (valD d (mostD du) due), rfl, .ty "list", (Dt.same ((sT.trans s35)) dv1).ty, isi_list, _, rfl, ?_⟩
      rw [eds, isD_lists]
      subst ev1 ev2
      have ea5 := sH5 _ _ ea
      have hl := hA.length
      have hln := hOk.len ds rfl
      refine iteT ⟨_, rfl, p1, _, _, .ref a, rfl, rfl, .inl (.inl ep15), rfl, .inl ⟨rfl, _, .inl (.inl ea5)⟩, a, xs, _, rfl, rfl, ea5, sz5' (by omega), ?_⟩
      have np1 : p1 ≠ a := fun e => by rw [e, ea] at hp1; cases hp1
      have np2 : p2 ≠ a := fun e => by rw [e, s12 _ _ ea] at hp2; cases hp2
      have mt : L2.upd G5 a (.lst (xs ++ [.str "late"])) a = some (.lst (xs ++ [.str "late"])) := upd_same ..
      have mo : ∀ a' : Addr, a' ≠ a → L2.upd G5 a (.lst (xs ++ [.str "late"])) a' = G5 a' := fun a' h => upd_ne h
      have s06 : Same H0 (L2.upd G5 a (.lst (xs ++ [.str "late"]))) := Same.keep (s0.trans sH5) ha0
      generalize L2.upd G5 a (.lst (xs ++ [.str "late"])) = G6 at mt mo s06 ⊢
      have d6 : Dt K G6 (.ref a) (.list (ds ++ [.str "late"])) := .lst (.inl (.inl mt)) (DtAll.append (DtAll.same s06 hA) (.cons (.str "late") .nil))
      have sm6 := sm_pair (kind_small due) (late_ok hOk (by omega)).sm
      have ep26 : G6 p2 = _ := (mo p2 np2).trans ((sT2.trans sT3) _ _ ep2)
      have ep16 : G6 p1 = _ := (mo p1 np1).trans ep15
      obtain ⟨d6', ed6⟩ : ∃ d6, d6 = PyData.list (ds ++ [.str "late"]) := ⟨_, rfl⟩
      rw [← ed6] at d6 sm6
      have sh6 := sm6.shows
      refine ⟨_, rfl, .ref p2, _, rfl, .tup (.inl (.inl ep26)) (.cons (.str _) (.cons d6 .nil)), sh6.ok, sh6.deep, sh6.size, ?_⟩
      refine ⟨_, rfl, .ref p1, _, rfl, .tup (.inl (.inl ep16)) (.cons (.str _) (.cons d6 .nil)), sh6.ok, sh6.deep, sh6.size, rfl, ?_⟩
      have := kq G6 s06 mt fun b o hb e => (mo b hb).trans (sH5 _ _ e)
      rw [show (V.bl true) = V.bl (decide (V.str (PyData.shown (.tuple [.str (kindOf due), d6'])) = V.str (PyData.shown (.tuple [.str (kindOf due), d6'])))) by simp] at this
      exact this
end

end TS

namespace TS
open PySem PySem.Spec PyProof.Rows L2 TL

/-! ### letters, drawn -/
def lokB (z : Str) : Bool := letterL (tl z) && (smB 2 30 (.str z) && (PyData.str z).canLay0)
def LtrsOk (ls : List Str) : Prop := ls.length = 5 ∧ ∀ z ∈ ls, lokB z = true
def capsL : List Nat := ("ABCDEFGHIJKLMNOPQRSTUVWXYZ" : Str).cps.toList
theorem lok_one : ∀ c ∈ capsL, (lokB ⟨#[c]⟩ && (lokB (⟨#[c]⟩ ++ "0") && (lokB (⟨#[c]⟩ ++ "9") && (lokB (⟨#[c]⟩ ++ "10") && lokB (⟨#[c]⟩ ++ "99"))))) = true := by decide +kernel
theorem lok_n : ∀ z ∈ (["N0", "N1", "N2", "N10", "N"] : List Str), lokB z = true := by decide +kernel
theorem lok_num : ∀ c ∈ capsL, ∀ k ∈ List.range 100, (lokB (⟨#[c]⟩ ++ (toString (k : Int) : String)) && lokB (⟨#[c]⟩ ++ "")) = true := by decide +kernel
theorem every_at {x : Int} (h0 : 0 ≤ x) (h1 : x < 26) : ∃ c, atI ("ABCDEFGHIJKLMNOPQRSTUVWXYZ" : Str).cps.toList x = some c ∧ c ∈ capsL := atI_in (xs := ("ABCDEFGHIJKLMNOPQRSTUVWXYZ" : Str).cps.toList) h0 (by
  have : (("ABCDEFGHIJKLMNOPQRSTUVWXYZ" : Str).cps.toList.length : Int) = 26 := by decide +kernel
  omega)
theorem one_len {c : Nat} {z : Str} (h : z.length ≤ 1000) : (⟨#[c]⟩ : Str).length + z.length ≤ sizeLine := by
  show 1 + z.length ≤ sizeLine
  exact sz5 (by omega)
def spLtrs (K : PySem.W.Frag) : Sp := fun vs H Q _ => ∃ (b : Addr) (n : Nat), vs = [.ref b] ∧ (∃ o, H b = some o ∧ Bag (n + 17) o) ∧
  ∀ H' p ls, Dr b n H H' → LtrsOk ls → H p = none → p ≠ b → H' p = some (.lst (ls.map V.str)) → Q (.ref p) H'
theorem lstrs_of : ∀ (xs : List V), (∀ (i : Nat) (v : V), xs[i]? = some v → ∃ z, v = .str z ∧ lokB z = true) → ∃ ls : List Str, xs = ls.map V.str ∧ ∀ z ∈ ls, lokB z = true
  | [], _ => ⟨[], rfl, by simp⟩
  | x :: r, h => by
    obtain ⟨z, rfl, hz⟩ := h 0 x rfl
    obtain ⟨ls, e, a⟩ := lstrs_of r fun i v hv => h (i + 1) v (by simpa using hv)
    exact ⟨z :: ls, by rw [e]; rfl, fun y hy => (List.mem_cons.mp hy).elim (fun e => by rw [e]; exact hz) (a y)⟩
section
variable {P : Program} {w : World} {K : PySem.W.Frag} {mg : Str → Option Value} {base : Heap}
abbrev s__law_letters : Stmt := top 43
theorem sc__law_letters : FnScope ["_law_box_here", "_law_every", "_law_way", "_law_one", "_law_k"] ["_law_box_here"] (defScope s__law_letters) := ⟨rfl, rfl, rfl, by decide +kernel, rfl, by decide +kernel, by decide +kernel⟩

set_option maxHeartbeats 800000 in
theorem ok_ltrs (bt : Bt mg) (p__law_take : Prom P w K mg base 1 "_law_take" ["_law_box_here", "_law_many"] spTake) (D : Def K mg "_law_letters" s__law_letters) : Prom P w K mg base 2 "_law_letters" ["_law_box_here"] (spLtrs K) := by
  refine prom_mk D sc__law_letters (fun vs H Q E h => ?_) (fun _ _ _ _ _ _ us hl => match us, hl with | [_], _ => rfl) (fun f cdv A outer s H vs Q E hr h => ?_)
  · obtain ⟨b, n, rfl, _⟩ := h
    rfl
  · obtain ⟨b, n, rfl, hb, q⟩ := h
    refine ⟨_, (pss_cons (ps_set (i := 1) sc__law_letters.nd rfl (Or.inr rfl) pe_str)
      (pss_cons (ps_set (i := 2) sc__law_letters.nd rfl (Or.inl rfl) (pe_pc p__law_take (hr.mono (by decide)) rfl (pa_cons (pv 0) (pa_cons pe_int pa_nil))))
      (pss_cons (ps_set (i := 3) sc__law_letters.nd rfl (Or.inl rfl) (pe_ix ix_str (pv 1) (pe_pc p__law_take (hr.mono (by decide)) rfl (pa_cons (pv 0) (pa_cons pe_int pa_nil))) (fun _ _ => rfl)))
      (pss_cons (ps_if (pt_cmpR op_eq (pv 2) pe_int (nomark _)) (pss_one (ps_ret (pe_lst (pa_cons (pv 3) (pa_cons (pe_op op_add_str (pv 3) pe_str) (pa_cons (pe_op op_add_str (pv 3) pe_str) (pa_cons (pe_op op_add_str (pv 3) pe_str) (pa_cons (pe_op op_add_str (pv 3) pe_str) pa_nil)))))))) pss_nil)
      (pss_cons (ps_if (pt_cmpR op_eq (pv 2) pe_int (nomark _)) (pss_one (ps_ret (pe_lst (pa_cons pe_str (pa_cons pe_str (pa_cons pe_str (pa_cons pe_str (pa_cons pe_str pa_nil)))))))) pss_nil)
      (pss_one (ps_ret (pe_lc (own := [("_law_k", 4)]) (g := gName 4) rfl sc__law_letters.nd (pi_range1 rfl bt.range_ (pa_cons pe_int pa_nil)) (blkOk_by (N := ["_law_box_here", "_law_every", "_law_way", "_law_one", "_law_k"]) (sc := defScope s__law_letters) (by decide +kernel)) (fun _ _ _ _ _ => (pg_name (i := 4) sc__law_letters.nd rfl (Or.inl rfl))) (fun _ _ _ _ _ => pts_nil) (fun _ _ _ _ _ => (pe_op op_add_str (pe_ix ix_str (pv 1) (pe_pc p__law_take (hr.mono (by decide)) rfl (pa_cons (pv 0) (pa_cons pe_int pa_nil))) (fun _ _ => rfl)) (pe_ix (ix_listK (K := K)) (pe_lst (pa_cons pe_str (pa_cons (pe_callTy (T := "str") call_str_int (by rfl) bt.str_ (by decide +kernel) (pa_cons (pe_pc p__law_take (hr.mono (by decide)) rfl (pa_cons (pv 0) (pa_cons pe_int pa_nil))) pa_nil)) pa_nil))) (pe_pc p__law_take (hr.mono (by decide)) rfl (pa_cons (pv 0) (pa_cons pe_int pa_nil))) (fun _ _ => rfl)))))))))))), ?_⟩
    refine ⟨_, rfl, b, _, n + 16, 3, rfl, hb.choose_spec.1, hb.choose_spec.2, by decide, by decide +kernel, fun way o1 w0 w3 g1 => ?_⟩
    (generalize hG : L2.upd _ b _ = H1; have d1 := dr_of hG g1; clear hG)
    refine ⟨_, rfl, _, rfl, b, _, n + 15, 26, rfl, d1.bag.choose_spec.1, d1.bag.choose_spec.2, by decide, by decide +kernel, fun x o2 x0 x26 g2 => ?_⟩
    (generalize hG : L2.upd _ b _ = H2; have d2 := dr_of hG g2; clear hG)
    obtain ⟨c, hc, hcm⟩ := every_at x0 x26
    have D2 := (d1.trans d2).mono (n := n) (by omega)
    have hone := lok_one c hcm
    simp only [Bool.and_eq_true] at hone
    refine ⟨_, _, c, rfl, rfl, by decide +kernel, hc, ?_⟩
    refine ⟨_, rfl, rfl, _, rfl, ite2 (fun c0 => ?_) (fun c0 => ?_)⟩
    · refine ⟨_, rfl, _, rfl, _, _, rfl, rfl, one_len (by decide +kernel), _, rfl, _, _, rfl, rfl, one_len (by decide +kernel), _, rfl, _, _, rfl, rfl, one_len (by decide +kernel), _, rfl, _, _, rfl, rfl, one_len (by decide +kernel), (by show 5 ≤ sizeLine; decide), fun p hp => ?_⟩
      exact q _ p [⟨#[c]⟩, ⟨#[c]⟩ ++ "0", ⟨#[c]⟩ ++ "9", ⟨#[c]⟩ ++ "10", ⟨#[c]⟩ ++ "99"] (D2.new hp) ⟨rfl, fun z hz => by
        simp only [List.mem_cons, List.not_mem_nil, or_false] at hz
        rcases hz with rfl | rfl | rfl | rfl | rfl
        · exact hone.1
        · exact hone.2.1
        · exact hone.2.2.1
        · exact hone.2.2.2.1
        · exact hone.2.2.2.2⟩ (D2.free hp) (D2.ne hp) (upd_same ..)
    · refine ⟨_, rfl, rfl, _, rfl, ite2 (fun c1 => ?_) (fun c1 => ?_)⟩
      · exact ⟨(by show 5 ≤ sizeLine; decide), fun p hp => q _ p ["N0", "N1", "N2", "N10", "N"] (D2.new hp) ⟨rfl, lok_n⟩ (D2.free hp) (D2.ne hp) (upd_same ..)⟩
      · refine ⟨_, rfl, by decide, by decide, fun R hR => lc_draw (k := 3) (N := n) walk_range (fun i G v => ∃ z, v = .str z ∧ lokB z = true) (fun i G G' v s h => h) (fun _ _ => trivial) (by decide) hR (d2.bag) (fun _ => rfl) (fun i k G C hi fx hb3 hD3 kk => ?_) (fun G xs dG hlx hx eR neR => ?_)⟩
        · refine ⟨_, rfl, _, rfl, b, _, k + 2, 26, rfl, hb3.choose_spec.1, hb3.choose_spec.2, by decide, by decide +kernel, fun x3 o3 y0 y26 g3 => ?_⟩
          (generalize hG : L2.upd _ b _ = G3; have e3 := dr_of hG g3; clear hG)
          obtain ⟨c3, hc3, hcm3⟩ := every_at y0 y26
          refine ⟨_, _, c3, rfl, rfl, by decide +kernel, hc3, ?_⟩
          refine ⟨_, rfl, b, _, k + 1, 100, rfl, e3.bag.choose_spec.1, e3.bag.choose_spec.2, by decide, by decide +kernel, fun x4 o4 z0 z100 g4 => ?_⟩
          (generalize hG : L2.upd _ b _ = G4; have e4 := dr_of hG g4; clear hG)
          obtain ⟨m, hm, hm100⟩ : ∃ m : Nat, x4 = (m : Int) ∧ m < 100 := ⟨x4.toNat, by omega, by omega⟩
          subst hm
          refine ⟨_, rfl, (by decide +kernel : ∀ m : Nat, m < 100 → ((m : Int)).natAbs.log2 < 1920) m hm100, (by show 2 ≤ sizeLine; decide), fun L hL => ?_⟩
          have E4 := e3.trans e4
          have nL := E4.ne hL
          have e5 : Dr b (k + 1) G4 (L2.upd G4 L (.lst [.str "", .str (toString (m : Int) : String)])) := (Dr.refl e4.bag).new hL
          have eL : L2.upd G4 L (.lst [.str "", .str (toString (m : Int) : String)]) L = some (.lst [.str "", .str (toString (m : Int) : String)]) := upd_same ..
          generalize L2.upd G4 L (.lst [.str "", .str (toString (m : Int) : String)]) = G5 at e5 eL ⊢
          refine ⟨_, rfl, b, _, k, 2, rfl, e5.bag.choose_spec.1, e5.bag.choose_spec.2, by decide, by decide +kernel, fun x6 o6 u0 u2 g6 => ?_⟩
          (generalize hG : L2.upd _ b _ = G6; have e6 := dr_of hG g6; clear hG)
          obtain ⟨v, hv, hvm⟩ := atI_in (xs := [V.str "", .str (toString (m : Int) : String)]) u0 u2
          have hnum := Bool.and_eq_true_iff.mp (lok_num c3 hcm3 m (List.mem_range.mpr hm100))
          have E6 := (E4.trans e5).trans e6
          have hlen : ∀ m : Nat, m < 100 → ((toString (m : Int) : String) : Str).length ≤ 1000 := by decide +kernel
          simp only [List.mem_cons, List.not_mem_nil, or_false] at hvm
          rcases hvm with rfl | rfl
          · exact ⟨L, _, _, _, rfl, rfl, .inl (.inl (e6.at nL eL)), hv, _, _, rfl, rfl, one_len (by decide +kernel), kk _ _ ⟨_, rfl, hnum.2⟩ E6⟩
          · exact ⟨L, _, _, _, rfl, rfl, .inl (.inl (e6.at nL eL)), hv, _, _, rfl, rfl, one_len (hlen m hm100), kk _ _ ⟨_, rfl, hnum.1⟩ E6⟩
        · obtain ⟨ls, rfl, hls⟩ := lstrs_of xs hx
          rw [List.length_map] at hlx
          exact q G R ls ((d1.trans d2).trans dG) ⟨hlx, hls⟩ ((d1.trans d2).free hR) neR eR
end

end TS

namespace TS
open PySem PySem.Spec PyProof.Rows L2 TL

/-! ### signs, drawn -/
theorem lacks_app {pl : Str → Option Nat} : ∀ (zs : List Str) (k j : Nat) (z : Str) (p : Nat), lacks pl k zs = some (j + 1) → pl z = some p → lacks pl k (zs ++ [z]) = some (j + p)
  | [], k, j, z, p, h, hp => by
    have e : k = j + 1 := by simpa [lacks] using h
    subst e
    show (pl z).bind (fun p => lacks pl (j + p) []) = _
    rw [hp]
    rfl
  | y :: r, 0, j, z, p, h, _ => by simp [lacks] at h
  | y :: r, k + 1, j, z, p, h, hp => by
    cases hq : pl y with
    | none => simp [lacks, hq] at h
    | some m =>
      have h' : lacks pl (k + m) r = some (j + 1) := by simpa [lacks, hq] using h
      show (pl y).bind (fun q => lacks pl (k + q) (r ++ [z])) = _
      rw [hq]
      exact lacks_app r (k + m) j z p h' hp
def SignsOk (rows : List (Str × Int)) (ls : List Str) (upto : Nat) (zs : List Str) : Prop := 1 ≤ zs.length ∧ zs.length ≤ upto ∧ (∀ z ∈ zs, z ∈ rows.map (·.1) ∨ z ∈ ls) ∧ lacks (plS rows) 1 zs = some 0
def spSigns (K : PySem.W.Frag) : Sp := fun vs H Q _ => ∃ (b : Addr) (n : Nat) (rw_ lt : Addr) (upto : Nat) (rows : List (Str × Int)) (ls : List Str), vs = [.ref b, .ref rw_, .ref lt, .int upto] ∧ 1 ≤ upto ∧ upto ≤ 200 ∧ (∃ o, H b = some o ∧ Bag (n + 2 * upto) o) ∧ RowsOk rows ∧ LtrsOk ls ∧
  Dt K (hide H b) (.ref rw_) (.list (rows.map rowPy)) ∧ hide H b lt = some (.lst (ls.map V.str)) ∧ ∀ H' p zs, Dr b n H H' → SignsOk rows ls upto zs → H p = none → p ≠ b → H' p = some (.lst (zs.map V.str)) → Q (.ref p) H'
theorem plS_letter {rows : List (Str × Int)} {z : Str} (h : lokB z = true) : plS rows z = some 0 := by
  unfold plS
  rw [(Bool.and_eq_true_iff.mp h).1]
  rfl
theorem plR_row {rows : List (Str × Int)} (nd : (rows.map (·.1)).Nodup) {r : Str × Int} (h : r ∈ rows) : plR rows r.1 = r.2 := by
  unfold plR
  have : rows.find? (fun x => decide (x.1 = r.1)) = some r := by
    induction rows with
    | nil => cases h
    | cons x xs ih =>
      rw [List.find?_cons]
      rw [List.map_cons, List.nodup_cons] at nd
      rcases List.mem_cons.mp h with e | m
      · subst e
        simp
      · have ne : x.1 ≠ r.1 := fun e => nd.1 (by rw [e]; exact List.mem_map_of_mem m)
        rw [decide_eq_false ne]
        exact ih nd.2 m
  rw [this]
  rfl
theorem plS_row {rows : List (Str × Int)} (ro : RowsOk rows) {r : Str × Int} (h : r ∈ rows) : plS rows r.1 = some r.2.toNat := by
  have hm : r.1 ∈ rows.map (·.1) := List.mem_map_of_mem h
  unfold plS
  rw [no_letter ro hm, if_neg Bool.false_ne_true, if_pos hm, plR_row ro.nd h]
section
variable {P : Program} {w : World} {K : PySem.W.Frag} {mg : Str → Option Value} {base : Heap}
abbrev s__law_signs : Stmt := top 44
theorem sc__law_signs : FnScope ["_law_box_here", "_law_rows_here", "_law_letters_here", "_law_upto", "_law_found", "_law_lacking", "_law_room", "_law_some", "_law_name", "_law_places", "_law_row"] ["_law_box_here", "_law_rows_here", "_law_letters_here", "_law_upto"] (defScope s__law_signs) := ⟨rfl, rfl, rfl, by decide +kernel, rfl, by decide +kernel, by decide +kernel⟩

set_option maxHeartbeats 800000 in
theorem ok_signs (bt : Bt mg) (p__law_take : Prom P w K mg base 1 "_law_take" ["_law_box_here", "_law_many"] spTake) (D : Def K mg "_law_signs" s__law_signs) : Prom P w K mg base 2 "_law_signs" ["_law_box_here", "_law_rows_here", "_law_letters_here", "_law_upto"] (spSigns K) := by
  refine prom_mk D sc__law_signs (fun vs H Q E h => ?_) (fun _ _ _ _ _ _ us hl => match us, hl with | [_, _, _, _], _ => rfl) (fun f cdv A outer s H vs Q E hr h => ?_)
  · obtain ⟨b, n, rw_, lt, upto, rows, ls, rfl, _⟩ := h
    rfl
  · obtain ⟨b, n, rw_, lt, upto, rows, ls, rfl, u1, u2, hb, ro, hls, hrw, hlt, q⟩ := h
    refine ⟨_, (pss_cons (ps_set (i := 4) sc__law_signs.nd rfl (Or.inl rfl) (pe_lst pa_nil))
      (pss_cons (ps_set (i := 5) sc__law_signs.nd rfl (Or.inl rfl) pe_int)
      (pss_cons (ps_while PassesOwn.never (pt_cmpR op_gt (pv 5) pe_int (nomark _)) (pss_cons (ps_set (i := 6) sc__law_signs.nd rfl (Or.inr rfl) (pe_op op_sub (pe_op op_sub (pv 3) (pe_callB (id := "len") (lenK (K := K)) (by rfl) bt.len_ (by decide +kernel) (pa_cons (pv 4) pa_nil))) (pv 5)))
      (pss_cons (ps_setLc (i := 7) (own := [("_law_row", 10)]) (g := gName 10) rfl sc__law_signs.nd rfl rfl (sw_true rfl rfl rfl (by decide +kernel)) (pi_listK (K := K) rfl (pv 1)) (blkOk_by (N := ["_law_box_here", "_law_rows_here", "_law_letters_here", "_law_upto", "_law_found", "_law_lacking", "_law_room", "_law_some", "_law_name", "_law_places", "_law_row"]) (sc := defScope s__law_signs) (by decide +kernel)) (fun _ _ _ _ _ => (pg_name (i := 10) sc__law_signs.nd rfl (Or.inl rfl))) (fun _ _ _ _ _ => (pts_one (pt_cmpR op_le (pe_ix (ix_tupK (K := K)) (pv 10) pe_int (fun _ _ => rfl)) (pv 6) (nomark _)))) (fun _ _ _ _ _ => (pv 10)))
      (pss_one (ps_if (PW.pt (pw_or (pt_cmpR (op_eqNil (K := K) hr.units) (pv 7) (pe_lst pa_nil) (nomark _)) (pw_or1 (pt_cmpR op_eq (pe_pc p__law_take (hr.mono (by decide)) rfl (pa_cons (pv 0) (pa_cons pe_int pa_nil))) pe_int (nomark _))))) (pss_cons (ps_expr (pe_appendK (K := K) rfl (pv 4) (pe_ix (ix_listK (K := K)) (pv 2) (pe_pc p__law_take (hr.mono (by decide)) rfl (pa_cons (pv 0) (pa_cons (pe_callB (id := "len") (lenK (K := K)) (by rfl) bt.len_ (by decide +kernel) (pa_cons (pv 2) pa_nil)) pa_nil))) (fun _ _ => rfl))))
      (pss_one (ps_set (i := 5) sc__law_signs.nd rfl (Or.inl rfl) (pe_op op_sub (pv 5) pe_int)))) (pss_cons (ps_asg (pe_ix (ix_listK (K := K)) (pv 7) (pe_pc p__law_take (hr.mono (by decide)) rfl (pa_cons (pv 0) (pa_cons (pe_callB (id := "len") (lenK (K := K)) (by rfl) bt.len_ (by decide +kernel) (pa_cons (pv 7) pa_nil)) pa_nil))) (fun _ _ => rfl)) (pg_tupK (K := K) (n := 2) rfl rfl (pgs_cons (pg_name (i := 8) sc__law_signs.nd rfl (Or.inl rfl)) (pgs_cons (pg_name (i := 9) sc__law_signs.nd rfl (Or.inl rfl)) pgs_nil))))
      (pss_cons (ps_expr (pe_appendK (K := K) rfl (pv 4) (pv 8)))
      (pss_one (ps_set (i := 5) sc__law_signs.nd rfl (Or.inl rfl) (pe_op op_sub (pe_op op_add (pv 5) (pv 9)) pe_int))))))))))
      (pss_one (ps_ret (pv 4)))))), ?_⟩
    refine ⟨(by show 0 ≤ sizeLine; decide), fun F hF => ?_⟩
    have nF : F ≠ b := (Dr.refl hb).ne hF
    have d0 : Dr b (n + 2 * upto) H (L2.upd H F (.lst [])) := (Dr.refl hb).new hF
    have eF : L2.upd H F (.lst []) F = some (.lst []) := upd_same ..
    generalize L2.upd H F (.lst []) = H1 at d0 eF ⊢
    refine ⟨fun m τ G => ∃ (zs : List Str) (k : Nat), m = upto - zs.length ∧ (∃ x6 x7 x8 x9 x10, τ = [some (.ref b), some (.ref rw_), some (.ref lt), some (.int upto), some (.ref F), some (.int k), x6, x7, x8, x9, x10]) ∧ zs.length + k ≤ upto ∧ G F = some (.lst (zs.map V.str)) ∧ (∀ a o, a ≠ b → a ≠ F → H a = some o → G a = some o) ∧
      (∃ o, G b = some o ∧ Bag (n + 2 * (upto - zs.length)) o) ∧ (∀ z ∈ zs, z ∈ rows.map (·.1) ∨ z ∈ ls) ∧ lacks (plS rows) 1 zs = some k, ⟨_, [], 1, rfl, ⟨_, _, _, _, _, rfl⟩, u1, eF, fun a o h1 _ e => d0.fx a o h1 e, d0.bag, by simp, rfl⟩, ?_⟩
    rintro m τ G ⟨zs, k, rfl, ⟨x6, x7, x8, x9, x10, rfl⟩, hk, eG, keep, hbG, hin, hlk⟩
    refine ⟨_, rfl, _, _, rfl, rfl, _, rfl, ?_⟩
    cases k with
    | zero =>
      refine iteF ⟨_, rfl, ?_⟩
      have l1 : 1 ≤ zs.length := by
        cases zs with
        | nil => cases hlk
        | cons _ _ => simp
      refine q G F zs ⟨fun a o ha e => ?_, let ⟨o, e, g⟩ := hbG; ⟨o, e, g.mono (by omega)⟩⟩ ⟨l1, by omega, hin, hlk⟩ hF nF eG
      exact keep a o ha (ne_of_none e hF) e
    | succ k =>
      refine iteT' (decide_eq_true (by omega)) ⟨fun τ G => ∃ (zs' : List Str) (k' : Nat), zs'.length = zs.length + 1 ∧ (∃ x6 x7 x8 x9 x10, τ = [some (.ref b), some (.ref rw_), some (.ref lt), some (.int upto), some (.ref F), some (.int k'), x6, x7, x8, x9, x10]) ∧ zs'.length + k' ≤ upto ∧ G F = some (.lst (zs'.map V.str)) ∧ (∀ a o, a ≠ b → a ≠ F → H a = some o → G a = some o) ∧
        (∃ o, G b = some o ∧ Bag (n + 2 * (upto - zs'.length)) o) ∧ (∀ z ∈ zs', z ∈ rows.map (·.1) ∨ z ∈ ls) ∧ lacks (plS rows) 1 zs' = some k', fun τ G' ⟨zs', k', h1, h2, h3⟩ => ⟨upto - zs'.length, by omega, zs', k', rfl, h2, h3⟩, ?_⟩
      refine ⟨_, rfl, _, rfl, _, _, rfl, .inl ⟨_, .inl (.inl eG), rfl⟩, _, _, rfl, rfl, _, rfl, _, _, rfl, rfl, ?_⟩
      have hG0 : Same (hide H b) G := fun a o e => by
        have ha : a ≠ b := fun z => by rw [z, hide_self] at e; cases e
        rw [hide_ne ha] at e
        exact keep a o ha (ne_of_none e hF) e
      obtain ⟨_, xr, er, hrL, hrA⟩ := hrw.list_inv
      cases er
      have ll : (ls.map V.str).length = 5 := by rw [List.length_map]; exact hls.1
      have nlt : lt ≠ b := fun z => by rw [z, hide_self] at hlt; cases hlt
      have hxl := hrA.length
      rw [List.length_map] at hxl
      have hfew := ro.few
      obtain ⟨room, eroom⟩ : ∃ r : Int, r = (upto : Int) - ((zs.map V.str).length : Nat) - ((k + 1 : Nat) : Int) := ⟨_, rfl⟩
      refine ⟨_, rfl, rw_, rfl, ⟨_, hG0.seq hrL⟩, fun R hR => lc_it walk_list (fun i G' => Same G G' ∧ ∃ sub : List (Addr × (Str × Int)), G' R = some (.lst (sub.map fun s => V.ref s.1)) ∧ sub.length ≤ i ∧ ∀ s ∈ sub, s.2 ∈ rows ∧ s.2.2 ≤ room ∧ SqT K (hide H b) s.1 [.str s.2.1, .int s.2.2])
        ⟨Same.new (Same.refl _) hR, [], upd_same .., Nat.le_refl _, by simp⟩ (fun i G' _ p => p.1.seq (hG0.seq hrL)) ?_ ?_⟩
      · rintro i x G1 G2 hi ⟨s1, sub, eR, lsub, hsub⟩ ⟨rfl, hx⟩
        obtain ⟨di, hdi, hx2⟩ := hrA.get hx
        obtain ⟨r, hr1, rfl⟩ : ∃ r ∈ rows, di = rowPy r := by
          rw [List.getElem?_map] at hdi
          cases hri : rows[i]? with
          | none => rw [hri] at hdi; cases hdi
          | some r => rw [hri] at hdi; cases hdi; exact ⟨r, List.mem_of_getElem? hri, rfl⟩
        obtain ⟨a, ys, rfl, hT, hA⟩ := hx2.tup_inv
        cases hA with
        | cons y0 t1 => cases t1 with
        | cons y1 t2 => cases t2 with
        | nil =>
        cases y0
        cases y1
        refine ⟨rfl, _, rfl, a, _, _, .int r.2, rfl, rfl, SqT.same (hG0.trans s1) hT, rfl, _, rfl, _, _, rfl, rfl, _, rfl, ite2 (fun c => ?_) (fun c => ?_)⟩
        · refine ⟨_, rfl, _, eR, ?_, Same.keep s1 hR, sub ++ [(a, r)], by rw [upd_same, List.map_append]; rfl, by rw [List.length_append]; exact Nat.add_le_add_right lsub 1, fun s hs => ?_⟩
          · rw [List.length_map]; exact sz5' (by omega)
          · rcases List.mem_append.mp hs with m | m
            · exact hsub s m
            · rw [List.mem_singleton.mp m]; exact ⟨hr1, by rw [eroom]; exact of_decide_eq_true c, hT⟩
        · exact ⟨s1, sub, eR, Nat.le_succ_of_le lsub, hsub⟩
      · rintro G2 ⟨s1, sub, eR, lsub, hsub⟩
        refine ⟨_, rfl, (by show 0 ≤ sizeLine; decide), fun N hN => ?_⟩
        (generalize hG : L2.upd _ N _ = G4; have sN := same_of hG hN; have eN := at_of hG; clear hG)
        have s4 := s1.trans sN
        have eF4 := s4 _ _ eG
        have kG4 := hG0.trans s4
        have keep4 : ∀ a o, a ≠ b → a ≠ F → H a = some o → G4 a = some o := fun a o h1 h2 e => s4 _ _ (keep a o h1 h2 e)
        have nR : R ≠ b := fun z => by
          obtain ⟨o, e, _⟩ := hbG
          rw [z, e] at hR
          cases hR
        have eR4 := sN _ _ eR
        have hb4 : ∃ o, G4 b = some o ∧ Bag (n + 2 * (upto - (zs.length + 1)) + 1 + 1) o := by
          obtain ⟨o, e, g⟩ := hbG
          exact ⟨o, s4 _ _ e, g.mono (by omega)⟩
        refine ⟨R, N, _, rfl, rfl, .inl (.inl eR4), .inl (.inl eN), _, rfl, ?_⟩
        cases sub with
        | nil =>
          refine iteT (iteT ?_)
          obtain ⟨G5, eG5⟩ : ∃ G5, G5 = G4 := ⟨_, rfl⟩
          have d5 : Dr b (n + 2 * (upto - (zs.length + 1)) + 1) G4 G5 := by rw [eG5]; exact (Dr.refl hb4).mono (Nat.le_succ _)
          rw [← eG5]
          -- a letter
          have eF5 : G5 F = some (.lst (zs.map V.str)) := d5.at nF eF4
          have lt5 : G5 lt = some (.lst (ls.map V.str)) := d5.at nlt (kG4 _ _ hlt)
          refine ⟨_, rfl, .inl ⟨rfl, _, .inl (.inl eF5)⟩, _, rfl, _, rfl, _, rfl, _, _, rfl, .inl ⟨_, .inl (.inl lt5), rfl⟩, b, _, n + 2 * (upto - (zs.length + 1)), ((ls.map V.str).length : Int), rfl, d5.bag.choose_spec.1, d5.bag.choose_spec.2, by rw [ll]; decide, by rw [ll]; decide +kernel, fun x o x0 x1 g => ?_⟩
          (generalize hG : L2.upd _ b _ = G6; have d6 := dr_of hG g; clear hG)
          obtain ⟨v, hv, hvm⟩ := atI_in (xs := ls.map V.str) x0 x1
          obtain ⟨z, hz, rfl⟩ := List.mem_map.mp hvm
          have D6 := d5.trans d6
          have eF6 := D6.at nF eF4
          refine ⟨lt, _, _, .str z, rfl, rfl, .inl (.inl (d6.at nlt lt5)), hv, F, _, _, rfl, rfl, eF6, sz5' (by rw [List.length_map]; omega), _, rfl, _, _, rfl, rfl, ?_⟩
          refine ⟨zs ++ [z], k, by simp, ⟨_, _, _, _, _, by rw [show (k : Int) = ((k + 1 : Nat) : Int) - 1 by omega]; rfl⟩, by rw [List.length_append]; show zs.length + 1 + k ≤ upto; omega, by rw [upd_same, List.map_append]; rfl, fun a o h1 h2 e => (upd_ne h2).trans (D6.fx a o h1 (keep4 a o h1 h2 e)), ?_, ?_, ?_⟩
          · obtain ⟨o, e, g⟩ := d6.bag
            exact ⟨o, (upd_ne (Ne.symm nF)).trans e, by rw [List.length_append]; exact g⟩
          · intro y hy
            rcases List.mem_append.mp hy with m | m
            · exact hin y m
            · rw [List.mem_singleton.mp m]; exact .inr hz
          · exact lacks_app zs 1 k z 0 hlk (plS_letter (hls.2 z hz))
        | cons s0 sr =>
          refine iteF ⟨_, rfl, b, _, n + 2 * (upto - (zs.length + 1)) + 1, 3, rfl, hb4.choose_spec.1, hb4.choose_spec.2, by decide, by decide +kernel, fun x5 o5 x50 x53 g5 => ?_⟩
          (generalize hG : L2.upd _ b _ = G5; have d5 := dr_of hG g5; clear hG)
          refine ⟨rfl, _, rfl, ite2 (fun c => ?_) (fun c => ?_)⟩
          · -- a letter
            have eF5 : G5 F = some (.lst (zs.map V.str)) := d5.at nF eF4
            have lt5 : G5 lt = some (.lst (ls.map V.str)) := d5.at nlt (kG4 _ _ hlt)
            refine ⟨_, rfl, .inl ⟨rfl, _, .inl (.inl eF5)⟩, _, rfl, _, rfl, _, rfl, _, _, rfl, .inl ⟨_, .inl (.inl lt5), rfl⟩, b, _, n + 2 * (upto - (zs.length + 1)), ((ls.map V.str).length : Int), rfl, d5.bag.choose_spec.1, d5.bag.choose_spec.2, by rw [ll]; decide, by rw [ll]; decide +kernel, fun x o x0 x1 g => ?_⟩
            (generalize hG : L2.upd _ b _ = G6; have d6 := dr_of hG g; clear hG)
            obtain ⟨v, hv, hvm⟩ := atI_in (xs := ls.map V.str) x0 x1
            obtain ⟨z, hz, rfl⟩ := List.mem_map.mp hvm
            have D6 := d5.trans d6
            have eF6 := D6.at nF eF4
            refine ⟨lt, _, _, .str z, rfl, rfl, .inl (.inl (d6.at nlt lt5)), hv, F, _, _, rfl, rfl, eF6, sz5' (by rw [List.length_map]; omega), _, rfl, _, _, rfl, rfl, ?_⟩
            refine ⟨zs ++ [z], k, by simp, ⟨_, _, _, _, _, by rw [show (k : Int) = ((k + 1 : Nat) : Int) - 1 by omega]; rfl⟩, by rw [List.length_append]; show zs.length + 1 + k ≤ upto; omega, by rw [upd_same, List.map_append]; rfl, fun a o h1 h2 e => (upd_ne h2).trans (D6.fx a o h1 (keep4 a o h1 h2 e)), ?_, ?_, ?_⟩
            · obtain ⟨o, e, g⟩ := d6.bag
              exact ⟨o, (upd_ne (Ne.symm nF)).trans e, by rw [List.length_append]; exact g⟩
            · intro y hy
              rcases List.mem_append.mp hy with m | m
              · exact hin y m
              · rw [List.mem_singleton.mp m]; exact .inr hz
            · exact lacks_app zs 1 k z 0 hlk (plS_letter (hls.2 z hz))
          · have eF5 : G5 F = some (.lst (zs.map V.str)) := d5.at nF eF4
            have eR5 := d5.at nR eR4
            have lsn : ((s0 :: sr).map fun s => V.ref s.1).length ≤ 12 := by rw [List.length_map]; omega
            refine ⟨_, rfl, _, rfl, _, rfl, _, _, rfl, .inl ⟨_, .inl (.inl eR5), rfl⟩, b, _, n + 2 * (upto - (zs.length + 1)), _, rfl, d5.bag.choose_spec.1, d5.bag.choose_spec.2, (by simp), (by
              have : (2 : Int) ^ 200 > 12 := by decide +kernel
              omega), fun x o x0 x1 g => ?_⟩
            (generalize hG : L2.upd _ b _ = G6; have d6 := dr_of hG g; clear hG)
            obtain ⟨v, hv, hvm⟩ := atI_in (xs := (s0 :: sr).map fun s => V.ref s.1) x0 x1
            obtain ⟨⟨ra, r⟩, hs, rfl⟩ := List.mem_map.mp hvm
            obtain ⟨hr1, hr2, hr3⟩ := hsub _ hs
            replace hr2 : r.2 ≤ room := hr2
            replace hr1 : r ∈ rows := hr1
            have D6 := d5.trans d6
            have eF6 := D6.at nF eF4
            have hlo := ro.lo r hr1
            have hT6 : SqT K G6 ra [.str r.1, .int r.2] := SqT.same (fun a o e => by
              have ha : a ≠ b := fun z => by rw [z, hide_self] at e; cases e
              exact D6.fx a o ha (kG4 _ _ e)) hr3
            refine ⟨R, _, _, .ref ra, rfl, rfl, .inl (.inl (d6.at nR eR5)), hv, ra, _, rfl, hT6, rfl, _, _, rfl, _, _, rfl, rfl, ?_⟩
            refine ⟨_, rfl, .inl ⟨rfl, _, .inl (.inl eF6)⟩, _, rfl, F, _, _, rfl, rfl, eF6, sz5' (by rw [List.length_map]; omega), _, rfl, _, rfl, _, _, rfl, rfl, _, _, rfl, rfl, ?_⟩
            rw [List.length_map] at eroom
            refine ⟨zs ++ [r.1], k + r.2.toNat, by simp, ⟨_, _, _, _, _, by rw [show ((k + r.2.toNat : Nat) : Int) = ((k + 1 : Nat) : Int) + r.2 - 1 by omega]; rfl⟩, by rw [List.length_append]; show zs.length + 1 + (k + r.2.toNat) ≤ upto; omega, by rw [upd_same, List.map_append]; rfl, fun a o h1 h2 e => (upd_ne h2).trans (D6.fx a o h1 (keep4 a o h1 h2 e)), ?_, ?_, ?_⟩
            · obtain ⟨o, e, g⟩ := d6.bag
              exact ⟨o, (upd_ne (Ne.symm nF)).trans e, by rw [List.length_append]; exact g⟩
            · intro y hy
              rcases List.mem_append.mp hy with m | m
              · exact hin y m
              · rw [List.mem_singleton.mp m]; exact .inl (List.mem_map_of_mem hr1)
            · exact lacks_app zs 1 k r.1 r.2.toNat hlk (plS_row ro hr1)
end

end TS

namespace TS
open PySem PySem.Spec PyProof.Rows L2 TL

/-! ### signs otherwise -/
/-- items, each one a thing that may be handed in -/
def Pk (K : PySem.W.Frag) (G : Hp) (xs : List V) (m : Nat) : Prop := ∃ ds, DtAll K G xs ds ∧ ds.length ≤ m ∧ ∀ e ∈ ds, El e
theorem Pk.same {K : PySem.W.Frag} {G G' : Hp} {xs : List V} {m : Nat} (h : Pk K G xs m) (s : Same G G') : Pk K G' xs m := let ⟨ds, a, b, c⟩ := h; ⟨ds, DtAll.same s a, b, c⟩
theorem Pk.mono {K : PySem.W.Frag} {G : Hp} {xs : List V} {m m' : Nat} (h : Pk K G xs m) (s : m ≤ m') : Pk K G xs m' := let ⟨ds, a, b, c⟩ := h; ⟨ds, a, by omega, c⟩
theorem Pk.len {K : PySem.W.Frag} {G : Hp} {xs : List V} {m : Nat} (h : Pk K G xs m) : xs.length ≤ m := let ⟨ds, a, b, c⟩ := h; by rw [a.length]; exact b
theorem DtAll.drop {K : PySem.W.Frag} {H : Hp} : ∀ {xs : List V} {ds : List PyData} (n : Nat), DtAll K H xs ds → DtAll K H (xs.drop n) (ds.drop n)
  | _, _, 0, h => h
  | _, _, n + 1, .nil => .nil
  | _, _, n + 1, .cons _ t => DtAll.drop n t
theorem DtAll.take {K : PySem.W.Frag} {H : Hp} : ∀ {xs : List V} {ds : List PyData} (n : Nat), DtAll K H xs ds → DtAll K H (xs.take n) (ds.take n)
  | _, _, 0, _ => .nil
  | _, _, n + 1, .nil => .nil
  | _, _, n + 1, .cons h t => .cons h (DtAll.take n t)
theorem Pk.cut {K : PySem.W.Frag} {G : Hp} {xs : List V} {m : Nat} (h : Pk K G xs m) (lo hi : Option Int) : Pk K G (cutV xs lo hi) m := by
  obtain ⟨ds, a, b, c⟩ := h
  unfold cutV
  exact ⟨_, DtAll.take _ (DtAll.drop _ a), Nat.le_trans (by rw [List.length_take, List.length_drop]; omega) b, fun e he => c e (List.mem_of_mem_drop (List.mem_of_mem_take he))⟩
theorem Pk.app {K : PySem.W.Frag} {G : Hp} {xs ys : List V} {m n : Nat} (h : Pk K G xs m) (g : Pk K G ys n) : Pk K G (xs ++ ys) (m + n) := by
  obtain ⟨ds, a, b, c⟩ := h
  obtain ⟨es, a2, b2, c2⟩ := g
  exact ⟨ds ++ es, DtAll.append a a2, by rw [List.length_append]; omega, fun e he => (List.mem_append.mp he).elim (c e) (c2 e)⟩
theorem Pk.at {K : PySem.W.Frag} {G : Hp} {xs : List V} {m : Nat} (h : Pk K G xs m) {v : V} (hv : v ∈ xs) : Pk K G [v] 1 := by
  obtain ⟨ds, a, b, c⟩ := h
  obtain ⟨i, hi⟩ := List.mem_iff_getElem?.mp hv
  obtain ⟨d, h1, h2⟩ := a.get hi
  exact ⟨[d], .cons h2 .nil, Nat.le_refl _, fun e he => by rw [List.mem_singleton.mp he]; exact c d (List.mem_of_getElem? h1)⟩
theorem Pk.set {K : PySem.W.Frag} {G : Hp} {xs : List V} {m : Nat} (h : Pk K G xs m) {v : V} (hv : Pk K G [v] 1) (i : Nat) : Pk K G (xs.set i v) m := by
  obtain ⟨ds, a, b, c⟩ := h
  obtain ⟨es, a2, b2, c2⟩ := hv
  cases a2 with
  | @cons _ _ d _ h1 t =>
    exact ⟨ds.set i d, DtAll.set a h1, by rw [List.length_set]; exact b, fun e he => (List.mem_or_eq_of_mem_set he).elim (c e) (fun q => by rw [q]; exact c2 d (by simp))⟩
theorem Pk.strs {K : PySem.W.Frag} {G : Hp} : ∀ {zs : List Str}, (∀ z ∈ zs, El (.str z)) → Pk K G (zs.map V.str) zs.length
  | [], _ => ⟨[], .nil, Nat.le_refl _, by simp⟩
  | z :: r, h => by
    obtain ⟨ds, a, b, c⟩ := Pk.strs (K := K) (G := G) (zs := r) fun y hy => h y (List.mem_cons_of_mem _ hy)
    exact ⟨.str z :: ds, .cons (.str z) a, by simpa using b, fun e he => (List.mem_cons.mp he).elim (fun q => by rw [q]; exact h z (by simp)) (c e)⟩
theorem el_lok {z : Str} (h : lokB z = true) : El (.str z) := by
  obtain ⟨_, h2⟩ := Bool.and_eq_true_iff.mp h
  exact ⟨(Bool.and_eq_true_iff.mp h2).1, (Bool.and_eq_true_iff.mp h2).2⟩
theorem el_name {z : Str} (h : nameS z = true) : El (.str z) := by
  unfold nameS at h
  obtain ⟨h1, h3⟩ := Bool.and_eq_true_iff.mp h
  obtain ⟨_, h2⟩ := Bool.and_eq_true_iff.mp h1
  have hc : ∀ c ∈ z.cps.toList, c ≤ 122 := fun c hc => of_decide_eq_true (Bool.and_eq_true_iff.mp (List.all_eq_true.mp h3 c hc)).2
  refine ⟨Sm.str (fun c m => Nat.lt_of_le_of_lt (hc c m) (by decide)) (Nat.le_trans (of_decide_eq_true h2) (by decide)), ?_⟩
  show z.cps.all (· < 0x110000) = true
  rw [← Array.all_toList, List.all_eq_true]
  exact fun c m => decide_eq_true (Nat.lt_of_le_of_lt (hc c m) (by decide))
def oddV (L T : Addr) : List V := [.str "", .str "a b", .str "A100", .str "A01", .str "A-1", .str "AA", .str "zzzzzzzz", .str "Aa", .str "a0", .str " A", .str "A ", .str "7", .non, .int 5, .bl true, .ref L, .ref T]
def oddD : List PyData := [.str "", .str "a b", .str "A100", .str "A01", .str "A-1", .str "AA", .str "zzzzzzzz", .str "Aa", .str "a0", .str " A", .str "A ", .str "7", .none, .int 5, .bool true, .list [.str "A"], .tuple [.str "A"]]
theorem odd_el : ∀ e ∈ oddD, El e := fun e he => by
  have h : ∀ e ∈ oddD, (smB 2 30 e && e.canLay0) = true := by
    simp only [oddD, List.mem_cons, List.not_mem_nil, or_false]
    rintro e (rfl | rfl | rfl | rfl | rfl | rfl | rfl | rfl | rfl | rfl | rfl | rfl | rfl | rfl | rfl | rfl | rfl) <;> decide +kernel
  exact ⟨(Bool.and_eq_true_iff.mp (h e he)).1, (Bool.and_eq_true_iff.mp (h e he)).2⟩
theorem odd_pk {K : PySem.W.Frag} {G : Hp} {L T : Addr} (hL : G L = some (.lst [.str "A"])) (hT : G T = some (.tup [.str "A"])) : Pk K G (oddV L T) 17 :=
  ⟨oddD, .cons (.str _) (.cons (.str _) (.cons (.str _) (.cons (.str _) (.cons (.str _) (.cons (.str _) (.cons (.str _) (.cons (.str _) (.cons (.str _) (.cons (.str _) (.cons (.str _) (.cons (.str _) (.cons .non (.cons (.int 5) (.cons (.bl true)
    (.cons (.lst (.inl (.inl hL)) (.cons (.str _) .nil)) (.cons (.tup (.inl (.inl hT)) (.cons (.str _) .nil)) .nil)))))))))))))))), by decide, odd_el⟩
theorem cat_sz {xs ys : List V} (h1 : xs.length ≤ 1000) (h2 : ys.length ≤ 1000) : xs.length + ys.length ≤ sizeLine := sz5 (by omega)
def spOther8 (K : PySem.W.Frag) : Sp := fun vs H Q _ => ∃ (b : Addr) (n : Nat) (rw_ lt sg : Addr) (rows : List (Str × Int)) (ls : List Str) (xs : List V), vs = [.ref b, .ref rw_, .ref lt, .ref sg] ∧ (∃ o, H b = some o ∧ Bag (n + 4) o) ∧ RowsOk rows ∧ LtrsOk ls ∧
  Dt K (hide H b) (.ref rw_) (.list (rows.map rowPy)) ∧ hide H b lt = some (.lst (ls.map V.str)) ∧ hide H b sg = some (.lst xs) ∧ 1 ≤ xs.length ∧ Pk K (hide H b) xs 100 ∧
  ∀ H' p xs', Dr b n H H' → H p = none → p ≠ b → H' p = some (.lst xs') → Pk K (hide H' b) xs' 202 → Q (.ref p) H'
section
variable {P : Program} {w : World} {K : PySem.W.Frag} {mg : Str → Option Value} {base : Heap}
abbrev s__law_otherwise : Stmt := top 48
theorem sc__law_otherwise : FnScope ["_law_box_here", "_law_rows_here", "_law_letters_here", "_law_signs_here", "_law_way", "_law_at", "_law_to", "_law_odd", "_law_more", "_law_found", "_law_name", "_law_places"] ["_law_box_here", "_law_rows_here", "_law_letters_here", "_law_signs_here"] (defScope s__law_otherwise) := ⟨rfl, rfl, rfl, by decide +kernel, rfl, by decide +kernel, by decide +kernel⟩

set_option maxHeartbeats 2000000 in
theorem ok_other8 (bt : Bt mg) (p__law_take : Prom P w K mg base 1 "_law_take" ["_law_box_here", "_law_many"] spTake) (D : Def K mg "_law_otherwise" s__law_otherwise) : Prom P w K mg base 2 "_law_otherwise" ["_law_box_here", "_law_rows_here", "_law_letters_here", "_law_signs_here"] (spOther8 K) := by
  refine prom_mk D sc__law_otherwise (fun vs H Q E h => ?_) (fun _ _ _ _ _ _ us hl => match us, hl with | [_, _, _, _], _ => rfl) (fun f cdv A outer s H vs Q E hr h => ?_)
  · obtain ⟨b, n, rw_, lt, sg, rows, ls, xs, rfl, _⟩ := h
    rfl
  · obtain ⟨b, n, rw_, lt, sg, rows, ls, xs, rfl, hb, ro, hls, hrw, hlt, hsg, l1, hpk, q⟩ := h
    have l100 := hpk.len
    have nsg : sg ≠ b := fun z => by rw [z, hide_self] at hsg; cases hsg
    have nlt : lt ≠ b := fun z => by rw [z, hide_self] at hlt; cases hlt
    rw [hide_ne nsg] at hsg
    have hlt' := hlt
    rw [hide_ne nlt] at hlt'
    have big : (2 : Int) ^ 200 > 1000 := by decide +kernel
    refine ⟨_, (pss_cons (ps_set (i := 4) sc__law_otherwise.nd rfl (Or.inl rfl) (pe_pc p__law_take (hr.mono (by decide)) rfl (pa_cons (pv 0) (pa_cons pe_int pa_nil))))
      (pss_cons (ps_set (i := 5) sc__law_otherwise.nd rfl (Or.inl rfl) (pe_pc p__law_take (hr.mono (by decide)) rfl (pa_cons (pv 0) (pa_cons (pe_callB (id := "len") (lenK (K := K)) (by rfl) bt.len_ (by decide +kernel) (pa_cons (pv 3) pa_nil)) pa_nil))))
      (pss_cons (ps_set (i := 6) sc__law_otherwise.nd rfl (Or.inl rfl) (pe_pc p__law_take (hr.mono (by decide)) rfl (pa_cons (pv 0) (pa_cons (pe_callB (id := "len") (lenK (K := K)) (by rfl) bt.len_ (by decide +kernel) (pa_cons (pv 3) pa_nil)) pa_nil))))
      (pss_cons (ps_set (i := 7) sc__law_otherwise.nd rfl (Or.inl rfl) (pe_lst (pa_cons pe_str (pa_cons pe_str (pa_cons pe_str (pa_cons pe_str (pa_cons pe_str (pa_cons pe_str (pa_cons pe_str (pa_cons pe_str (pa_cons pe_str (pa_cons pe_str (pa_cons pe_str (pa_cons pe_str (pa_cons pe_non (pa_cons pe_int (pa_cons pe_bl (pa_cons (pe_lst (pa_cons pe_str pa_nil)) (pa_cons (pe_tup (pa_cons pe_str pa_nil)) pa_nil)))))))))))))))))))
      (pss_cons (ps_set (i := 8) sc__law_otherwise.nd rfl (Or.inl rfl) (pe_op op_cat (pe_lc (own := [("_law_name", 10), ("_law_places", 11)]) rfl sc__law_otherwise.nd (pi_listK (K := K) rfl (pv 1)) (blkOk_by (N := ["_law_box_here", "_law_rows_here", "_law_letters_here", "_law_signs_here", "_law_way", "_law_at", "_law_to", "_law_odd", "_law_more", "_law_found", "_law_name", "_law_places"]) (sc := defScope s__law_otherwise) (by decide +kernel)) (fun _ _ _ _ _ => (pg_tupK (K := K) (n := 2) rfl rfl (pgs_cons (pg_name (i := 10) sc__law_otherwise.nd rfl (Or.inl rfl)) (pgs_cons (pg_name (i := 11) sc__law_otherwise.nd rfl (Or.inl rfl)) pgs_nil)))) (fun _ _ _ _ _ => pts_nil) (fun _ _ _ _ _ => (pv 10))) (pv 2)))
      (pss_cons (ps_if (pt_cmpR op_eq (pv 4) pe_int (nomark _)) (pss_one (ps_ret (pe_op op_cat (pe_op op_cat (pe_slice (sl_listK (K := K)) (pv 3) po_none (po_some (pv 5))) (pe_lst (pa_cons (pe_ix (ix_listK (K := K)) (pv 7) (pe_pc p__law_take (hr.mono (by decide)) rfl (pa_cons (pv 0) (pa_cons pe_int pa_nil))) (fun _ _ => rfl)) pa_nil))) (pe_slice (sl_listK (K := K)) (pv 3) (po_some (pe_op op_add (pv 5) pe_int)) po_none)))) pss_nil)
      (pss_cons (ps_if (pt_cmpR op_eq (pv 4) pe_int (nomark _)) (pss_one (ps_ret (pe_op op_cat (pe_op op_cat (pe_slice (sl_listK (K := K)) (pv 3) po_none (po_some (pv 5))) (pe_lst (pa_cons (pe_ix (ix_listK (K := K)) (pv 8) (pe_pc p__law_take (hr.mono (by decide)) rfl (pa_cons (pv 0) (pa_cons (pe_callB (id := "len") (lenK (K := K)) (by rfl) bt.len_ (by decide +kernel) (pa_cons (pv 8) pa_nil)) pa_nil))) (fun _ _ => rfl)) pa_nil))) (pe_slice (sl_listK (K := K)) (pv 3) (po_some (pe_op op_add (pv 5) pe_int)) po_none)))) pss_nil)
      (pss_cons (ps_if (pt_cmpR op_eq (pv 4) pe_int (nomark _)) (pss_one (ps_ret (pe_op op_cat (pe_op op_cat (pe_slice (sl_listK (K := K)) (pv 3) po_none (po_some (pv 5))) (pe_lst (pa_cons (pe_ix (ix_listK (K := K)) (pv 8) (pe_pc p__law_take (hr.mono (by decide)) rfl (pa_cons (pv 0) (pa_cons (pe_callB (id := "len") (lenK (K := K)) (by rfl) bt.len_ (by decide +kernel) (pa_cons (pv 8) pa_nil)) pa_nil))) (fun _ _ => rfl)) pa_nil))) (pe_slice (sl_listK (K := K)) (pv 3) (po_some (pv 5)) po_none)))) pss_nil)
      (pss_cons (ps_if (pt_cmpR op_eq (pv 4) pe_int (nomark _)) (pss_one (ps_ret (pe_op op_cat (pe_slice (sl_listK (K := K)) (pv 3) po_none (po_some (pv 5))) (pe_slice (sl_listK (K := K)) (pv 3) (po_some (pe_op op_add (pv 5) pe_int)) po_none)))) pss_nil)
      (pss_cons (ps_if (pt_cmpR op_eq (pv 4) pe_int (nomark _)) (pss_cons (ps_set (i := 9) sc__law_otherwise.nd rfl (Or.inl rfl) (pe_callTy (T := "list") (listK (K := K)) (by rfl) bt.list_ (by decide +kernel) (pa_cons (pv 3) pa_nil)))
      (pss_cons (ps_asg (pe_tup (pa_cons (pe_ix (ix_listK (K := K)) (pv 9) (pv 6) (fun _ _ => rfl)) (pa_cons (pe_ix (ix_listK (K := K)) (pv 9) (pv 5) (fun _ _ => rfl)) pa_nil))) (pg_tupK (K := K) (n := 2) rfl rfl (pgs_cons (pg_sub (pv 9) (pv 5) set_list) (pgs_cons (pg_sub (pv 9) (pv 6) set_list) pgs_nil))))
      (pss_one (ps_ret (pv 9))))) pss_nil)
      (pss_cons (ps_if (pt_cmpR op_eq (pv 4) pe_int (nomark _)) (pss_one (ps_ret (pe_op op_cat (pv 3) (pe_lst (pa_cons (pe_ix (ix_listK (K := K)) (pv 8) (pe_pc p__law_take (hr.mono (by decide)) rfl (pa_cons (pv 0) (pa_cons (pe_callB (id := "len") (lenK (K := K)) (by rfl) bt.len_ (by decide +kernel) (pa_cons (pv 8) pa_nil)) pa_nil))) (fun _ _ => rfl)) pa_nil))))) pss_nil)
      (pss_cons (ps_if (pt_cmpR op_eq (pv 4) pe_int (nomark _)) (pss_one (ps_ret (pe_slice (sl_listK (K := K)) (pv 3) po_none (po_some (pe_un un_neg pe_int))))) pss_nil)
      (pss_one (ps_ret (pe_callTy (T := "list") (listK (K := K)) (by rfl) bt.list_ (by decide +kernel) (pa_cons (pv 3) pa_nil)))))))))))))))), ?_⟩
    refine ⟨_, rfl, b, _, n + 3, 9, rfl, hb.choose_spec.1, hb.choose_spec.2, by decide, by decide +kernel, fun way o1 w0 w9 g1 => ?_⟩
    (generalize hG : L2.upd _ b _ = H1; have d1 := dr_of hG g1; clear hG)
    have sg1 := d1.at nsg hsg
    refine ⟨_, rfl, _, rfl, _, _, rfl, .inl ⟨_, .inl (.inl sg1), rfl⟩, b, _, n + 2, (xs.length : Int), rfl, d1.bag.choose_spec.1, d1.bag.choose_spec.2, by omega, by omega, fun at_ o2 a0 a1 g2 => ?_⟩
    (generalize hG : L2.upd _ b _ = H2; have d2 := dr_of hG g2; clear hG)
    have sg2 := d2.at nsg sg1
    refine ⟨_, rfl, _, rfl, _, _, rfl, .inl ⟨_, .inl (.inl sg2), rfl⟩, b, _, n + 1, (xs.length : Int), rfl, d2.bag.choose_spec.1, d2.bag.choose_spec.2, by omega, by omega, fun to o3 t0 t1 g3 => ?_⟩
    (generalize hG : L2.upd _ b _ = H3; have d3 := dr_of hG g3; clear hG)
    have sg3 := d3.at nsg sg2
    have D3 := (d1.trans d2).trans d3
    refine ⟨(by show 1 ≤ sizeLine; decide), fun L hL => ?_⟩
    (generalize hG : L2.upd _ L _ = H4; have sL := same_of hG hL; have eL := at_of hG; clear hG)
    refine ⟨(by show 1 ≤ sizeLine; decide), fun T hT => ?_⟩
    (generalize hG : L2.upd _ T _ = H5; have sT := same_of hG hT; have eT := at_of hG; clear hG)
    refine ⟨(by show 17 ≤ sizeLine; decide), fun O hO => ?_⟩
    (generalize hG : L2.upd _ O _ = H6; have sO := same_of hG hO; have eO := at_of hG; clear hG)
    have s36 := (sL.trans sT).trans sO
    have D6 : Dr b (n + 1) H H6 := D3.trans (Dr.same s36 D3.bag)
    have hrw6 := Dt.same D6.hide hrw
    obtain ⟨_, xr, er, hrL, hrA⟩ := hrw6.list_inv
    cases er
    have hxl := hrA.length
    rw [List.length_map] at hxl
    have hfew := ro.few
    refine ⟨_, rfl, rw_, rfl, ⟨_, hide_same.seq hrL⟩, fun R hR => lc_it walk_list (fun i G' => Same H6 G' ∧ G' R = some (.lst ((rows.take i).map fun r => V.str r.1))) ⟨Same.new (Same.refl _) hR, upd_same ..⟩ (fun i G' _ p => p.1.seq (hide_same.seq hrL)) ?_ ?_⟩
    · rintro i x G1 G2 hi ⟨s1, eR⟩ ⟨rfl, hx⟩
      obtain ⟨di, hdi, hx2⟩ := hrA.get hx
      obtain ⟨r, hri, rfl⟩ : ∃ r, rows[i]? = some r ∧ di = rowPy r := by
        rw [List.getElem?_map] at hdi
        cases hri : rows[i]? with
        | none => rw [hri] at hdi; cases hdi
        | some r => rw [hri] at hdi; cases hdi; exact ⟨r, rfl, rfl⟩
      obtain ⟨a, ys, rfl, hT', hA⟩ := hx2.tup_inv
      cases hA with
      | cons y0 t1 => cases t1 with
      | cons y1 t2 => cases t2 with
      | nil =>
      cases y0
      cases y1
      refine ⟨a, _, rfl, SqT.same (hide_same.trans s1) hT', rfl, _, _, rfl, _, _, rfl, rfl, rfl, yes (iteT ⟨_, rfl, _, eR, ?_, Same.keep s1 hR, ?_⟩)⟩
      · rw [List.length_map, List.length_take]; exact sz5' (by omega)
      · rw [upd_same, take_map (fun r => V.str r.1) hri]
    · rintro G1 ⟨s1, eR⟩
      rw [List.take_of_length_le (by omega)] at eR
      have D7 : Dr b (n + 1) H G1 := D6.trans (Dr.same s1 D6.bag)
      have lt7 := D7.at nlt hlt'
      refine ⟨_, rfl, R, lt, _, _, rfl, rfl, eR, lt7, ?_, fun M hM => ?_⟩
      · rw [List.length_map, List.length_map, sizeLine_eq]
        have := hls.1
        omega
      (generalize hG : L2.upd _ M _ = G8; have sM := same_of hG hM; have eM := at_of hG; clear hG)
      have D8 : Dr b (n + 1) H G8 := D7.trans (Dr.same sM D7.bag)
      have s68 := s1.trans sM
      have sg8 := D8.at nsg hsg
      have pk8 : Pk K (hide G8 b) xs 100 := hpk.same D8.hide
      have nO : O ≠ b := (Dr.same (sL.trans sT) D3.bag).ne hO
      have nL : L ≠ b := D3.ne hL
      have nT : T ≠ b := (Dr.same sL D3.bag).ne hT
      have eO8 := s68 _ _ eO
      have odd8 : Pk K (hide G8 b) (oddV L T) 17 := odd_pk (by rw [hide_ne nL]; exact s68 _ _ (sO _ _ (sT _ _ eL))) (by rw [hide_ne nT]; exact s68 _ _ (sO _ _ eT))
      have nM : M ≠ b := D7.ne hM
      have em : (rows.map fun r => V.str r.1) ++ ls.map V.str = (rows.map (·.1) ++ ls).map V.str := by rw [List.map_append, List.map_map]; rfl
      rw [em] at eM
      have more8 : Pk K (hide G8 b) ((rows.map (·.1) ++ ls).map V.str) (rows.map (·.1) ++ ls).length := Pk.strs fun z hz => (List.mem_append.mp hz).elim (fun m => by
        obtain ⟨r, hr, rfl⟩ := List.mem_map.mp m
        exact el_name (ro.names r hr)) (fun m => el_lok (hls.2 z m))
      obtain ⟨ms, ems⟩ : ∃ ms, ms = (rows.map (·.1) ++ ls).map V.str := ⟨_, rfl⟩
      have lms : 1 ≤ ms.length ∧ ms.length ≤ 17 := by
        have h5 := hls.1
        rw [ems, List.length_map, List.length_append, List.length_map, h5]
        omega
      rw [← ems] at eM more8
      clear ems em
      obtain ⟨an, ean⟩ : ∃ j : Nat, at_ = j := ⟨at_.toNat, by omega⟩
      subst ean
      obtain ⟨tn, etn⟩ : ∃ j : Nat, to = j := ⟨to.toNat, by omega⟩
      subst etn
      have fin : ∀ (G : Hp) (p : Addr) (ys : List V), Dr b n G8 G → G p = none → Pk K (hide G8 b) ys 202 → Q (.ref p) (L2.upd G p (.lst ys)) := fun G p ys dG hp pk =>
        q _ p ys ((D8.trans dG).new hp) (D8.free (dG.free hp)) (dG.ne hp) (upd_same ..) (pk.same (dG.new hp).hide)
      refine ⟨_, rfl, rfl, _, rfl, ite2 (fun c0 => ?_) (fun c0 => ?_)⟩
      · refine ⟨_, rfl, _, rfl, _, rfl, sg, _, rfl, .inl (.inl sg8), fun p1 hp1 => ?_⟩
        (generalize hG : L2.upd _ p1 _ = A1; have a1 := same_of hG hp1; have e1 := at_of hG; clear hG)
        have DA1 : Dr b (n + 1) G8 A1 := Dr.same a1 D8.bag
        have np1 : p1 ≠ b := D8.ne hp1
        refine ⟨_, rfl, _, rfl, b, _, n, 17, rfl, DA1.bag.choose_spec.1, DA1.bag.choose_spec.2, by decide, by decide +kernel, fun x o x0 x17 g => ?_⟩
        (generalize hG : L2.upd _ b _ = A2; have da2 := dr_of hG g; clear hG)
        have DA2 := DA1.trans da2
        obtain ⟨v, hv, hvm⟩ := atI_in (xs := oddV L T) x0 x17
        have pv := odd8.at hvm
        refine ⟨O, _, _, v, rfl, rfl, .inl (.inl (DA2.at nO eO8)), hv, (by show 1 ≤ sizeLine; decide), fun p2 hp2 => ?_⟩
        (generalize hG : L2.upd _ p2 _ = A3; have a3 := same_of hG hp2; have e3 := at_of hG; clear hG)
        have e13 := a3 _ _ (da2.at np1 e1)
        refine ⟨p1, p2, _, _, rfl, rfl, e13, e3, cat_sz (Nat.le_trans (pk8.cut _ _).len (by decide)) (by simp), fun p3 hp3 => ?_⟩
        (generalize hG : L2.upd _ p3 _ = A4; have a4 := same_of hG hp3; have e4 := at_of hG; clear hG)
        have DA4 : Dr b n G8 A4 := DA2.trans (Dr.same (a3.trans a4) DA2.bag)
        refine ⟨_, rfl, _, rfl, _, _, rfl, rfl, _, rfl, sg, _, rfl, .inl (.inl (DA4.at nsg sg8)), fun p4 hp4 => ?_⟩
        (generalize hG : L2.upd _ p4 _ = A5; have a5 := same_of hG hp4; have e5 := at_of hG; clear hG)
        refine ⟨p3, p4, _, _, rfl, rfl, a5 _ _ e4, e5, cat_sz (Nat.le_trans ((pk8.cut _ _).app pv).len (by decide)) (Nat.le_trans (pk8.cut _ _).len (by decide)), fun p5 hp5 => ?_⟩
        exact fin A5 p5 _ (DA4.trans (Dr.same a5 DA4.bag)) hp5 ((((pk8.cut _ _).app pv).app (pk8.cut _ _)).mono (by decide))
      refine ⟨_, rfl, rfl, _, rfl, ite2 (fun c1 => ?_) (fun c1 => ?_)⟩
      · refine ⟨_, rfl, _, rfl, _, rfl, sg, _, rfl, .inl (.inl sg8), fun p1 hp1 => ?_⟩
        (generalize hG : L2.upd _ p1 _ = A1; have a1 := same_of hG hp1; have e1 := at_of hG; clear hG)
        have DA1 : Dr b (n + 1) G8 A1 := Dr.same a1 D8.bag
        have np1 : p1 ≠ b := D8.ne hp1
        have eM1 := DA1.at nM eM
        refine ⟨_, rfl, _, rfl, _, rfl, _, _, rfl, .inl ⟨_, .inl (.inl eM1), rfl⟩, b, _, n, (ms.length : Int), rfl, DA1.bag.choose_spec.1, DA1.bag.choose_spec.2, by omega, by omega, fun x o x0 x17 g => ?_⟩
        (generalize hG : L2.upd _ b _ = A2; have da2 := dr_of hG g; clear hG)
        have DA2 := DA1.trans da2
        obtain ⟨v, hv, hvm⟩ := atI_in (xs := ms) x0 x17
        have pv := more8.at hvm
        refine ⟨M, _, _, v, rfl, rfl, .inl (.inl (DA2.at nM eM)), hv, (by show 1 ≤ sizeLine; decide), fun p2 hp2 => ?_⟩
        (generalize hG : L2.upd _ p2 _ = A3; have a3 := same_of hG hp2; have e3 := at_of hG; clear hG)
        have e13 := a3 _ _ (da2.at np1 e1)
        refine ⟨p1, p2, _, _, rfl, rfl, e13, e3, cat_sz (Nat.le_trans (pk8.cut _ _).len (by decide)) (by simp), fun p3 hp3 => ?_⟩
        (generalize hG : L2.upd _ p3 _ = A4; have a4 := same_of hG hp3; have e4 := at_of hG; clear hG)
        have DA4 : Dr b n G8 A4 := DA2.trans (Dr.same (a3.trans a4) DA2.bag)
        refine ⟨_, rfl, _, rfl, _, _, rfl, rfl, _, rfl, sg, _, rfl, .inl (.inl (DA4.at nsg sg8)), fun p4 hp4 => ?_⟩
        (generalize hG : L2.upd _ p4 _ = A5; have a5 := same_of hG hp4; have e5 := at_of hG; clear hG)
        refine ⟨p3, p4, _, _, rfl, rfl, a5 _ _ e4, e5, cat_sz (Nat.le_trans ((pk8.cut _ _).app pv).len (by decide)) (Nat.le_trans (pk8.cut _ _).len (by decide)), fun p5 hp5 => ?_⟩
        exact fin A5 p5 _ (DA4.trans (Dr.same a5 DA4.bag)) hp5 ((((pk8.cut _ _).app pv).app (pk8.cut _ _)).mono (by decide))
      refine ⟨_, rfl, rfl, _, rfl, ite2 (fun c2 => ?_) (fun c2 => ?_)⟩
      · refine ⟨_, rfl, _, rfl, _, rfl, sg, _, rfl, .inl (.inl sg8), fun p1 hp1 => ?_⟩
        (generalize hG : L2.upd _ p1 _ = A1; have a1 := same_of hG hp1; have e1 := at_of hG; clear hG)
        have DA1 : Dr b (n + 1) G8 A1 := Dr.same a1 D8.bag
        have np1 : p1 ≠ b := D8.ne hp1
        have eM1 := DA1.at nM eM
        refine ⟨_, rfl, _, rfl, _, rfl, _, _, rfl, .inl ⟨_, .inl (.inl eM1), rfl⟩, b, _, n, (ms.length : Int), rfl, DA1.bag.choose_spec.1, DA1.bag.choose_spec.2, by omega, by omega, fun x o x0 x17 g => ?_⟩
        (generalize hG : L2.upd _ b _ = A2; have da2 := dr_of hG g; clear hG)
        have DA2 := DA1.trans da2
        obtain ⟨v, hv, hvm⟩ := atI_in (xs := ms) x0 x17
        have pv := more8.at hvm
        refine ⟨M, _, _, v, rfl, rfl, .inl (.inl (DA2.at nM eM)), hv, (by show 1 ≤ sizeLine; decide), fun p2 hp2 => ?_⟩
        (generalize hG : L2.upd _ p2 _ = A3; have a3 := same_of hG hp2; have e3 := at_of hG; clear hG)
        have e13 := a3 _ _ (da2.at np1 e1)
        refine ⟨p1, p2, _, _, rfl, rfl, e13, e3, cat_sz (Nat.le_trans (pk8.cut _ _).len (by decide)) (by simp), fun p3 hp3 => ?_⟩
        (generalize hG : L2.upd _ p3 _ = A4; have a4 := same_of hG hp3; have e4 := at_of hG; clear hG)
        have DA4 : Dr b n G8 A4 := DA2.trans (Dr.same (a3.trans a4) DA2.bag)
        refine ⟨_, rfl, _, rfl, _, rfl, sg, _, rfl, .inl (.inl (DA4.at nsg sg8)), fun p4 hp4 => ?_⟩
        (generalize hG : L2.upd _ p4 _ = A5; have a5 := same_of hG hp4; have e5 := at_of hG; clear hG)
        refine ⟨p3, p4, _, _, rfl, rfl, a5 _ _ e4, e5, cat_sz (Nat.le_trans ((pk8.cut _ _).app pv).len (by decide)) (Nat.le_trans (pk8.cut _ _).len (by decide)), fun p5 hp5 => ?_⟩
        exact fin A5 p5 _ (DA4.trans (Dr.same a5 DA4.bag)) hp5 ((((pk8.cut _ _).app pv).app (pk8.cut _ _)).mono (by decide))
      refine ⟨_, rfl, rfl, _, rfl, ite2 (fun c3 => ?_) (fun c3 => ?_)⟩
      · refine ⟨_, rfl, _, rfl, _, rfl, sg, _, rfl, .inl (.inl sg8), fun p1 hp1 => ?_⟩
        (generalize hG : L2.upd _ p1 _ = A1; have a1 := same_of hG hp1; have e1 := at_of hG; clear hG)
        have DA1 : Dr b (n + 1) G8 A1 := Dr.same a1 D8.bag
        have np1 : p1 ≠ b := D8.ne hp1
        refine ⟨_, rfl, _, rfl, _, _, rfl, rfl, _, rfl, sg, _, rfl, .inl (.inl (DA1.at nsg sg8)), fun p4 hp4 => ?_⟩
        (generalize hG : L2.upd _ p4 _ = A5; have a5 := same_of hG hp4; have e5 := at_of hG; clear hG)
        refine ⟨p1, p4, _, _, rfl, rfl, a5 _ _ e1, e5, cat_sz (Nat.le_trans (pk8.cut _ _).len (by decide)) (Nat.le_trans (pk8.cut _ _).len (by decide)), fun p5 hp5 => ?_⟩
        exact fin A5 p5 _ ((DA1.trans (Dr.same a5 DA1.bag)).mono (by omega)) hp5 (((pk8.cut _ _).app (pk8.cut _ _)).mono (by decide))
      refine ⟨_, rfl, rfl, _, rfl, ite2 (fun c4 => ?_) (fun c4 => ?_)⟩
      · refine ⟨_, rfl, sg, _, rfl, .inl (.inl (.inl sg8)), fun F hF => ?_⟩
        have nF : F ≠ b := D8.ne hF
        (generalize hG : L2.upd _ F _ = A1; have aF := same_of hG hF; have eF := at_of hG; clear hG)
        have DF : Dr b n G8 A1 := (Dr.same aF D8.bag).mono (by omega)
        have ha : an < xs.length := by omega
        have ht : tn < xs.length := by omega
        refine ⟨_, rfl, _, rfl, F, _, _, xs[tn], rfl, rfl, .inl (.inl eF), atI_nat (List.getElem?_eq_getElem ht), _, rfl, _, rfl, F, _, _, xs[an], rfl, rfl, .inl (.inl eF), atI_nat (List.getElem?_eq_getElem ha), (by show 2 ≤ sizeLine; decide), fun U hU => ?_⟩
        (generalize hG : L2.upd _ U _ = A2; have aU := same_of hG hU; have eU := at_of hG; clear hG)
        have nU : U ≠ F := fun e => by rw [e, eF] at hU; cases hU
        refine ⟨U, _, rfl, .inl (.inl eU), rfl, _, _, rfl, _, rfl, _, rfl, F, xs, _, an, rfl, rfl, aU _ _ eF, ixN_of ha, _, _, rfl, _, rfl, _, rfl, F, _, _, tn, rfl, rfl, upd_same .., ixN_of (by rw [List.length_set]; exact ht), rfl, _, rfl, ?_⟩
        rw [upd_upd]
        have v1 : xs[tn] ∈ xs := List.getElem_mem ht
        have v2 : xs[an] ∈ xs := List.getElem_mem ha
        refine q _ F _ ⟨fun a o h e => ?_, ?_⟩ (D8.free hF) nF (upd_same ..) ?_
        · have hF' : a ≠ F := ne_of_none (D8.fx a o h e) hF
          rw [upd_ne hF']
          exact aU _ _ (DF.fx a o h (D8.fx a o h e))
        · obtain ⟨o, e, g⟩ := DF.bag
          exact ⟨o, by rw [upd_ne (Ne.symm nF)]; exact aU _ _ e, g⟩
        · refine (((pk8.set (pk8.at v1) an).set (pk8.at v2) tn).mono (by decide)).same fun a o e => ?_
          have hb' : a ≠ b := fun z => by rw [z, hide_self] at e; cases e
          rw [hide_ne hb'] at e ⊢
          rw [upd_ne (ne_of_none e hF)]
          exact aU _ _ (DF.fx a o hb' e)
      refine ⟨_, rfl, rfl, _, rfl, ite2 (fun c5 => ?_) (fun c5 => ?_)⟩
      · have eM1 := eM
        refine ⟨_, rfl, _, rfl, _, rfl, _, rfl, _, _, rfl, .inl ⟨_, .inl (.inl eM1), rfl⟩, b, _, n, (ms.length : Int), rfl, D8.bag.choose_spec.1, D8.bag.choose_spec.2, by omega, by omega, fun x o x0 x17 g => ?_⟩
        (generalize hG : L2.upd _ b _ = A2; have da2 := dr_of hG g; clear hG)
        obtain ⟨v, hv, hvm⟩ := atI_in (xs := ms) x0 x17
        have pv := more8.at hvm
        refine ⟨M, _, _, v, rfl, rfl, .inl (.inl (da2.at nM eM)), hv, (by show 1 ≤ sizeLine; decide), fun p2 hp2 => ?_⟩
        (generalize hG : L2.upd _ p2 _ = A3; have a3 := same_of hG hp2; have e3 := at_of hG; clear hG)
        refine ⟨sg, p2, _, _, rfl, rfl, a3 _ _ (da2.at nsg sg8), e3, cat_sz (Nat.le_trans pk8.len (by decide)) (by simp), fun p3 hp3 => ?_⟩
        exact fin A3 p3 _ (da2.trans (Dr.same a3 da2.bag)) hp3 ((pk8.app pv).mono (by decide))
      refine ⟨_, rfl, rfl, _, rfl, ite2 (fun c6 => ?_) (fun c6 => ?_)⟩
      · refine ⟨_, rfl, _, rfl, _, rfl, sg, _, rfl, .inl (.inl sg8), fun p1 hp1 => ?_⟩
        exact fin G8 p1 _ ((Dr.refl D8.bag).mono (by omega)) hp1 ((pk8.cut _ _).mono (by decide))
      exact ⟨_, rfl, sg, _, rfl, .inl (.inl (.inl sg8)), fun p1 hp1 => fin G8 p1 _ ((Dr.refl D8.bag).mono (by omega)) hp1 (pk8.mono (by decide))⟩
end

end TS

namespace TS
open PySem PySem.Spec PyProof.Rows L2 TL

/-! ### long ones -/
theorem rowsL_true {ds : List PyData} (h1 : 1 ≤ ds.length) (h2 : ds.length ≤ 12) (a : ∀ d ∈ ds, rowD d = true) (nd : (ds.map nmOf).Nodup) : rowsL ds = true := by
  unfold rowsL
  rw [decide_eq_true h1, decide_eq_true h2, List.all_eq_true.mpr a, decide_eq_true nd]
  rfl
theorem rows_L {rows : List (Str × Int)} (ro : RowsOk rows) : rowsL (rows.map rowPy) = true := by
  refine rowsL_true (by rw [List.length_map]; exact ro.some_) (by rw [List.length_map]; exact ro.few) (fun d hd => ?_) (by rw [List.map_map]; exact ro.nd)
  obtain ⟨r, hr, rfl⟩ := List.mem_map.mp hd
  show (nameS r.1 && (decide (0 ≤ r.2) && decide (r.2 ≤ 4))) = true
  rw [ro.names r hr, decide_eq_true (ro.lo r hr), decide_eq_true (ro.hi r hr)]
  rfl
theorem rows_back (rows : List (Str × Int)) : (rows.map rowPy).map rowOf = rows := by
  rw [List.map_map]
  exact List.map_id rows
theorem sm_rows {rows : List (Str × Int)} (ro : RowsOk rows) : Sm 2 276 (.list (rows.map rowPy)) := by
  refine Sm.list (m := 12) (k := 1) (n := 22) (fun d hd => ?_) (by rw [List.length_map]; exact ro.few)
  obtain ⟨r, hr, rfl⟩ := List.mem_map.mp hd
  have h1 := ro.lo r hr
  have h2 := ro.hi r hr
  refine Sm.tuple (m := 2) (k := 0) (n := 10) (fun e he => ?_) (by simp)
  simp only [List.mem_cons, List.not_mem_nil, or_false] at he
  rcases he with rfl | rfl
  · have h := ro.names r hr
    unfold nameS at h
    obtain ⟨h1, h3⟩ := Bool.and_eq_true_iff.mp h
    obtain ⟨_, h2⟩ := Bool.and_eq_true_iff.mp h1
    exact Sm.str (fun c m => Nat.lt_of_le_of_lt (of_decide_eq_true (Bool.and_eq_true_iff.mp (List.all_eq_true.mp h3 c m)).2) (by decide)) (Nat.le_trans (of_decide_eq_true h2) (by decide))
  · exact Sm.int (by omega) (by omega)
/-- Words(rows), rows being what they must be -/
theorem words_of {K : PySem.W.Frag} {H : Hp} {a dx rw_ : Addr} {rows : List (Str × Int)} {C : Hp → Prop} {E : XK} (ro : RowsOk rows) (ha : H a = none) (hdx : H dx = none) (ne : dx ≠ a) (h : Dt K H (.ref rw_) (.list (rows.map rowPy)))
    (k : ∀ G, Same H G → WordsAt K G a rows → C G) : spWIni K [.ref a, .ref rw_] (L2.upd (L2.upd H dx (.own a)) a (.ins (wcls K) dx [])) (fun v G => v = .non ∧ C G) E := by
  have s1 : Same H (L2.upd (L2.upd H dx (.own a)) a (.ins (wcls K) dx [])) := fun b o e => by
    rw [upd_ne (ne_of_none e ha), upd_ne (ne_of_none e hdx)]
    exact e
  have rl := rows_L ro
  refine ⟨a, dx, _, _, rfl, upd_same .., Dt.same s1 h, Nat.le_trans (sm_rows ro).to.2.2.2 (by decide), fun ds e => ?_, fun ds e _ G fx wa => ⟨rfl, ?_⟩, fun c => ?_⟩
  · cases e
    rw [List.length_map]
    exact Nat.le_trans ro.few (by decide)
  · cases e
    rw [rows_back] at wa
    exact k G (fun b o e => fx b o (ne_of_none e ha) (s1 _ _ e)) wa
  · have : rowsD (.list (rows.map rowPy)) = true := rl
    rw [this] at c
    cases c
theorem Pk.rep {K : PySem.W.Frag} {G : Hp} {v : V} (h : Pk K G [v] 1) : ∀ n : Nat, Pk K G (List.replicate n v) n
  | 0 => ⟨[], .nil, Nat.le_refl _, by simp⟩
  | n + 1 => (h.app (Pk.rep h n)).mono (by omega)
theorem Pk.str {K : PySem.W.Frag} {G : Hp} {z : Str} (h : El (.str z)) : Pk K G [.str z] 1 := ⟨[.str z], .cons (.str z) .nil, Nat.le_refl _, fun e he => by rw [List.mem_singleton.mp he]; exact h⟩
theorem Pk.hd {K : PySem.W.Frag} {H0 H : Hp} {p : Addr} {xs : List V} {m n : Nat} (h : Pk K H0 xs m) (h0 : H0 p = none) (e : H p = some (.lst xs)) (hm : m ≤ n) (hn : n ≤ 300) : ∃ d, Hd K H0 H (.ref p) d n := by
  obtain ⟨ds, a, b, c⟩ := h
  exact ⟨.list ds, HOk.list (by omega) hn c, .inr ⟨p, xs, ds, rfl, rfl, h0, e, a⟩⟩
theorem HOk.plain {n : Nat} {d : PyData} (h : seqD d = none) (s : smB 5 20000 d = true) : HOk n d := ⟨fun ds e => (by rw [h] at e; cases e), fun ds e => (by rw [h] at e; cases e), s⟩
theorem elB {d : PyData} (h : (smB 2 30 d && d.canLay0) = true) : El d := ⟨(Bool.and_eq_true_iff.mp h).1, (Bool.and_eq_true_iff.mp h).2⟩
def rowsUV : List (Str × Int) := [("u", 1), ("v", 3)]
theorem uv_ok : RowsOk rowsUV := by
  refine ⟨by decide, by decide, ?_, by decide +kernel, ?_, ?_⟩
  · intro r hr
    simp only [rowsUV, List.mem_cons, List.not_mem_nil, or_false] at hr
    rcases hr with rfl | rfl <;> decide +kernel
  · intro r hr
    simp only [rowsUV, List.mem_cons, List.not_mem_nil, or_false] at hr
    rcases hr with rfl | rfl <;> decide
  · intro r hr
    simp only [rowsUV, List.mem_cons, List.not_mem_nil, or_false] at hr
    rcases hr with rfl | rfl <;> decide
def spLong : Sp := fun vs H Q _ => vs = [] ∧ ∀ H', Same H H' → Q (.bl true) H'
section
variable {P : Program} {w : World} {K : PySem.W.Frag} {mg : Str → Option Value} {base : Heap}
abbrev s__law_long_right : Stmt := top 50
theorem sc__law_long_right : FnScope ["_law_rows_here", "_law_words", "_law_tail", "_law_upto"] [] (defScope s__law_long_right) := ⟨rfl, rfl, rfl, by decide +kernel, rfl, by decide +kernel, by decide +kernel⟩

set_option maxHeartbeats 800000 in
theorem ok_long (bt : Bt mg) (g_Words : mg "Words" = some (.ref (wcls K))) (m_Words : Mk K (wcls K) (He.ma K (wcls K) "__init__")) (p_Words___init__ : PromA (L2.CX P w) P w K mg base 4 (He.ma K (wcls K) "__init__") ["self", "rows"] (spWIni K))
    (p__law_right : PromG P w K mg base 7 "_law_right" ["_law_rows_here", "_law_words", "_law_signs_here", "_law_upto"] (spRight K)) (D : Def K mg "_law_long_right" s__law_long_right) : PromG P w K mg base 8 "_law_long_right" [] spLong := by
  refine promG_mk D sc__law_long_right (fun vs H Q E h => ?_) (fun _ _ _ _ _ _ us hl => match us, hl with | [], _ => rfl) (fun f cdv A outer s H vs Q E hgd hr h => ?_)
  · rw [h.1]; rfl
  · obtain ⟨rfl, q⟩ := h
    refine ⟨_, (pss_cons (ps_par (i := 0) (j := 1) (by rfl) sc__law_long_right.nd rfl rfl (by decide) rfl rfl (pa_cons (pe_lst (pa_cons (pe_tup (pa_cons pe_str (pa_cons pe_int pa_nil))) (pa_cons (pe_tup (pa_cons pe_str (pa_cons pe_int pa_nil))) pa_nil))) (pa_cons (pe_makeS m_Words p_Words___init__ takes0 (hr.mono (by decide)) rfl g_Words (pa_cons (pe_lst (pa_cons (pe_tup (pa_cons pe_str (pa_cons pe_int pa_nil))) (pa_cons (pe_tup (pa_cons pe_str (pa_cons pe_int pa_nil))) pa_nil))) pa_nil)) pa_nil)) (by rfl))
      (pss_cons (ps_for PassesOwn.never rfl (pi_listK (K := K) rfl (pe_lst (pa_cons (pe_lst (pa_cons pe_str pa_nil)) (pa_cons (pe_lst (pa_cons pe_str (pa_cons pe_str pa_nil))) (pa_cons (pe_lst pa_nil) (pa_cons (pe_lst (pa_cons pe_str pa_nil)) (pa_cons (pe_lst (pa_cons pe_str (pa_cons pe_str pa_nil))) (pa_cons (pe_lst (pa_cons pe_str (pa_cons pe_str pa_nil))) (pa_cons (pe_lst (pa_cons pe_str (pa_cons pe_str (pa_cons pe_str (pa_cons pe_str pa_nil))))) (pa_cons (pe_lst (pa_cons pe_non pa_nil)) pa_nil)))))))))) (pg_name (i := 2) sc__law_long_right.nd rfl (Or.inl rfl)) (pss_one (ps_for PassesOwn.never rfl (pi_listK (K := K) rfl (pe_lst (pa_cons pe_int (pa_cons pe_int (pa_cons pe_int pa_nil))))) (pg_name (i := 3) sc__law_long_right.nd rfl (Or.inl rfl)) (pss_one (ps_if (pt_not (pt_val (pe_pcG p__law_right hgd (hr.mono (by decide)) rfl (pa_cons (pv 0) (pa_cons (pv 1) (pa_cons (pe_op op_cat (pe_op op_rep (pe_lst (pa_cons pe_str pa_nil)) pe_int) (pv 2)) (pa_cons (pv 3) pa_nil))))))) (pss_one (ps_ret pe_bl)) pss_nil)))))
      (pss_one (ps_ret pe_bl)))), ?_⟩
    refine ⟨(by show 2 ≤ sizeLine; decide), fun t1 h1 => ?_⟩
    (generalize hG : L2.upd _ t1 _ = H1; have s1 := same_of hG h1; have e1 := at_of hG; clear hG)
    refine ⟨(by show 2 ≤ sizeLine; decide), fun t2 h2 => ?_⟩
    (generalize hG : L2.upd _ t2 _ = H2; have s2 := same_of hG h2; have e2 := at_of hG; clear hG)
    refine ⟨(by show 2 ≤ sizeLine; decide), fun r1 h3 => ?_⟩
    (generalize hG : L2.upd _ r1 _ = H3; have s3 := same_of hG h3; have e3 := at_of hG; clear hG)
    refine ⟨(by show 2 ≤ sizeLine; decide), fun t3 h4 => ?_⟩
    (generalize hG : L2.upd _ t3 _ = H4; have s4 := same_of hG h4; have e4 := at_of hG; clear hG)
    refine ⟨(by show 2 ≤ sizeLine; decide), fun t4 h5 => ?_⟩
    (generalize hG : L2.upd _ t4 _ = H5; have s5 := same_of hG h5; have e5 := at_of hG; clear hG)
    refine ⟨(by show 2 ≤ sizeLine; decide), fun r2 h6 => ?_⟩
    (generalize hG : L2.upd _ r2 _ = H6; have s6 := same_of hG h6; have e6 := at_of hG; clear hG)
    have dr1 : Dt K H6 (.ref r1) (.list (rowsUV.map rowPy)) := .lst (.inl (.inl (s6 _ _ (s5 _ _ (s4 _ _ e3))))) (.cons (.tup (.inl (.inl (s6 _ _ (s5 _ _ (s4 _ _ (s3 _ _ (s2 _ _ e1))))))) (.cons (.str _) (.cons (.int _) .nil))) (.cons (.tup (.inl (.inl (s6 _ _ (s5 _ _ (s4 _ _ (s3 _ _ e2)))))) (.cons (.str _) (.cons (.int _) .nil))) .nil))
    have dr2 : Dt K H6 (.ref r2) (.list (rowsUV.map rowPy)) := .lst (.inl (.inl e6)) (.cons (.tup (.inl (.inl (s6 _ _ (s5 _ _ e4)))) (.cons (.str _) (.cons (.int _) .nil))) (.cons (.tup (.inl (.inl (s6 _ _ e5))) (.cons (.str _) (.cons (.int _) .nil))) .nil))
    have sH6 := ((((s1.trans s2).trans s3).trans s4).trans s5).trans s6
    intro a dx ha hdx ne
    refine words_of uv_ok ha hdx ne dr2 fun G sG wa => ?_
    refine ⟨_, _, rfl, ?_⟩
    have sHG := sH6.trans sG
    have dr := Dt.same sG dr1
    refine ⟨(by show 1 ≤ sizeLine; decide), fun K0 hL0 => ?_⟩
    (generalize hG : L2.upd _ K0 _ = A0; have sL0 := same_of hG hL0; have eL0 := at_of hG; clear hG)
    refine ⟨(by show 2 ≤ sizeLine; decide), fun K1 hL1 => ?_⟩
    (generalize hG : L2.upd _ K1 _ = A1; have sL1 := same_of hG hL1; have eL1 := at_of hG; clear hG)
    refine ⟨(by show 0 ≤ sizeLine; decide), fun K2 hL2 => ?_⟩
    (generalize hG : L2.upd _ K2 _ = A2; have sL2 := same_of hG hL2; have eL2 := at_of hG; clear hG)
    refine ⟨(by show 1 ≤ sizeLine; decide), fun K3 hL3 => ?_⟩
    (generalize hG : L2.upd _ K3 _ = A3; have sL3 := same_of hG hL3; have eL3 := at_of hG; clear hG)
    refine ⟨(by show 2 ≤ sizeLine; decide), fun K4 hL4 => ?_⟩
    (generalize hG : L2.upd _ K4 _ = A4; have sL4 := same_of hG hL4; have eL4 := at_of hG; clear hG)
    refine ⟨(by show 2 ≤ sizeLine; decide), fun K5 hL5 => ?_⟩
    (generalize hG : L2.upd _ K5 _ = A5; have sL5 := same_of hG hL5; have eL5 := at_of hG; clear hG)
    refine ⟨(by show 4 ≤ sizeLine; decide), fun K6 hL6 => ?_⟩
    (generalize hG : L2.upd _ K6 _ = A6; have sL6 := same_of hG hL6; have eL6 := at_of hG; clear hG)
    refine ⟨(by show 1 ≤ sizeLine; decide), fun K7 hL7 => ?_⟩
    (generalize hG : L2.upd _ K7 _ = A7; have sL7 := same_of hG hL7; have eL7 := at_of hG; clear hG)
    refine ⟨(by show 8 ≤ sizeLine; decide), fun LL hLL => ?_⟩
    (generalize hG : L2.upd _ LL _ = B0; have sLL := same_of hG hLL; have eLL := at_of hG; clear hG)
    have f0 := sLL _ _ (sL7 _ _ (sL6 _ _ (sL5 _ _ (sL4 _ _ (sL3 _ _ (sL2 _ _ (sL1 _ _ eL0)))))))
    have f1 := sLL _ _ (sL7 _ _ (sL6 _ _ (sL5 _ _ (sL4 _ _ (sL3 _ _ (sL2 _ _ eL1))))))
    have f2 := sLL _ _ (sL7 _ _ (sL6 _ _ (sL5 _ _ (sL4 _ _ (sL3 _ _ eL2)))))
    have f3 := sLL _ _ (sL7 _ _ (sL6 _ _ (sL5 _ _ (sL4 _ _ eL3))))
    have f4 := sLL _ _ (sL7 _ _ (sL6 _ _ (sL5 _ _ eL4)))
    have f5 := sLL _ _ (sL7 _ _ (sL6 _ _ eL5))
    have f6 := sLL _ _ (sL7 _ _ eL6)
    have f7 := sLL _ _ eL7
    have sB : Same G B0 := (((((((sL0.trans sL1).trans sL2).trans sL3).trans sL4).trans sL5).trans sL6).trans sL7).trans sLL
    have hB := sHG.trans sB
    have drB := Dt.same sB dr
    have waB := wa.same sB
    have els : ∀ x ∈ [V.ref K0, V.ref K1, V.ref K2, V.ref K3, V.ref K4, V.ref K5, V.ref K6, V.ref K7], ∃ (L : Addr) (xs : List V), x = .ref L ∧ B0 L = some (.lst xs) ∧ Pk K B0 xs 4 := by
      intro x hx
      simp only [List.mem_cons, List.not_mem_nil, or_false] at hx
      rcases hx with rfl | rfl | rfl | rfl | rfl | rfl | rfl | rfl
      · exact ⟨K0, _, rfl, f0, ([.str "A"] : List PyData), .cons (.str _) .nil, by decide, fun e he => elB ((by decide +kernel : ∀ e ∈ ([.str "A"] : List PyData), (smB 2 30 e && e.canLay0) = true) e he)⟩
      · exact ⟨K1, _, rfl, f1, ([.str "A", .str "A"] : List PyData), .cons (.str _) (.cons (.str _) .nil), by decide, fun e he => elB ((by decide +kernel : ∀ e ∈ ([.str "A", .str "A"] : List PyData), (smB 2 30 e && e.canLay0) = true) e he)⟩
      · exact ⟨K2, _, rfl, f2, ([] : List PyData), .nil, by decide, fun e he => elB ((by decide +kernel : ∀ e ∈ ([] : List PyData), (smB 2 30 e && e.canLay0) = true) e he)⟩
      · exact ⟨K3, _, rfl, f3, ([.str "a b"] : List PyData), .cons (.str _) .nil, by decide, fun e he => elB ((by decide +kernel : ∀ e ∈ ([.str "a b"] : List PyData), (smB 2 30 e && e.canLay0) = true) e he)⟩
      · exact ⟨K4, _, rfl, f4, ([.str "A", .str "u"] : List PyData), .cons (.str _) (.cons (.str _) .nil), by decide, fun e he => elB ((by decide +kernel : ∀ e ∈ ([.str "A", .str "u"] : List PyData), (smB 2 30 e && e.canLay0) = true) e he)⟩
      · exact ⟨K5, _, rfl, f5, ([.str "v", .str "A"] : List PyData), .cons (.str _) (.cons (.str _) .nil), by decide, fun e he => elB ((by decide +kernel : ∀ e ∈ ([.str "v", .str "A"] : List PyData), (smB 2 30 e && e.canLay0) = true) e he)⟩
      · exact ⟨K6, _, rfl, f6, ([.str "v", .str "A", .str "A", .str "A"] : List PyData), .cons (.str _) (.cons (.str _) (.cons (.str _) (.cons (.str _) .nil))), by decide, fun e he => elB ((by decide +kernel : ∀ e ∈ ([.str "v", .str "A", .str "A", .str "A"] : List PyData), (smB 2 30 e && e.canLay0) = true) e he)⟩
      · exact ⟨K7, _, rfl, f7, ([.none] : List PyData), .cons .non .nil, by decide, fun e he => elB ((by decide +kernel : ∀ e ∈ ([.none] : List PyData), (smB 2 30 e && e.canLay0) = true) e he)⟩
    refine ⟨LL, rfl, ⟨_, .inl (.inl eLL)⟩, for_it walk_list (fun i τ G' => (∃ x2 x3, τ = [some (.ref r1), some (.ref a), x2, x3]) ∧ Same B0 G') ⟨⟨_, _, rfl⟩, Same.refl _⟩ (fun i τ G' _ p => .inl (.inl (p.2 _ _ eLL))) ?_ ?_⟩
    · rintro i x τ C1 C2 hi ⟨⟨x2, x3, rfl⟩, sC⟩ ⟨rfl, hx⟩
      obtain ⟨L, xs, rfl, eL, pk⟩ := els x (List.mem_of_getElem? hx)
      refine ⟨(by show 3 ≤ sizeLine; decide), fun M hM => ?_⟩
      (generalize hG : L2.upd _ M _ = C3; have sM := same_of hG hM; have eM := at_of hG; clear hG)
      refine ⟨M, rfl, ⟨_, .inl (.inl eM)⟩, for_it walk_list (fun i τ G' => (∃ x3, τ = [some (.ref r1), some (.ref a), some (.ref L), x3]) ∧ Same C3 G') ⟨⟨_, rfl⟩, Same.refl _⟩ (fun i τ G' _ p => .inl (.inl (p.2 _ _ eM))) ?_ ?_⟩
      · rintro j x τ E1 E2 hj ⟨⟨x3, rfl⟩, sE⟩ ⟨rfl, hx2⟩
        obtain ⟨m, rfl, hm⟩ : ∃ m : Int, x = .int m ∧ (m = 121 ∨ m = 150 ∨ m = 9999) := by
          have := List.mem_of_getElem? hx2
          simp only [List.mem_cons, List.not_mem_nil, or_false] at this
          rcases this with rfl | rfl | rfl
          · exact ⟨_, rfl, .inl rfl⟩
          · exact ⟨_, rfl, .inr (.inl rfl)⟩
          · exact ⟨_, rfl, .inr (.inr rfl)⟩
        have sBE := (sC.trans sM).trans sE
        refine ⟨_, rfl, _, rfl, (by show 1 ≤ sizeLine; decide), fun l1 hl1 => ?_⟩
        (generalize hG : L2.upd _ l1 _ = F1; have t1' := same_of hG hl1; have el1 := at_of hG; clear hG)
        refine ⟨l1, _, _, rfl, rfl, el1, by decide, by decide, by decide, fun l2 hl2 => ?_⟩
        rw [show (List.replicate (120 : Int).toNat [V.str "u"]).flatten = List.replicate 120 (V.str "u") from rep_one _ 120]
        (generalize hG : L2.upd _ l2 _ = F2; have t2' := same_of hG hl2; have el2 := at_of hG; clear hG)
        have sBF := (sBE.trans t1').trans t2'
        refine ⟨_, rfl, l2, L, _, _, rfl, rfl, el2, sBF _ _ eL, ?_, fun y hy => ?_⟩
        · rw [List.length_replicate]
          have := pk.len
          exact sz5 (by omega)
        have pkF : Pk K F2 (List.replicate 120 (V.str "u") ++ xs) 124 := (Pk.rep (Pk.str (elB (by decide +kernel))) 120).app (pk.same sBF)
        (generalize hG : L2.upd _ y _ = F3; have t3' := same_of hG hy; have ey := at_of hG; clear hG)
        obtain ⟨d, hd⟩ := pkF.hd (n := 200) hy ey (by decide) (by decide)
        refine ⟨_, rfl, r1, a, .ref y, .int m, rowsUV, d, .int m, F2, 200, rfl, by decide, uv_ok, t3', Dt.same sBF drB, waB.same sBF, hd, ⟨?_, .inl ⟨?_, .int m⟩⟩, ?_, fun b _ h => (by cases h), fun H' d' du' s' _ _ _ _ => ⟨_, rfl, iteF ⟨⟨_, rfl⟩, ((sE.trans t1').trans t2').trans s'⟩⟩⟩
        · rcases hm with rfl | rfl | rfl <;> exact HOk.plain rfl (by decide +kernel)
        · show (kitB "int" "list" == some true) = false
          decide +kernel
        · rcases hm with rfl | rfl | rfl <;> decide +kernel
      · rintro τ E1 ⟨⟨x3, rfl⟩, sE⟩
        exact ⟨⟨_, _, rfl⟩, (sC.trans sM).trans sE⟩
    · rintro τ C1 ⟨⟨x2, x3, rfl⟩, sC⟩
      exact q _ (hB.trans sC)
end

end TS

namespace TS
open PySem PySem.Spec PyProof.Rows L2 TL

/-! ### the law -/
def spLaw (K : PySem.W.Frag) : Sp := fun vs H Q _ => ∃ (a : Addr) (ns : List Int), vs = [.ref a] ∧ SqL K H a (ns.map V.int) ∧ ns.length ≤ 63 ∧ ∀ H', Q (.bl true) H'
theorem SqT.hide {K : PySem.W.Frag} {G : Hp} {b t : Addr} {l xs : List V} (hb : G b = some (.lst l)) (h : SqT K G t xs) : SqT K (hide G b) t xs := by
  rcases h with (h | ⟨q, h⟩) | h
  · exact .inl (.inl (by rw [hide_ne fun e => by rw [e, hb] at h; cases h]; exact h))
  · exact .inl (.inr ⟨q, by rw [hide_ne fun e => by rw [e, hb] at h; cases h]; exact h⟩)
  · exact .inr h
theorem WordsAt.hide {K : PySem.W.Frag} {G : Hp} {b a : Addr} {l : List V} {rows : List (Str × Int)} (hb : G b = some (.lst l)) (h : WordsAt K G a rows) : WordsAt K (hide G b) a rows := by
  obtain ⟨dx, D, kvs, e1, e2, e3⟩ := h
  exact ⟨dx, D, kvs, by rw [hide_ne fun e => by rw [e, hb] at e1; cases e1]; exact e1, by rw [hide_ne fun e => by rw [e, hb] at e2; cases e2]; exact e2, e3.len, fun i r q => let ⟨t, x, y⟩ := e3.at_ i r q; ⟨t, x, SqT.hide hb y⟩⟩
theorem Pk.exact {K : PySem.W.Frag} {G : Hp} {xs : List V} {m : Nat} (h : Pk K G xs m) : Pk K G xs xs.length := let ⟨ds, a, _, c⟩ := h; ⟨ds, a, by rw [a.length]; exact Nat.le_refl _, c⟩
theorem hide2_same {H : Hp} {b D : Addr} : Same (hide2 H b D) H := fun a o e => hide_same _ _ (hide_same _ _ e)
theorem hide2_out {H : Hp} {b D a : Addr} {o : HO} (e : hide2 H b D a = some o) : a ≠ b ∧ a ≠ D := by
  have h2 : a ≠ D := fun z => by
    have e' : hide (hide H b) D a = some o := e
    rw [z, hide_self] at e'; cases e'
  refine ⟨fun z => ?_, h2⟩
  have e' : hide (hide H b) D a = some o := e
  rw [hide_ne h2, z, hide_self] at e'
  cases e'
theorem hide2_b {H : Hp} {b D : Addr} : hide2 H b D b = none := by
  by_cases h : b = D
  · rw [← h]; exact hide_self
  · show hide (hide H b) D b = none
    rw [hide_ne h]; exact hide_self
theorem hide2_D {H : Hp} {b D : Addr} : hide2 H b D D = none := hide_self
/-- what stays beside two things stays beside them -/
theorem zstep {G G' : Hp} {b D : Addr} (s : Same (hide2 G b D) G') : Same (hide2 G b D) (hide2 G' b D) := fun a o e => hide2_at (hide2_out e).1 (hide2_out e).2 (s a o e)
theorem Hd.base {K : PySem.W.Frag} {H0 H0' H : Hp} {v : V} {d : PyData} {n : Nat} (h : Hd K H0 H v d n) (s : Same H0 H0') (h0 : ∀ a, v = .ref a → H0 a = none → H0' a = none) : Hd K H0' H v d n := by
  refine ⟨h.1, ?_⟩
  rcases h.2 with ⟨k, h⟩ | ⟨a, xs, ds, rfl, rfl, ha, e, h⟩
  · exact .inl ⟨k, Dt.same s h⟩
  · exact .inr ⟨a, xs, ds, rfl, rfl, h0 a rfl ha, e, DtAll.same s h⟩
theorem HOk.mono {n m : Nat} {d : PyData} (h : HOk n d) (l : n ≤ m) : HOk m d := ⟨fun ds e => Nat.le_trans (h.len ds e) l, h.els, h.sm⟩
theorem signs_pk {K : PySem.W.Frag} {G : Hp} {rows : List (Str × Int)} {ls zs : List Str} {n : Nat} (ro : RowsOk rows) (hl : LtrsOk ls) (h : SignsOk rows ls n zs) : Pk K G (zs.map V.str) zs.length := Pk.strs fun z hz => by
  rcases h.2.2.1 z hz with m | m
  · obtain ⟨r, hr, rfl⟩ := List.mem_map.mp m
    exact el_name (ro.names r hr)
  · exact el_lok (hl.2 z m)
section
variable {P : Program} {w : World} {K : PySem.W.Frag} {mg : Str → Option Value} {base : Heap}
abbrev s_law : Stmt := top 51
theorem sc_law : FnScope ["_law_script", "_law_k", "_law_box_here", "_law_rows_here", "_law_letters_here", "_law_words", "_law_signs_here", "_law_turn", "_law_some", "_law_change", "_law_size", "_law_odd", "_law_thing", "_law_bad", "_law_many", "_law_upto"] ["_law_script"] (defScope s_law) := ⟨rfl, rfl, rfl, by decide +kernel, rfl, by decide +kernel, by decide +kernel⟩

set_option maxHeartbeats 1600000 in
theorem ok_law (Y : Sys K) (bt : Bt mg) (k_MOST_SIGNS_terms : ∃ t, mg "MOST_SIGNS_terms" = some (.int 100 t)) (p__law_cell : Prom P w K mg base 1 "_law_cell" ["_law_script", "_law_k"] (spCell K)) (p__law_box : Prom P w K mg base 1 "_law_box" ["_law_cell_here"] spBag) (p__law_take : Prom P w K mg base 1 "_law_take" ["_law_box_here", "_law_many"] spTake)
    (p__law_rows : Prom P w K mg base 3 "_law_rows" ["_law_box_here"] (spDRows K)) (p__law_letters : Prom P w K mg base 2 "_law_letters" ["_law_box_here"] (spLtrs K)) (p__law_signs : Prom P w K mg base 2 "_law_signs" ["_law_box_here", "_law_rows_here", "_law_letters_here", "_law_upto"] (spSigns K)) (p__law_otherwise : Prom P w K mg base 2 "_law_otherwise" ["_law_box_here", "_law_rows_here", "_law_letters_here", "_law_signs_here"] (spOther8 K))
    (g_Words : mg "Words" = some (.ref (wcls K))) (m_Words : Mk K (wcls K) (He.ma K (wcls K) "__init__")) (p_Words___init__ : PromA (L2.CX P w) P w K mg base 4 (He.ma K (wcls K) "__init__") ["self", "rows"] (spWIni K))
    (p__law_right : PromG P w K mg base 7 "_law_right" ["_law_rows_here", "_law_words", "_law_signs_here", "_law_upto"] (spRight K)) (p__law_caught : Prom P w K mg base 6 "_law_caught" ["_law_words", "_law_signs_here", "_law_upto"] (spCaught8 K)) (p__law_long_right : PromG P w K mg base 8 "_law_long_right" [] spLong)
    {fL : Addr} {fdL : FuncData} (FL : FunD K "law" "law" (defArgs s_law) (defBody s_law) (defScope s_law) [] [] fL fdL) : FnG P w K mg base CX0 9 fL fdL ["_law_script"] (spLaw K) := by
  obtain ⟨t_MOST_SIGNS_terms, c_MOST_SIGNS_terms⟩ := k_MOST_SIGNS_terms
  refine fnG_mk FL sc_law (fun vs H Q E h => ?_) (fun f cdv A outer s H vs Q E hgd hr h => ?_)
  · obtain ⟨a, ns, rfl, _⟩ := h
    rfl
  · obtain ⟨a, ns, rfl, hS, hl, q⟩ := h
    refine ⟨_, (pss_cons (ps_if (pt_cmpR op_ne (pe_callB (id := "repr") (reprK (K := K) Y hgd hr.units) (by rfl) bt.repr_ (by decide +kernel) (pa_cons (pe_glob (v := .int 100) rfl c_MOST_SIGNS_terms ⟨_, rfl⟩) pa_nil)) pe_str (nomark _)) (pss_one (ps_ret pe_bl)) pss_nil)
      (pss_cons (ps_for PassesOwn.never rfl (pi_range1 rfl bt.range_ (pa_cons (pe_callB (id := "max") (call_max2 rfl) (by rfl) bt.max_ (by decide +kernel) (pa_cons pe_int (pa_cons (pe_callB (id := "min") (call_min2 rfl) (by rfl) bt.min_ (by decide +kernel) (pa_cons pe_int (pa_cons (pe_callB (id := "len") (lenK (K := K)) (by rfl) bt.len_ (by decide +kernel) (pa_cons (pv 0) pa_nil)) pa_nil))) pa_nil))) pa_nil)) (pg_name (i := 1) sc_law.nd rfl (Or.inl rfl)) (pss_cons (ps_set (i := 2) sc_law.nd rfl (Or.inl rfl) (pe_pc p__law_box (hr.mono (by decide)) rfl (pa_cons (pe_pc p__law_cell (hr.mono (by decide)) rfl (pa_cons (pv 0) (pa_cons (pv 1) pa_nil))) pa_nil)))
      (pss_cons (ps_set (i := 3) sc_law.nd rfl (Or.inl rfl) (pe_pc p__law_rows (hr.mono (by decide)) rfl (pa_cons (pv 2) pa_nil)))
      (pss_cons (ps_set (i := 4) sc_law.nd rfl (Or.inl rfl) (pe_pc p__law_letters (hr.mono (by decide)) rfl (pa_cons (pv 2) pa_nil)))
      (pss_cons (ps_set (i := 5) sc_law.nd rfl (Or.inl rfl) (pe_makeS m_Words p_Words___init__ takes0 (hr.mono (by decide)) rfl g_Words (pa_cons (pv 3) pa_nil)))
      (pss_cons (ps_set (i := 6) sc_law.nd rfl (Or.inl rfl) (pe_pc p__law_signs (hr.mono (by decide)) rfl (pa_cons (pv 2) (pa_cons (pv 3) (pa_cons (pv 4) (pa_cons (pe_ix (ix_listK (K := K)) (pe_lst (pa_cons pe_int (pa_cons pe_int (pa_cons pe_int pa_nil)))) (pe_pc p__law_take (hr.mono (by decide)) rfl (pa_cons (pv 2) (pa_cons pe_int pa_nil))) (fun _ _ => rfl)) pa_nil))))))
      (pss_cons (ps_for PassesOwn.never rfl (pi_range1 rfl bt.range_ (pa_cons pe_int pa_nil)) (pg_name (i := 7) sc_law.nd rfl (Or.inl rfl)) (pss_cons (ps_set (i := 8) sc_law.nd rfl (Or.inl rfl) (pv 6))
      (pss_cons (ps_for PassesOwn.never rfl (pi_range1 rfl bt.range_ (pa_cons (pe_pc p__law_take (hr.mono (by decide)) rfl (pa_cons (pv 2) (pa_cons pe_int pa_nil))) pa_nil)) (pg_name (i := 9) sc_law.nd rfl (Or.inl rfl)) (pss_one (ps_if (pt_chain op_lt op_lt pe_int (pe_callB (id := "len") (lenK (K := K)) (by rfl) bt.len_ (by decide +kernel) (pa_cons (pv 8) pa_nil)) pe_int) (pss_one (ps_set (i := 8) sc_law.nd rfl (Or.inl rfl) (pe_pc p__law_otherwise (hr.mono (by decide)) rfl (pa_cons (pv 2) (pa_cons (pv 3) (pa_cons (pv 4) (pa_cons (pv 8) pa_nil))))))) pss_nil)))
      (pss_cons (ps_set (i := 10) sc_law.nd rfl (Or.inl rfl) (pe_callB (id := "max") (call_max2 rfl) (by rfl) bt.max_ (by decide +kernel) (pa_cons pe_int (pa_cons (pe_callB (id := "len") (lenK (K := K)) (by rfl) bt.len_ (by decide +kernel) (pa_cons (pv 8) pa_nil)) pa_nil))))
      (pss_cons (ps_set (i := 11) sc_law.nd rfl (Or.inl rfl) (pe_ix (ix_listK (K := K)) (pe_lst (pa_cons pe_non (pa_cons pe_bl (pa_cons pe_int (pa_cons (pe_un un_neg pe_int) (pa_cons pe_str (pa_cons (pe_lst (pa_cons pe_int pa_nil)) (pa_cons pe_int (pa_cons (pe_op op_pow pe_int pe_int) (pa_cons (pv 10) (pa_cons (pe_callB (id := "max") (call_max2 rfl) (by rfl) bt.max_ (by decide +kernel) (pa_cons pe_int (pa_cons (pe_op op_sub (pv 10) pe_int) pa_nil))) (pa_cons pe_int pa_nil)))))))))))) (pe_pc p__law_take (hr.mono (by decide)) rfl (pa_cons (pv 2) (pa_cons pe_int pa_nil))) (fun _ _ => rfl)))
      (pss_cons (ps_set (i := 12) sc_law.nd rfl (Or.inl rfl) (pe_ix (ix_listK (K := K)) (pe_lst (pa_cons pe_non (pa_cons pe_str (pa_cons pe_dnewK (pa_cons pe_int (pa_cons (pe_lst pa_nil) (pa_cons (pe_tup pa_nil) (pa_cons (pe_disp (pps_cons pe_str pe_int pps_nil) (by rfl) (by rfl) (fun z => by cases z) (by decide)) pa_nil)))))))) (pe_pc p__law_take (hr.mono (by decide)) rfl (pa_cons (pv 2) (pa_cons pe_int pa_nil))) (fun _ _ => rfl)))
      (pss_cons (ps_if (PW.pt (pw_or (pt_not (pt_val (pe_pcG p__law_right hgd (hr.mono (by decide)) rfl (pa_cons (pv 3) (pa_cons (pv 5) (pa_cons (pe_callTy (T := "list") (listK (K := K)) (by rfl) bt.list_ (by decide +kernel) (pa_cons (pv 8) pa_nil)) (pa_cons pe_str pa_nil))))))) (pw_or1 (pt_not (pt_val (pe_pcG p__law_right hgd (hr.mono (by decide)) rfl (pa_cons (pv 3) (pa_cons (pv 5) (pa_cons (pe_callTy (T := "tuple") (tupleK (K := K)) (by rfl) bt.tuple_ (by decide +kernel) (pa_cons (pv 8) pa_nil)) (pa_cons (pv 11) pa_nil)))))))))) (pss_one (ps_ret pe_bl)) pss_nil)
      (pss_cons (ps_if (PW.pt (pw_or (pt_not (pt_val (pe_pcG p__law_right hgd (hr.mono (by decide)) rfl (pa_cons (pv 3) (pa_cons (pv 5) (pa_cons (pv 12) (pa_cons (pv 11) pa_nil))))))) (pw_or1 (pt_not (pt_val (pe_pcG p__law_right hgd (hr.mono (by decide)) rfl (pa_cons (pv 3) (pa_cons (pv 5) (pa_cons (pv 12) (pa_cons pe_str pa_nil)))))))))) (pss_one (ps_ret pe_bl)) pss_nil)
      (pss_one (ps_for PassesOwn.never rfl (pi_listK (K := K) rfl (pe_lst (pa_cons pe_non (pa_cons (pv 3) (pa_cons pe_str (pa_cons pe_dnewK (pa_cons pe_int pa_nil))))))) (pg_name (i := 13) sc_law.nd rfl (Or.inl rfl)) (pss_one (ps_if (pt_cmpR op_ne (pe_callB (id := "repr") (reprK (K := K) Y hgd hr.units) (by rfl) bt.repr_ (by decide +kernel) (pa_cons (pe_pc p__law_caught (hr.mono (by decide)) rfl (pa_cons (pv 13) (pa_cons (pv 12) (pa_cons (pv 11) pa_nil)))) pa_nil)) (pe_callB (id := "repr") (reprK (K := K) Y hgd hr.units) (by rfl) bt.repr_ (by decide +kernel) (pa_cons (pe_tup (pa_cons pe_str (pa_cons (pv 13) pa_nil))) pa_nil)) (nomark _)) (pss_one (ps_ret pe_bl)) pss_nil))))))))))))
      (pss_one (ps_for PassesOwn.never rfl (pi_listK (K := K) rfl (pe_lst (pa_cons (pe_tup (pa_cons pe_int (pa_cons pe_str pa_nil))) (pa_cons (pe_tup (pa_cons pe_int (pa_cons pe_str pa_nil))) (pa_cons (pe_tup (pa_cons pe_int (pa_cons pe_int pa_nil))) (pa_cons (pe_tup (pa_cons pe_int (pa_cons pe_int pa_nil))) pa_nil)))))) (pg_tupK (K := K) (n := 2) rfl rfl (pgs_cons (pg_name (i := 14) sc_law.nd rfl (Or.inl rfl)) (pgs_cons (pg_name (i := 15) sc_law.nd rfl (Or.inl rfl)) pgs_nil))) (pss_one (ps_if (pt_not (pt_val (pe_pcG p__law_right hgd (hr.mono (by decide)) rfl (pa_cons (pv 3) (pa_cons (pv 5) (pa_cons (pe_op op_rep (pe_slice (sl_listK (K := K)) (pv 4) po_none (po_some pe_int)) (pv 14)) (pa_cons (pv 15) pa_nil))))))) (pss_one (ps_ret pe_bl)) pss_nil)))))))))))
      (pss_one (ps_ret (pe_pcG0 p__law_long_right hgd (hr.mono (by decide)) rfl))))), ?_⟩
    have hn3 : ∀ k : Int, k = (if (if (ns.map V.int).length < (10 : Int) then ((ns.map V.int).length : Int) else 10) > 2 then (if (ns.map V.int).length < (10 : Int) then ((ns.map V.int).length : Int) else 10) else 2) → 0 ≤ k ∧ k ≤ 10 := by
      intro k hk
      rw [hk]
      split <;> split <;> omega
    refine ⟨_, _, rfl, .int 100, by decide +kernel, by decide +kernel, by decide +kernel, rfl, _, rfl, iteF' (by decide +kernel) ?_⟩
    refine ⟨_, rfl, _, _, rfl, .inl ⟨_, hS, rfl⟩, _, _, rfl, _, _, rfl, _, rfl, ?_, ?_, ?_⟩
    · have := hn3 _ rfl
      omega
    · have := hn3 _ rfl
      omega
    have hb12 := (hn3 _ rfl).2
    refine for_it walk_range (fun i σ H' => ∃ s1 s2 s3 s4 s5 s6 s7 s8 s9 s10 s11 s12 s13 s14 s15 : Option V, σ = [some (.ref a), s1, s2, s3, s4, s5, s6, s7, s8, s9, s10, s11, s12, s13, s14, s15] ∧ Same H H') ⟨_, _, _, _, _, _, _, _, _, _, _, _, _, _, _, rfl, Same.refl H⟩ (fun _ _ _ _ _ => trivial) ?_ (fun σ G p => ?_)
    rotate_left
    · exact ⟨rfl, fun H' _ => q H'⟩
    rintro i x σ H1' H1 hi ⟨s1, s2, s3, s4, s5, s6, s7, s8, s9, s10, s11, s12, s13, s14, s15, rfl, e1⟩ ⟨rfl, rfl⟩
    refine ⟨_, rfl, _, rfl, a, ns, i, (by show [V.ref a, V.int (0 + (i : Int))] = _; rw [Int.zero_add]), e1.seq hS, by omega, fun c => ?_⟩
    refine ⟨c, rfl, fun b o hb bg => ?_⟩
    have hbH : H b = none := e1.free hb
    (generalize hG : L2.upd _ b _ = H2; have sb := same_of hG hb; have eb := at_of hG; clear hG)
    refine ⟨_, rfl, b, 890000000, rfl, ⟨o, eb, bg.mono (by decide)⟩, fun H3 rw_ rows d3 ro hrw hrows => ?_⟩
    refine ⟨_, rfl, b, 880000000, rfl, let ⟨o, e, g⟩ := d3.bag; ⟨o, e, g.mono (by decide)⟩, fun H4 lt ls d4 hls hlt nlt elt => ?_⟩
    have hrows4 := Dt.same d4.hide hrows
    refine ⟨_, rfl, fun wa dx hwa hdx ne => words_of ro hwa hdx ne (Dt.same hide_same hrows4) fun G0 sG0 wAt => ?_⟩
    have D0 : Dr b 880000000 H4 G0 := Dr.same sG0 d4.bag
    have wAt0 : WordsAt K (hide G0 b) wa rows := by
      obtain ⟨o, e, g⟩ := D0.bag
      obtain ⟨xs, rfl⟩ := g.is
      exact wAt.hide e
    have keepH : ∀ {m : Nat} {G G' : Hp}, Dr b m G G' → Same H G → Same H G' := fun d s a' o' e => d.fx a' o' (ne_of_none e hbH) (s a' o' e)
    have eG0 := keepH D0 (keepH d4 (keepH d3 (e1.trans sb)))
    refine ⟨_, rfl, _, rfl, _, rfl, (by show 3 ≤ sizeLine; decide), fun L8 hL8 => ?_⟩
    (generalize hG : L2.upd _ L8 _ = G1; have sL8 := same_of hG hL8; have eL8 := at_of hG; clear hG)
    have D1 : Dr b 880000000 G0 G1 := Dr.same sL8 D0.bag
    have nL8 : L8 ≠ b := D0.ne hL8
    refine ⟨_, rfl, b, _, 879999999, 3, rfl, D1.bag.choose_spec.1, D1.bag.choose_spec.2, by decide, by decide +kernel, fun x8 o8 x80 x83 g8 => ?_⟩
    (generalize hG : L2.upd _ b _ = G2; have d8 := dr_of hG g8; clear hG)
    obtain ⟨v8, hv8, hm8⟩ := atI_in (xs := [V.int 8, .int 16, .int 100]) x80 x83
    obtain ⟨up, rfl, up1, up2⟩ : ∃ up : Nat, v8 = .int up ∧ 1 ≤ up ∧ up ≤ 100 := by
      simp only [List.mem_cons, List.not_mem_nil, or_false] at hm8
      rcases hm8 with rfl | rfl | rfl
      · exact ⟨8, rfl, by decide, by decide⟩
      · exact ⟨16, rfl, by decide, by decide⟩
      · exact ⟨100, rfl, by decide, by decide⟩
    have D2 := D1.trans d8
    refine ⟨L8, _, _, _, rfl, rfl, .inl (.inl (d8.at nL8 eL8)), hv8, ?_⟩
    have elt2 : hide G2 b lt = some (.lst (ls.map V.str)) := D2.hide _ _ (D0.hide _ _ (by rw [hide_ne nlt]; exact elt))
    have hrows2 := Dt.same D2.hide (Dt.same D0.hide hrows4)
    refine ⟨b, 870000000, rw_, lt, up, rows, ls, rfl, up1, by omega, let ⟨o, e, g⟩ := d8.bag; ⟨o, e, g.mono (by omega)⟩, ro, hls, hrows2, elt2, fun S0 sg zs dS hzs hsgN nsg esg => ?_⟩
    have eS0 := keepH dS (keepH D2 eG0)
    have rowsS := Dt.same dS.hide hrows2
    have ltS := dS.hide _ _ elt2
    have waS := wAt0.same (D2.trans dS).hide
    have sgS : hide S0 b sg = some (.lst (zs.map V.str)) := by rw [hide_ne nsg]; exact esg
    have pkS : Pk K (hide S0 b) (zs.map V.str) 100 := (signs_pk ro hls hzs).mono (Nat.le_trans hzs.2.1 up2)
    obtain ⟨S, eS⟩ : ∃ S, S = hide S0 b := ⟨_, rfl⟩
    rw [← eS] at rowsS ltS waS sgS pkS
    have sS : Same S (hide S0 b) := by rw [eS]; exact Same.refl _
    clear eS
    refine ⟨_, rfl, by decide, by decide, for_it walk_range (fun j τ G => (∃ s1 s7 s8 s9 s10 s11 s12 s13 s14 s15 : Option V, τ = [some (.ref a), s1, some (.ref b), some (.ref rw_), some (.ref lt), some (.ref wa), some (.ref sg), s7, s8, s9, s10, s11, s12, s13, s14, s15]) ∧ Same H G ∧ Same S (hide G b) ∧ ∃ o, G b = some o ∧ Bag (860000000 - 100 * j) o)
      ⟨⟨_, _, _, _, _, _, _, _, _, _, rfl⟩, eS0, sS, let ⟨o, e, g⟩ := dS.bag; ⟨o, e, g.mono (by omega)⟩⟩ (fun _ _ _ _ _ => trivial) ?_ ?_⟩
    · rintro j x τ GG G hj ⟨⟨y1, y7, y8, y9, y10, y11, y12, y13, y14, y15, rfl⟩, eG, sG, hbG⟩ ⟨rfl, rfl⟩
      have hj5 : j < 5 := hj
      obtain ⟨N0, hN0⟩ : ∃ N0, N0 = 860000000 - 100 * (j + 1) := ⟨_, rfl⟩
      have hb0 : ∃ o, G b = some o ∧ Bag (N0 + 99 + 1) o := let ⟨o, e, g⟩ := hbG; ⟨o, e, g.mono (by omega)⟩
      refine ⟨_, rfl, _, rfl, b, _, N0 + 99, 3, rfl, hb0.choose_spec.1, hb0.choose_spec.2, by decide, by decide +kernel, fun x3 o3 x30 x33 g3 => ?_⟩
      (generalize hG : L2.upd _ b _ = G1; have d3' := dr_of hG g3; clear hG)
      refine ⟨_, rfl, by omega, by omega, for_it walk_range (fun c τ G' => (∃ (sm : Addr) (xs : List V), (∃ s1 s7 s9 s10 s11 s12 s13 s14 s15 : Option V, τ = [some (.ref a), s1, some (.ref b), some (.ref rw_), some (.ref lt), some (.ref wa), some (.ref sg), s7, some (.ref sm), s9, s10, s11, s12, s13, s14, s15]) ∧ hide G' b sm = some (.lst xs) ∧ Pk K (hide G' b) xs 202) ∧ Same H G' ∧ Same S (hide G' b) ∧ ∃ o, G' b = some o ∧ Bag (N0 + 90 - 10 * c) o)
        ⟨⟨sg, _, ⟨_, _, _, _, _, _, _, _, _, rfl⟩, (sG.trans d3'.hide) _ _ sgS, (pkS.same (sG.trans d3'.hide)).mono (by decide)⟩, keepH d3' eG, sG.trans d3'.hide, let ⟨o, e, g⟩ := d3'.bag; ⟨o, e, g.mono (by omega)⟩⟩ (fun _ _ _ _ _ => trivial) ?_ ?_⟩
      · rintro c x τ E1 E2 hc ⟨⟨sm, xs, ⟨z1, z7, z9, z10, z11, z12, z13, z14, z15, rfl⟩, esm, pk⟩, eE, sE, hbE⟩ ⟨rfl, rfl⟩
        have hc2 : c < 2 + 1 := by omega
        have nsm : sm ≠ b := fun z => by rw [z, hide_self] at esm; cases esm
        have esm' := esm
        rw [hide_ne nsm] at esm'
        have hbS : ∃ o, E2 b = some o ∧ Bag (N0 + 90 - 10 * (c + 1)) o := let ⟨o, e, g⟩ := hbE; ⟨o, e, g.mono (by omega)⟩
        refine ⟨_, rfl, _, _, rfl, .inl ⟨_, .inl (.inl esm'), rfl⟩, _, _, rfl, rfl, _, rfl, ite2 (fun c1 => ?_) (fun c1 => ?_)⟩
        · refine ⟨_, _, rfl, rfl, _, rfl, ite2 (fun c2 => ?_) (fun c2 => ?_)⟩
          · have l1 := of_decide_eq_true c1
            have l2 := of_decide_eq_true c2
            refine ⟨_, rfl, _, rfl, _, rfl, _, rfl, b, N0 + 90 - 10 * (c + 1), rw_, lt, sm, rows, ls, xs, rfl, let ⟨o, e, g⟩ := hbE; ⟨o, e, g.mono (by omega)⟩, ro, hls, Dt.same sE rowsS, sE _ _ ltS, esm, by omega, pk.exact.mono (by omega), fun E3 p xs' dE hp np ep pk' => ?_⟩
            exact ⟨⟨p, xs', ⟨_, _, _, _, _, _, _, _, _, rfl⟩, by rw [hide_ne np]; exact ep, pk'⟩, keepH dE eE, sE.trans dE.hide, dE.bag⟩
          · exact ⟨⟨sm, xs, ⟨_, _, _, _, _, _, _, _, _, rfl⟩, esm, pk⟩, eE, sE, hbS⟩
        · exact ⟨_, rfl, iteF ⟨⟨sm, xs, ⟨_, _, _, _, _, _, _, _, _, rfl⟩, esm, pk⟩, eE, sE, hbS⟩⟩
      · rintro τ E ⟨⟨sm, xs, ⟨z1, z7, z9, z10, z11, z12, z13, z14, z15, rfl⟩, esm, pk⟩, eE, sE, hbE⟩
        have hbE0 : ∃ o, E b = some o ∧ Bag (N0 + 50 + 1) o := let ⟨o, e, g⟩ := hbE; ⟨o, e, g.mono (by omega)⟩
        have nsm : sm ≠ b := fun z => by rw [z, hide_self] at esm; cases esm
        have esm' := esm
        rw [hide_ne nsm] at esm'
        have lxs := pk.len
        refine ⟨_, rfl, _, _, rfl, .inl ⟨_, .inl (.inl esm'), rfl⟩, _, _, rfl, ?_⟩
        obtain ⟨sz, hsz⟩ : ∃ sz : Int, sz = (if ((xs.length : Nat) : Int) > 1 then ((xs.length : Nat) : Int) else 1) := ⟨_, rfl⟩
        have sz1 : 1 ≤ sz ∧ sz ≤ 202 := by rw [hsz]; split <;> omega
        rw [← hsz]
        clear hsz
        refine ⟨_, rfl, (by show 1 ≤ sizeLine; decide), fun L5 hL5 => ?_⟩
        (generalize hG : L2.upd _ L5 _ = F1; have sL5 := same_of hG hL5; have eL5 := at_of hG; clear hG)
        refine ⟨_, _, rfl, rfl, ⟨by decide, by decide, by decide⟩, _, rfl, _, rfl, _, _, rfl, rfl, _, _, rfl, ?_⟩
        refine ⟨(by show 11 ≤ sizeLine; decide), fun LO hLO => ?_⟩
        (generalize hG : L2.upd _ LO _ = F2; have sLO := same_of hG hLO; have eLO := at_of hG; clear hG)
        have DF2 : Dr b (N0 + 50 + 1) E F2 := Dr.same (sL5.trans sLO) hbE0
        have nLO : LO ≠ b := (Dr.same sL5 hbE0).ne hLO
        have nL5 : L5 ≠ b := (Dr.refl hbE0).ne hL5
        refine ⟨_, rfl, b, _, N0 + 50, 11, rfl, DF2.bag.choose_spec.1, DF2.bag.choose_spec.2, by decide, by decide +kernel, fun x11 o11 x110 x111 g11 => ?_⟩
        (generalize hG : L2.upd _ b _ = F3; have d11 := dr_of hG g11; clear hG)
        obtain ⟨v, hv, hvm⟩ := atI_in (xs := [V.non, .bl true, .int 0, .int (-1), .str "5", .ref L5, .int 10000, .int ((10 : Int) ^ (29 : Int).toNat), .int sz, .int (if sz - 1 > 1 then sz - 1 else 1), .int 9999]) x110 x111
        refine ⟨LO, _, _, v, rfl, rfl, .inl (.inl (d11.at nLO eLO)), hv, ?_⟩
        clear hv
        have vF : ∃ du, HOk 202 du ∧ SeqAt.shaped du = true ∧ ((v = .ref L5 ∧ du = .list [.int 5]) ∨ (isD "list" du = false ∧ (∀ G : Hp, Dt K G v du) ∧ ∀ p, v ≠ .ref p)) := by
          have kn : ∀ i : Int, isD "list" (.int i) = false := fun i => (by show (kitB "int" "list" == some true) = false; decide +kernel)
          have nat_ok : ∀ i : Int, 0 ≤ i → i ≤ 300 → HOk 202 (.int i) := fun i h0 h1 => ⟨fun ds e => (by cases e), fun ds e => (by cases e), by
            obtain ⟨m, rfl⟩ : ∃ m : Nat, i = m := ⟨i.toNat, by omega⟩
            exact (Sm.nat (k := 0) (by omega)).mono (by decide) (by decide)⟩
          simp only [List.mem_cons, List.not_mem_nil, or_false] at hvm
          rcases hvm with rfl | rfl | rfl | rfl | rfl | rfl | rfl | rfl | rfl | rfl | rfl
          · exact ⟨.none, HOk.plain rfl (by decide +kernel), by decide +kernel, .inr ⟨by decide +kernel, fun _ => .non, fun _ h => (by cases h)⟩⟩
          · exact ⟨.bool true, HOk.plain rfl (by decide +kernel), by decide +kernel, .inr ⟨by decide +kernel, fun _ => .bl _, fun _ h => (by cases h)⟩⟩
          · exact ⟨.int 0, HOk.plain rfl (by decide +kernel), by decide +kernel, .inr ⟨kn _, fun _ => .int _, fun _ h => (by cases h)⟩⟩
          · exact ⟨.int (-1), HOk.plain rfl (by decide +kernel), by decide +kernel, .inr ⟨kn _, fun _ => .int _, fun _ h => (by cases h)⟩⟩
          · exact ⟨.str "5", HOk.plain rfl (by decide +kernel), by decide +kernel, .inr ⟨by decide +kernel, fun _ => .str _, fun _ h => (by cases h)⟩⟩
          · exact ⟨.list [.int 5], HOk.list (by decide) (by decide) (fun e he => by rw [List.mem_singleton.mp he]; exact elB (by decide +kernel)), by decide +kernel, .inl ⟨rfl, rfl⟩⟩
          · exact ⟨.int 10000, HOk.plain rfl (by decide +kernel), by decide +kernel, .inr ⟨kn _, fun _ => .int _, fun _ h => (by cases h)⟩⟩
          · exact ⟨.int ((10 : Int) ^ (29 : Int).toNat), HOk.plain rfl (by decide +kernel), by decide +kernel, .inr ⟨kn _, fun _ => .int _, fun _ h => (by cases h)⟩⟩
          · exact ⟨.int sz, nat_ok sz (by omega) (by omega), rfl, .inr ⟨kn _, fun _ => .int _, fun _ h => (by cases h)⟩⟩
          · exact ⟨.int _, nat_ok _ (by split <;> omega) (by split <;> omega), rfl, .inr ⟨kn _, fun _ => .int _, fun _ h => (by cases h)⟩⟩
          · exact ⟨.int 9999, HOk.plain rfl (by decide +kernel), by decide +kernel, .inr ⟨kn _, fun _ => .int _, fun _ h => (by cases h)⟩⟩
        clear hvm
        obtain ⟨du, uok, ush, vF⟩ := vF
        have E3 := DF2.trans d11
        -- the thing
        intro D1 hD1
        (generalize hG : L2.upd _ D1 _ = F4; have sD1 := same_of hG hD1; have eD1 := at_of hG; clear hG)
        refine ⟨(by show 0 ≤ sizeLine; decide), fun L0 hL0 => ?_⟩
        (generalize hG : L2.upd _ L0 _ = F5; have sL0 := same_of hG hL0; have eL0 := at_of hG; clear hG)
        refine ⟨(by show 0 ≤ sizeLine; decide), fun T0 hT0 => ?_⟩
        (generalize hG : L2.upd _ T0 _ = F6; have sT0 := same_of hG hT0; have eT0 := at_of hG; clear hG)
        refine fun D2 hD2 => ⟨upd_same .., [(Sum.inr "A", .int 1)], rfl, by decide, ?_⟩
        rw [upd_upd]
        (generalize hG : L2.upd _ D2 _ = F7; have sD2 := same_of hG hD2; have eD2 := at_of hG; clear hG)
        refine ⟨(by show 7 ≤ sizeLine; decide), fun LT hLT => ?_⟩
        (generalize hG : L2.upd _ LT _ = F8; have sLT := same_of hG hLT; have eLT := at_of hG; clear hG)
        have s38 := (((sD1.trans sL0).trans sT0).trans sD2).trans sLT
        have D38 : Dr b (N0 + 50) F3 F8 := Dr.same s38 E3.bag
        have nLT : LT ≠ b := (Dr.same (((sD1.trans sL0).trans sT0).trans sD2) E3.bag).ne hLT
        have nL0 : L0 ≠ b := (Dr.same sD1 E3.bag).ne hL0
        refine ⟨_, rfl, b, _, N0 + 49, 7, rfl, D38.bag.choose_spec.1, D38.bag.choose_spec.2, by decide, by decide +kernel, fun x7 o7 x70 x77 g7 => ?_⟩
        (generalize hG : L2.upd _ b _ = F; have d7 := dr_of hG g7; clear hG)
        obtain ⟨w_, hw, hwm⟩ := atI_in (xs := [V.non, .str "A", .ref D1, .int 5, .ref L0, .ref T0, .ref D2]) x70 x77
        refine ⟨LT, _, _, w_, rfl, rfl, .inl (.inl (d7.at nLT eLT)), hw, ?_⟩
        clear hw
        have DF : Dr b (N0 + 49) E F := (E3.trans D38).trans d7
        have fL5 : F L5 = some (.lst [.int 5]) := d7.at nL5 (s38 _ _ (d11.at nL5 (sLO _ _ eL5)))
        have fL0 : F L0 = some (.lst []) := d7.at nL0 (sLT _ _ (sD2 _ _ (sT0 _ _ eL0)))
        have oL5 : F3 L5 = some (.lst [.int 5]) := d11.at nL5 (sLO _ _ eL5)
        have n05 : L0 ≠ L5 := fun e => by rw [e, sD1 _ _ oL5] at hL0; cases hL0
        have EL0 : E L0 = none := E3.free (sD1.free hL0)
        have hE5 : ∀ {p : Addr} {o : HO}, E p = some o → p ≠ L5 ∧ p ≠ L0 := fun e => ⟨ne_of_none e hL5, ne_of_none e EL0⟩
        have nD1 : D1 ≠ b ∧ D1 ≠ L5 ∧ D1 ≠ L0 := ⟨E3.ne hD1, fun e => (by rw [e, oL5] at hD1; cases hD1), fun e => (by rw [← e, eD1] at hL0; cases hL0)⟩
        have nT0 : T0 ≠ b ∧ T0 ≠ L5 ∧ T0 ≠ L0 := ⟨(Dr.same (sD1.trans sL0) E3.bag).ne hT0, fun e => (by rw [e, sL0 _ _ (sD1 _ _ oL5)] at hT0; cases hT0), fun e => (by rw [e, eL0] at hT0; cases hT0)⟩
        have nD2 : D2 ≠ b ∧ D2 ≠ L5 ∧ D2 ≠ L0 := ⟨(Dr.same ((sD1.trans sL0).trans sT0) E3.bag).ne hD2, fun e => (by rw [e, sT0 _ _ (sL0 _ _ (sD1 _ _ oL5))] at hD2; cases hD2), fun e => (by rw [e, sT0 _ _ eL0] at hD2; cases hD2)⟩
        have zD1 : hide2 F L5 L0 D1 = some (.dK []) := hide2_at nD1.2.1 nD1.2.2 (d7.at nD1.1 (sLT _ _ (sD2 _ _ (sT0 _ _ (sL0 _ _ eD1)))))
        have zT0 : hide2 F L5 L0 T0 = some (.tup []) := hide2_at nT0.2.1 nT0.2.2 (d7.at nT0.1 (sLT _ _ (sD2 _ _ eT0)))
        have zD2 : hide2 F L5 L0 D2 = some (.dK [(Sum.inr "A", .int 1)]) := hide2_at nD2.2.1 nD2.2.2 (d7.at nD2.1 (sLT _ _ eD2))
        have wF : ∃ d, HOk 202 d ∧ ((w_ = .ref L0 ∧ d = .list []) ∨ (isD "list" d = false ∧ Dt K (hide2 F L5 L0) w_ d ∧ ∀ p, w_ = .ref p → ∃ o, hide2 F L5 L0 p = some o)) := by
          simp only [List.mem_cons, List.not_mem_nil, or_false] at hwm
          rcases hwm with rfl | rfl | rfl | rfl | rfl | rfl | rfl
          · exact ⟨.none, HOk.plain rfl (by decide +kernel), .inr ⟨by decide +kernel, .non, fun _ h => (by cases h)⟩⟩
          · exact ⟨.str "A", HOk.plain rfl (by decide +kernel), .inr ⟨by decide +kernel, .str _, fun _ h => (by cases h)⟩⟩
          · exact ⟨.dict [], HOk.plain rfl (by decide +kernel), .inr ⟨by decide +kernel, .dct (ks := []) (xs := []) (ds := []) zD1 rfl .nil, fun p h => (by cases h; exact ⟨_, zD1⟩)⟩⟩
          · exact ⟨.int 5, HOk.plain rfl (by decide +kernel), .inr ⟨by decide +kernel, .int _, fun _ h => (by cases h)⟩⟩
          · exact ⟨.list [], HOk.list (by decide) (by decide) (by simp), .inl ⟨rfl, rfl⟩⟩
          · exact ⟨.tuple [], HOk.tuple (by decide) (by decide) (by simp), .inr ⟨by decide +kernel, .tup (.inl (.inl zT0)) .nil, fun p h => (by cases h; exact ⟨_, zT0⟩)⟩⟩
          · exact ⟨.dict [(.str "A", .int 1)], HOk.plain rfl (by decide +kernel), .inr ⟨by decide +kernel, .dct (ks := [Sum.inr "A"]) (xs := [.int 1]) (ds := [.int 1]) zD2 rfl (.cons (.int 1) .nil), fun p h => (by cases h; exact ⟨_, zD2⟩)⟩⟩
        clear hwm
        obtain ⟨d, wok, wF⟩ := wF
        have w5 : w_ ≠ .ref L5 := fun e => by
          rcases wF with ⟨h, _⟩ | ⟨_, _, h⟩
          · rw [e] at h; cases h; exact n05 rfl
          · obtain ⟨o, ho⟩ := h L5 e
            rw [hide2_b] at ho
            cases ho
        have v0 : ∀ p, p ≠ L5 → v ≠ .ref p := fun p hp e => by
          rcases vF with ⟨h, _⟩ | ⟨_, _, h⟩
          · rw [e] at h; cases h; exact hp rfl
          · exact h p e
        have sEZ : Same (hide E b) (hide2 F L5 L0) := fun a' o' e => by
          have hb' : a' ≠ b := fun z => by rw [z, hide_self] at e; cases e
          rw [hide_ne hb'] at e
          exact hide2_at (hE5 e).1 (hE5 e).2 (DF.fx a' o' hb' e)
        have sZF : Same (hide2 F L5 L0) F := hide2_same
        have rowsZ := Dt.same (sE.trans sEZ) rowsS
        have waZ := waS.same (sE.trans sEZ)
        have pkZ := pk.same sEZ
        have smZ := sEZ _ _ esm
        have smF := sZF _ _ smZ
        -- the first one: a list, the most left out
        refine ⟨_, rfl, _, rfl, _, rfl, sm, _, rfl, .inl (.inl (.inl smF)), fun p1 hp1 => ?_⟩
        (generalize hG : L2.upd _ p1 _ = I1; have sp1 := same_of hG hp1; have ep1 := at_of hG; clear hG)
        obtain ⟨dy1, hy1⟩ := (pkZ.same sZF).hd (n := 202) hp1 ep1 (by decide) (by decide)
        refine ⟨rw_, wa, .ref p1, .str "left out", rows, dy1, .str "left out", F, 202, rfl, by decide, ro, sp1, Dt.same sZF rowsZ, waZ.same sZF, hy1, ⟨HOk.plain rfl (by decide +kernel), .inl ⟨by decide +kernel, .str _⟩⟩, by decide +kernel, fun p _ h => (by cases h), fun I2 _ _ sI2 _ _ _ _ => ⟨_, rfl, iteF ?_⟩⟩
        -- the second one: a tuple
        refine ⟨_, rfl, _, rfl, _, rfl, sm, _, rfl, .inl ⟨.inl (.inl (sI2 _ _ smF)), fun T hT => ?_⟩⟩
        (generalize hG : L2.upd _ T _ = I3; have sT := same_of hG hT; have eT := at_of hG; clear hG)
        have sF3 := sI2.trans sT
        have sZ3 : Same (hide2 F L5 L0) (hide2 I3 L5 L0) := zstep (hide2_same.trans sF3)
        have nT5 : T ≠ L5 := fun e => by rw [e, sI2 _ _ fL5] at hT; cases hT
        have nT0' : T ≠ L0 := fun e => by rw [e, sI2 _ _ fL0] at hT; cases hT
        obtain ⟨xds, xa, xl, xe⟩ := pkZ
        have hT3 : hide2 I3 L5 L0 T = some (.tup xs) := hide2_at nT5 nT0' eT
        refine ⟨_, rfl, rw_, wa, .ref T, v, rows, .tuple xds, du, hide2 I3 L5 L0, 202, rfl, by decide, ro, hide2_same, Dt.same sZ3 rowsZ, waZ.same sZ3, ⟨HOk.tuple xl (by decide) xe, .inl ⟨(by show (kitB "tuple" "list" == some true) = false; decide +kernel), .tup (.inl (.inl hT3)) (DtAll.same sZ3 xa)⟩⟩, ⟨uok, ?_⟩, ush, fun p h _ => (by cases h; rw [hT3]; exact fun z => by cases z), fun I4 _ du2 s4 k4 _ hu4 us4 => ⟨_, rfl, iteF ?_⟩⟩
        · rcases vF with ⟨h1, h2⟩ | ⟨h1, h2, _⟩
          · exact .inr ⟨L5, [.int 5], [.int 5], h1, h2, hide2_b, sF3 _ _ fL5, .cons (.int 5) .nil⟩
          · exact .inl ⟨h1, h2 _⟩
        -- the third one: the thing
        have sZ4 : Same (hide2 F L5 L0) (hide2 I4 L5 L0) := sZ3.trans (zstep s4)
        have i4L0 : I4 L0 = some (.lst []) := k4 L0 _ (sF3 _ _ fL0) (fun h => by cases h; exact nT0' rfl) (v0 L0 n05)
        have wz : ∀ {Z' : Hp}, Same (hide2 F L5 L0) Z' → ∀ p, w_ = .ref p → Z' p = none → p = L0 := fun {Z'} sz p hp hz => by
          rcases wF with ⟨h, _⟩ | ⟨_, _, h⟩
          · rw [hp] at h; cases h; rfl
          · obtain ⟨o, ho⟩ := h p hp
            rw [sz _ _ ho] at hz
            cases hz
        have vz : ∀ p, v = .ref p → p = L5 := fun p hp => by
          by_cases h : p = L5
          · exact h
          · exact absurd hp (v0 p h)
        refine ⟨_, rfl, _, rfl, _, rfl, _, rfl, rw_, wa, w_, v, rows, d, du2, hide2 I4 L5 L0, 203, rfl, by decide, ro, hide2_same, Dt.same sZ4 rowsZ, waZ.same sZ4, ⟨wok.mono (by decide), ?_⟩, hu4.base (zstep s4) (fun p hp _ => by rw [vz p hp]; exact hide2_b), us4, fun p h1 h2 => absurd (by rw [h1, vz p h2]) w5, fun I5 d3 du3 s5 k5 hw5 hu5 us5 => ⟨_, rfl, iteF ?_⟩⟩
        · rcases wF with ⟨h1, h2⟩ | ⟨h1, h2, _⟩
          · exact .inr ⟨L0, [], [], h1, h2, hide2_D, i4L0, .nil⟩
          · exact .inl ⟨h1, Dt.same sZ4 h2⟩
        have sZ5 : Same (hide2 F L5 L0) (hide2 I5 L5 L0) := sZ4.trans (zstep s5)
        -- the fourth one: the most left out
        refine ⟨_, rfl, _, rfl, _, rfl, rw_, wa, w_, .str "left out", rows, d3, .str "left out", hide2 I5 L5 L0, 204, rfl, by decide, ro, hide2_same, Dt.same sZ5 rowsZ, waZ.same sZ5, hw5.base (zstep s5) (fun p hp hz => by rw [wz sZ4 p hp hz]; exact hide2_D), ⟨HOk.plain rfl (by decide +kernel), .inl ⟨by decide +kernel, .str _⟩⟩, by decide +kernel, fun p _ h => (by cases h), fun I6 d4 _ s6 k6 hw6 _ _ => ⟨_, rfl, iteF ?_⟩⟩
        have hu6 : Hd K (hide2 I5 L5 L0) I6 v du3 204 := (hu5.base (zstep s5) (fun p hp _ => by rw [vz p hp]; exact hide2_b)).same (Nat.le_refl _) fun p o hp _ e => k6 p o e (fun h => w5 (by rw [h, vz p hp])) (fun h => by cases h)
        have dtw := hw6.dt s6
        have dtv := hu6.dt s6
        have whd := hw6.1.handed (by decide)
        have sZ6 : Same (hide2 F L5 L0) I6 := sZ5.trans s6
        -- what are no words
        refine ⟨_, rfl, fun D3 hD3 => ?_⟩
        (generalize hG : L2.upd _ D3 _ = I7; have sD3 := same_of hG hD3; have eD3 := at_of hG; clear hG)
        refine ⟨(by show 5 ≤ sizeLine; decide), fun LB hLB => ?_⟩
        (generalize hG : L2.upd _ LB _ = I8; have sLB := same_of hG hLB; have eLB := at_of hG; clear hG)
        have s68 := sD3.trans sLB
        have rows8 := Dt.same (sZ6.trans s68) rowsZ
        have bads : ∀ x ∈ [V.non, .ref rw_, .str "f/2", .ref D3, .int 5], ∃ e, Dt K I8 x e ∧ Sm 5 20000 e := by
          intro x hx
          simp only [List.mem_cons, List.not_mem_nil, or_false] at hx
          rcases hx with rfl | rfl | rfl | rfl | rfl
          · exact ⟨.none, .non, (by decide +kernel : smB 5 20000 .none = true)⟩
          · exact ⟨_, rows8, (sm_rows ro).mono (by decide) (by decide)⟩
          · exact ⟨.str "f/2", .str _, (by decide +kernel : smB 5 20000 (.str "f/2") = true)⟩
          · exact ⟨.dict [], .dct (ks := []) (xs := []) (ds := []) (sLB _ _ eD3) rfl .nil, (by decide +kernel : smB 5 20000 (.dict []) = true)⟩
          · exact ⟨.int 5, .int 5, (by decide +kernel : smB 5 20000 (.int 5) = true)⟩
        refine ⟨LB, rfl, ⟨_, .inl (.inl eLB)⟩, for_it walk_list (fun i τ G' => (∃ s1 s7 s8 s9 s10 s13 s14 s15 : Option V, τ = [some (.ref a), s1, some (.ref b), some (.ref rw_), some (.ref lt), some (.ref wa), some (.ref sg), s7, s8, s9, s10, some v, some w_, s13, s14, s15]) ∧ Same I8 G') ⟨⟨_, _, _, _, _, _, _, _, rfl⟩, Same.refl _⟩ (fun i τ G' _ p => .inl (.inl (p.2 _ _ eLB))) ?_ ?_⟩
        · rintro i x τ J1 J2 hi ⟨⟨z1, z7, z8, z9, z10, z13, z14, z15, rfl⟩, sJ⟩ ⟨rfl, hx⟩
          obtain ⟨e, de, se⟩ := bads x (List.mem_of_getElem? hx)
          have de1 := Dt.same sJ de
          have s6J := s68.trans sJ
          have sh := (sm_pair (d := .str "words") (by decide +kernel : smB 5 20000 (.str "words") = true) se).shows
          refine ⟨_, rfl, _, rfl, _, rfl, x, w_, v, d4, du3, rfl, Dt.same s6J dtw, whd, Dt.same s6J dtv, us5, .inl ⟨e, de1, fun J3 p s3 hp ep => ?_⟩⟩
          refine ⟨.ref p, .tuple [.str "words", e], rfl, .tup (.inl (.inl ep)) (.cons (.str _) (.cons (Dt.same s3 de1) .nil)), sh.ok, sh.deep, sh.size, _, rfl, (by show 2 ≤ sizeLine; decide), fun T' hT' => ?_⟩
          (generalize hG : L2.upd _ T' _ = J4; have sT' := same_of hG hT'; have eT' := at_of hG; clear hG)
          refine ⟨.ref T', .tuple [.str "words", e], rfl, .tup (.inl (.inl eT')) (.cons (.str _) (.cons (Dt.same (s3.trans sT') de1) .nil)), sh.ok, sh.deep, sh.size, rfl, _, rfl, iteF' (by simp) ?_⟩
          exact ⟨⟨_, _, _, _, _, _, _, _, rfl⟩, (sJ.trans s3).trans sT'⟩
        · rintro τ J1 ⟨⟨z1, z7, z8, z9, z10, z13, z14, z15, rfl⟩, sJ⟩
          have sZJ : Same (hide2 F L5 L0) J1 := (sZ6.trans s68).trans sJ
          refine ⟨⟨_, _, _, _, _, _, _, _, _, _, rfl⟩, fun a' o' e => ?_, fun a' o' e => ?_, ?_⟩
          · have e1' := eE _ _ e
            exact sZJ _ _ (hide2_at (hE5 e1').1 (hE5 e1').2 (DF.fx a' o' (ne_of_none e hbH) e1'))
          · have e1' := sE _ _ e
            have hb' : a' ≠ b := fun z => by rw [z, hide_self] at e1'; cases e1'
            rw [hide_ne hb']
            exact sZJ _ _ (sEZ _ _ e1')
          · obtain ⟨o, e, g⟩ := DF.bag
            exact ⟨o, sZJ _ _ (hide2_at (Ne.symm nL5) (Ne.symm nL0) e), g.mono (by omega)⟩
    · rintro τ G ⟨⟨y1, y7, y8, y9, y10, y11, y12, y13, y14, y15, rfl⟩, eG, sG, hbG⟩
      refine ⟨(by show 2 ≤ sizeLine; decide), fun q0 hq0 => ?_⟩
      (generalize hG : L2.upd _ q0 _ = A0; have sq0 := same_of hG hq0; have eq0 := at_of hG; clear hG)
      refine ⟨(by show 2 ≤ sizeLine; decide), fun q1 hq1 => ?_⟩
      (generalize hG : L2.upd _ q1 _ = A1; have sq1 := same_of hG hq1; have eq1 := at_of hG; clear hG)
      refine ⟨(by show 2 ≤ sizeLine; decide), fun q2 hq2 => ?_⟩
      (generalize hG : L2.upd _ q2 _ = A2; have sq2 := same_of hG hq2; have eq2 := at_of hG; clear hG)
      refine ⟨(by show 2 ≤ sizeLine; decide), fun q3 hq3 => ?_⟩
      (generalize hG : L2.upd _ q3 _ = A3; have sq3 := same_of hG hq3; have eq3 := at_of hG; clear hG)
      refine ⟨(by show 4 ≤ sizeLine; decide), fun LQ hLQ => ?_⟩
      (generalize hG : L2.upd _ LQ _ = B; have sLQ := same_of hG hLQ; have eLQ := at_of hG; clear hG)
      have f0 := sLQ _ _ (sq3 _ _ (sq2 _ _ (sq1 _ _ eq0)))
      have f1 := sLQ _ _ (sq3 _ _ (sq2 _ _ eq1))
      have f2 := sLQ _ _ (sq3 _ _ eq2)
      have f3 := sLQ _ _ eq3
      have sGB : Same G B := (((sq0.trans sq1).trans sq2).trans sq3).trans sLQ
      have els : ∀ x ∈ [V.ref q0, V.ref q1, V.ref q2, V.ref q3], ∃ (T : Addr) (m : Nat) (u : V) (du : PyData), x = .ref T ∧ B T = some (.tup [.int (m : Nat), u]) ∧ 1 ≤ m ∧ m ≤ 151 ∧ (∀ G : Hp, Dt K G u du) ∧ isD "list" du = false ∧ HOk 200 du ∧ SeqAt.shaped du = true ∧ ∀ p, u ≠ .ref p := by
        intro x hx
        simp only [List.mem_cons, List.not_mem_nil, or_false] at hx
        rcases hx with rfl | rfl | rfl | rfl
        · exact ⟨q0, 100, _, .str "left out", rfl, f0, by decide, by decide, fun _ => .str _, (by show (kitB "str" "list" == some true) = false; decide +kernel), HOk.plain rfl (by decide +kernel), by decide +kernel, fun _ h => (by cases h)⟩
        · exact ⟨q1, 101, _, .str "left out", rfl, f1, by decide, by decide, fun _ => .str _, (by show (kitB "str" "list" == some true) = false; decide +kernel), HOk.plain rfl (by decide +kernel), by decide +kernel, fun _ h => (by cases h)⟩
        · exact ⟨q2, 150, _, .int 150, rfl, f2, by decide, by decide, fun _ => .int _, (by show (kitB "int" "list" == some true) = false; decide +kernel), HOk.plain rfl (by decide +kernel), by decide +kernel, fun _ h => (by cases h)⟩
        · exact ⟨q3, 151, _, .int 150, rfl, f3, by decide, by decide, fun _ => .int _, (by show (kitB "int" "list" == some true) = false; decide +kernel), HOk.plain rfl (by decide +kernel), by decide +kernel, fun _ h => (by cases h)⟩
      obtain ⟨z0, zr, rfl⟩ : ∃ z0 zr, ls = z0 :: zr := by
        cases ls with
        | nil => cases hls.1
        | cons z r => exact ⟨z, r, rfl⟩
      have rowsB : Dt K B (.ref rw_) _ := Dt.same ((sG.trans hide_same).trans sGB) rowsS
      have waB : WordsAt K B wa rows := waS.same ((sG.trans hide_same).trans sGB)
      have ltB : B lt = _ := ((sG.trans hide_same).trans sGB) _ _ ltS
      have ez : cutV ((z0 :: zr).map V.str) none (some 1) = [V.str z0] := by
        show (((z0 :: zr).map V.str).drop (HT.sIx _ 0 none)).take (HT.sIx _ ((z0 :: zr).map V.str).length (some ((1 : Nat) : Int)) - HT.sIx _ 0 none) = _
        rw [HT.sIx_none, HT.sIx_nat]
        rw [Nat.min_eq_left (by simp)]
        rfl
      refine ⟨LQ, rfl, ⟨_, .inl (.inl eLQ)⟩, for_it walk_list (fun i τ G' => (∃ s1 s7 s8 s9 s10 s11 s12 s13 s14 s15 : Option V, τ = [some (.ref a), s1, some (.ref b), some (.ref rw_), some (.ref lt), some (.ref wa), some (.ref sg), s7, s8, s9, s10, s11, s12, s13, s14, s15]) ∧ Same B G') ⟨⟨_, _, _, _, _, _, _, _, _, _, rfl⟩, Same.refl _⟩ (fun i τ G' _ p => .inl (.inl (p.2 _ _ eLQ))) ?_ ?_⟩
      · rintro j x τ C1 C2 hj ⟨⟨y1, y7, y8, y9, y10, y11, y12, y13, y14, y15, rfl⟩, sC⟩ ⟨rfl, hx⟩
        obtain ⟨T, m, u, du, rfl, eT, m1, m2, hu, ul, uo, us, un⟩ := els x (List.mem_of_getElem? hx)
        refine ⟨T, _, rfl, .inl (.inl (sC _ _ eT)), rfl, _, _, rfl, _, _, rfl, rfl, ?_⟩
        refine ⟨_, rfl, _, rfl, _, rfl, _, rfl, lt, _, rfl, .inl (.inl (sC _ _ ltB)), fun l1 hl1 => ?_⟩
        rw [ez]
        (generalize hG : L2.upd _ l1 _ = C3; have t1 := same_of hG hl1; have el1 := at_of hG; clear hG)
        refine ⟨_, rfl, l1, _, _, rfl, rfl, el1, by omega, by omega, ?_, fun y hy => ?_⟩
        · show 1 * ((m : Nat) : Int).toNat ≤ sizeLine
          exact sz5 (by omega)
        rw [Int.toNat_natCast, rep_one]
        (generalize hG : L2.upd _ y _ = C4; have t2 := same_of hG hy; have ey := at_of hG; clear hG)
        have pk : Pk K C3 (List.replicate m (V.str z0)) m := Pk.rep (Pk.str (el_lok (hls.2 z0 (by simp)))) m
        obtain ⟨d, hd⟩ := pk.hd (n := 200) hy ey (by omega) (by decide)
        have sBC := sC.trans t1
        refine ⟨_, rfl, rw_, wa, .ref y, u, rows, d, du, C3, 200, rfl, by decide, ro, t2, Dt.same sBC rowsB, waB.same sBC, hd, ⟨uo, .inl ⟨ul, hu _⟩⟩, us, fun p _ h => absurd h (un p), fun H' d' du' s' _ _ _ _ => ⟨_, rfl, iteF ⟨⟨_, _, _, _, _, _, _, _, _, _, rfl⟩, sBC.trans s'⟩⟩⟩
      · rintro τ C1 ⟨⟨y1, y7, y8, y9, y10, y11, y12, y13, y14, y15, rfl⟩, sC⟩
        exact ⟨_, _, _, _, _, _, _, _, _, _, _, _, _, _, _, rfl, (eG.trans sGB).trans sC⟩
end

end TS

namespace TS
open PySem PySem.Spec PyProof.Rows L2 TL

section
variable {P : Program} {w : World} {K : PySem.W.Frag} {mg : Str → Option Value} {base : Heap}
abbrev s__law_cell : Stmt := top 38
theorem sc__law_cell : FnScope ["_law_script", "_law_k"] ["_law_script", "_law_k"] (defScope s__law_cell) := ⟨rfl, rfl, rfl, by decide +kernel, rfl, by decide +kernel, by decide +kernel⟩

theorem ok_cell (bt : Bt mg) (D : Def K mg "_law_cell" s__law_cell) : Prom P w K mg base 1 "_law_cell" ["_law_script", "_law_k"] (spCell K) := by
  refine prom_mk D sc__law_cell (fun vs H Q E h => ?_) (fun _ _ _ _ _ _ us hl => match us, hl with | [_, _], _ => rfl) (fun f cdv A outer s H vs Q E hr h => ?_)
  · obtain ⟨a, ns, k, rfl, _⟩ := h
    rfl
  · obtain ⟨a, ns, k, rfl, hS, hk, q⟩ := h
    refine ⟨_, (pss_cons (ps_if (pt_cmpR op_lt (pv 1) (pe_callB (id := "len") (lenK (K := K)) (by rfl) bt.len_ (by decide +kernel) (pa_cons (pv 0) pa_nil)) (nomark _)) (pss_one (ps_ret (pe_ix (ix_listK (K := K)) (pv 0) (pv 1) (fun _ _ => rfl)))) pss_nil)
      (pss_one (ps_ret (pe_op op_add (pe_op op_mul pe_int (pv 1)) pe_int)))), ?_⟩
    refine ⟨_, rfl, _, rfl, _, _, rfl, .inl ⟨_, hS, rfl⟩, _, _, rfl, rfl, _, rfl, ?_⟩
    refine ite2 (fun c => ?_) (fun c => ?_)
    · have c' := of_decide_eq_true c
      rw [List.length_map] at c'
      have hk' : k < ns.length := by omega
      exact ⟨_, rfl, _, rfl, a, _, _, .int ns[k], rfl, rfl, hS, atI_nat (by rw [List.getElem?_map, List.getElem?_eq_getElem hk']; rfl), q _⟩
    · exact ⟨_, rfl, _, _, rfl, rfl, .inl ⟨by decide, by decide⟩, _, _, rfl, rfl, q _⟩
abbrev s__law_box : Stmt := top 39
theorem sc__law_box : FnScope ["_law_cell_here"] ["_law_cell_here"] (defScope s__law_box) := ⟨rfl, rfl, rfl, by decide +kernel, rfl, by decide +kernel, by decide +kernel⟩

theorem ok_bag (bt : Bt mg) (D : Def K mg "_law_box" s__law_box) : Prom P w K mg base 1 "_law_box" ["_law_cell_here"] spBag := by
  refine prom_mk D sc__law_box (fun vs H Q E h => ?_) (fun _ _ _ _ _ _ us hl => match us, hl with | [_], _ => rfl) (fun f cdv A outer s H vs Q E hr h => ?_)
  · obtain ⟨c, rfl, _⟩ := h
    rfl
  · obtain ⟨c, rfl, q⟩ := h
    refine ⟨_, (pss_one (ps_ret (pe_lst (pa_cons (pe_callB (id := "max") (call_max2 rfl) (by rfl) bt.max_ (by decide +kernel) (pa_cons pe_int (pa_cons (pe_op op_sub (pv 0) (pe_op op_pow pe_int pe_int)) pa_nil))) (pa_cons (pe_op op_mod (pv 0) pe_int) (pa_cons pe_int pa_nil)))))), ?_⟩
    refine ⟨_, rfl, _, _, rfl, rfl, ⟨by decide, by decide, by decide⟩, _, _, rfl, rfl, _, _, rfl, ?_⟩
    refine ⟨_, rfl, _, _, rfl, rfl, (by show (0 : Int) < 2147483629; decide), (by show 3 ≤ sizeLine; decide), fun p hp => q p _ hp ?_⟩
    refine ⟨_, _, _, rfl, ?_, Int.emod_nonneg _ (by decide), Int.emod_lt_of_pos _ (by decide), Int.le_refl 0, by decide⟩
    split <;> omega
abbrev s__law_take : Stmt := top 40
theorem sc__law_take : FnScope ["_law_box_here", "_law_many", "_law_digit", "_law_number"] ["_law_box_here", "_law_many"] (defScope s__law_take) := ⟨rfl, rfl, rfl, by decide +kernel, rfl, by decide +kernel, by decide +kernel⟩

theorem pow_small {x : Int} {n : Nat} (h0 : 0 ≤ x) (h1 : x < 2 ^ 60) : x.natAbs < 2 ^ 64 := by
  have : (2 : Int) ^ 60 = 1152921504606846976 := by decide
  have h2 : (2 : Nat) ^ 64 = 18446744073709551616 := by decide
  omega
theorem ok_take (D : Def K mg "_law_take" s__law_take) : Prom P w K mg base 1 "_law_take" ["_law_box_here", "_law_many"] spTake := by
  refine prom_mk D sc__law_take (fun vs H Q E h => ?_) (fun _ _ _ _ _ _ us hl => match us, hl with | [_, _], _ => rfl) (fun f cdv A outer s H vs Q E hr h => ?_)
  · obtain ⟨b, o, n, many, rfl, _⟩ := h
    rfl
  · obtain ⟨b, o, n, many, rfl, hb, ⟨x, y, z, rfl, hx, hy, hy', hz, hn⟩, hm, hm', q⟩ := h
    have hL : ∀ {H : Hp} {xs : List V}, H b = some (.lst xs) → SqL K H b xs := fun h => .inl (.inl h)
    refine ⟨_, (pss_cons (ps_if (pt_cmpR op_gt (pe_ix (ix_listK (K := K)) (pv 0) pe_int (fun _ _ => rfl)) pe_int (nomark _)) (pss_cons (ps_set (i := 2) sc__law_take.nd rfl (Or.inl rfl) (pe_op op_mod (pe_ix (ix_listK (K := K)) (pv 0) pe_int (fun _ _ => rfl)) (pv 1)))
      (pss_cons (ps_asg (pe_op op_fdivW (pe_ix (ix_listK (K := K)) (pv 0) pe_int (fun _ _ => rfl)) (pv 1)) (pg_sub (pv 0) pe_int set_list))
      (pss_one (ps_ret (pv 2))))) pss_nil)
      (pss_cons (ps_asg (pe_op op_add (pe_ix (ix_listK (K := K)) (pv 0) pe_int (fun _ _ => rfl)) pe_int) (pg_sub (pv 0) pe_int set_list))
      (pss_cons (ps_set (i := 3) sc__law_take.nd rfl (Or.inl rfl) (pe_op op_mod (pe_op op_pow (pe_op op_add (pe_op op_add (pe_ix (ix_listK (K := K)) (pv 0) pe_int (fun _ _ => rfl)) (pe_op op_mul pe_int (pe_ix (ix_listK (K := K)) (pv 0) pe_int (fun _ _ => rfl)))) pe_int) pe_int) pe_int))
      (pss_cons (ps_set (i := 3) sc__law_take.nd rfl (Or.inl rfl) (pe_op op_mod (pe_op op_pow (pe_op op_add (pv 3) (pe_op op_mul pe_int (pe_ix (ix_listK (K := K)) (pv 0) pe_int (fun _ _ => rfl)))) pe_int) pe_int))
      (pss_one (ps_ret (pe_op op_mod (pe_op op_fdivW (pv 3) pe_int) (pv 1)))))))), ?_⟩
    refine ⟨_, rfl, b, _, _, _, rfl, rfl, hL hb, rfl, _, _, rfl, rfl, _, rfl, ?_⟩
    refine ite2 (fun c => ?_) (fun c => ?_)
    · have c' := of_decide_eq_true c
      refine ⟨_, rfl, b, _, _, _, rfl, rfl, hL hb, rfl, _, rfl, _, _, rfl, rfl, hm, ?_⟩
      refine ⟨_, rfl, b, _, _, _, rfl, rfl, hL hb, rfl, _, rfl, _, _, rfl, rfl, ?_, ?_⟩
      · exact wide_div (b := 201) hm (by have h1 : (2 : Int) ^ 200 = 1606938044258990275541962092341162602522202993782792835301376 := by decide +kernel
                                         have h3 : (2 : Nat) ^ 201 = 3213876088517980551083924184682325205044405987565585670602752 := by decide +kernel
                                         rw [h1] at hm'
                                         rw [h3]
                                         omega) (by decide) (by decide)
      · refine ⟨_, rfl, b, _, _, 0, rfl, rfl, hb, rfl, _, rfl, ?_⟩
        exact q _ _ (Int.emod_nonneg _ (by omega)) (Int.emod_lt_of_pos _ hm) ⟨_, _, _, rfl, Int.ediv_nonneg hx (by omega), hy, hy', hz, by omega⟩
    · refine ⟨_, rfl, b, _, _, _, rfl, rfl, hL hb, rfl, _, _, rfl, rfl, _, rfl, b, _, _, 2, rfl, rfl, hb, rfl, ?_⟩
      have hb1 : (L2.upd H b (.lst [.int x, .int y, .int (z + 1)])) b = some (.lst [.int x, .int y, .int (z + 1)]) := upd_same
      refine ⟨_, rfl, b, _, _, _, rfl, rfl, hL hb1, rfl, _, rfl, b, _, _, _, rfl, rfl, hL hb1, rfl, _, _, rfl, rfl, .inl ⟨by decide, by decide⟩, _, _, rfl, rfl, _, _, rfl, rfl, _, _, rfl, rfl, ⟨by decide, by decide, ?_⟩, _, _, rfl, rfl, (by show (0 : Int) < 2147483647; decide), ?_⟩
      · exact pow_small (n := 0) (by omega) (by have : (2 : Int) ^ 60 = 1152921504606846976 := by decide
                                                omega)
      · have r0 := Int.emod_nonneg ((y + 7919 * (z + 1) + 43) ^ 5) (show (2147483647 : Int) ≠ 0 by decide)
        have r1 := Int.emod_lt_of_pos ((y + 7919 * (z + 1) + 43) ^ 5) (show (0 : Int) < 2147483647 by decide)
        refine ⟨_, rfl, _, rfl, b, _, _, _, rfl, rfl, hL hb1, rfl, _, _, rfl, rfl, .inl ⟨by decide, by decide⟩, _, _, rfl, rfl, _, _, rfl, rfl, ⟨by decide, by decide, ?_⟩, _, _, rfl, rfl, (by show (0 : Int) < 2147483587; decide), ?_⟩
        · exact pow_small (n := 0) (Int.add_nonneg r0 (by omega)) (by have : (2 : Int) ^ 60 = 1152921504606846976 := by decide
                                                                      omega)
        · refine ⟨_, rfl, _, _, rfl, rfl, wide_div (b := 10) (by decide) (by decide) (by decide) (by decide), _, rfl, _, _, rfl, rfl, hm, ?_⟩
          exact q _ _ (Int.emod_nonneg _ (by omega)) (Int.emod_lt_of_pos _ hm) ⟨_, _, _, rfl, hx, hy, hy', by omega, by omega⟩
end

end TS

namespace TS
open PySem PySem.Spec PyProof.Rows L2 TL

/-! ### the head and the end -/
def fn : List He.DefD := ([defD "is_whole" s_is_whole, defD "is_name" s_is_name, defKD "number_in" s_number_in [("low", .int 0), ("high", .int 9999)], defD "is_letter" s_is_letter, defD "is_row" s_is_row, defD "are_rows" s_are_rows, defD "need_words" s_need_words, defD "are_signs" s_are_signs, defD "places_of" s_places_of, defD "ends_of" s_ends_of, defD "_law_cell" s__law_cell, defD "_law_box" s__law_box, defD "_law_take" s__law_take, defD "_law_names" s__law_names, defD "_law_rows" s__law_rows, defD "_law_letters" s__law_letters, defD "_law_signs" s__law_signs, defD "_law_is_letter" s__law_is_letter, defD "_law_due" s__law_due, defD "_law_caught" s__law_caught] : List He.DefD) ++ ([defD "_law_otherwise" s__law_otherwise, defD "_law_right" s__law_right, defD "_law_long_right" s__law_long_right, defD "law" s_law, methD "NoWords" "__init__" "NoWords.__init__" s_NoWords___init__, methD "NoSigns" "__init__" "NoSigns.__init__" s_NoSigns___init__, methD "NoSign" "__init__" "NoSign.__init__" s_NoSign___init__, methD "Beyond" "__init__" "Beyond.__init__" s_Beyond___init__, methD "Unended" "__init__" "Unended.__init__" s_Unended___init__, methD "NoNumber" "__init__" "NoNumber.__init__" s_NoNumber___init__, methD "Words" "__init__" "Words.__init__" s_Words___init__, methD "Words" "has" "Words.has" s_Words_has, methD "Words" "told_of" "Words.told_of" s_Words_told_of, methD "Words" "places" "Words.places" s_Words_places, methD "Term" "signs" "Term.signs" s_Term_signs, methKD "Term" "__init__" "Term.__init__" s_Term___init__ [("most", .int 100)]] : List He.DefD)
def gl : List Str := (["is_whole", "is_name", "number_in", "is_letter", "is_row", "are_rows", "need_words", "are_signs", "places_of", "ends_of", "_law_cell", "_law_box", "_law_take", "_law_names", "_law_rows", "_law_letters", "_law_signs", "_law_is_letter", "_law_due", "_law_caught"] : List Str) ++ (["_law_otherwise", "_law_right", "_law_long_right", "law", "TermError", "NoWords", "NoSigns", "NoSign", "Beyond", "Unended", "NoNumber", "Words", "Term"] : List Str)
def fl (K : PySem.W.Frag) : List Bool := ([famB K "TermError", ownB K "NoWords" "found", ownB K "NoSigns" "found", ownB K "NoSign" "at", ownB K "Beyond" "at", ownB K "Unended" "many", ownB K "NoNumber" "found", (He.Fa.cls "Words").ok K, (He.Fa.noat "Words" "by_name").ok K, (He.Fa.mkr "Words").ok K, (He.Fa.meth "Words" "has").ok K, (He.Fa.meth "Words" "told_of").ok K, (He.Fa.meth "Words" "places").ok K, isCB K (He.ga K "Words"), (He.Fa.cls "Term").ok K, (He.Fa.noat "Term" "term_words").ok K, (He.Fa.noat "Term" "all_signs").ok K, (He.Fa.noat "Term" "all_ends").ok K, (He.Fa.mkr "Term").ok K, (He.Fa.meth "Term" "signs").ok K] : List Bool) ++ ([((List.range 6).all fun i => (List.range 6).all fun j => (He.Fa.exm (exs.getD i "") (exs.getD j "") (decide (i = j))).ok K), (He.Fa.int "MOST_SIGNS_marks" 8).ok K, (He.Fa.int "MOST_FIGURES" 30).ok K, (He.Fa.int "LAST_LETTER" 99).ok K, (He.Fa.int "MOST_PLACES" 4).ok K, (He.Fa.int "MOST_WORDS" 12).ok K, (He.Fa.int "GREATEST" 9999).ok K, (He.Fa.int "MOST_SIGNS_terms" 100).ok K, (He.Fa.str "SMALL" "abcdefghijklmnopqrstuvwxyz").ok K, (He.Fa.str "FIGURES" "0123456789").ok K, (He.Fa.str "CAPITALS" "ABCDEFGHIJKLMNOPQRSTUVWXYZ").ok K] : List Bool)
def more (K : PySem.W.Frag) : Bool := (fl K).all id
def chk : PySem.W.Frag → Bool := chkX gl more
abbrev R : PySem.W.OpenRow := PySem.W.OpenLaw.row PySem.Challenge.rw_termshelf_k08_terms_refused
abbrev hk : PySem.W.Hook := hookX 6 chk fn
def ob (s : PySem.W.SharedT) : He.AlD := obsX 6 chk fn (HandSHeadRun.getT s)
def loose : List PySem.Str := (["_wall", "TermError", "Absent", "NoWords", "NoSigns", "NoSign", "Beyond", "Unended", "NoNumber", "NotThere", "FIGURES", "SMALL", "CAPITALS", "MOST_SIGNS_marks", "MOST_FIGURES", "MOST_PLAIN", "LAST_LETTER", "is_whole", "is_name", "number_in", "is_letter", "MOST_WORDS", "MOST_PLACES", "is_row", "are_rows", "Words", "MOST_SIGNS_terms", "GREATEST", "need_words", "are_signs"] : List PySem.Str) ++ (["places_of", "ends_of", "Term", "_law_cell", "_law_box", "_law_take", "_law_names", "_law_rows", "_law_letters", "_law_signs", "_law_is_letter", "_law_due", "_law_caught", "_law_otherwise", "_law_right", "_law_long_right"] : List PySem.Str)
theorem run (w : World) : HandSHeadRun.RunEq R (PySem.W.view R.prog [51]) hk ob 6000 loose w := by
  intro os
  kernel_rfl
theorem facts {w : World} {K : PySem.W.Frag} {h : Heap} {mg : Str → Option Value} {f : Addr} (X : K.In h) (G : h.Ns mainGlobals mg) (hfa : mg ("law" : Str) = some (.ref f)) (c : chk K = true) (c1 : fn.all (fun d => d.ok K) = true)
    (c2 : fn.map (fun d => He.fnW K d.at_) = fn.map He.DefD.val) : LawAt PySem.Challenge.rw_termshelf_k08_terms_refused w mg 9 63 "_law_script" h f K := by
  obtain ⟨ca, cb⟩ := He.ba c
  obtain ⟨cs, cbt⟩ := He.ba ca
  obtain ⟨cg, cm⟩ := He.ba cb
  have fx : ∀ (i : Nat) (b : Bool), (fl K)[i]? = some b → b = true := fun i b hb => List.all_eq_true.mp cm b (List.mem_of_getElem? hb)
  have Y := sysB_ok cs
  have bt := bt_of X G cbt
  have g : ∀ (x : Str), x ∈ gl → (He.Fa.glo x).ok K = true := fun x hx => List.all_eq_true.mp cg x hx
  have gg : ∀ (x : Str), x ∈ gl → mg x = some (.ref (He.ga K x)) := fun x hx => He.glo_ok X G (g x hx)
  have D : ∀ {x : Str} {st : Stmt} (i : Nat), fn[i]? = some (defD x st) → x ∈ gl → Def K mg x st := fun i hi hx => def_of X G c1 c2 i hi (g _ hx)
  have d_is_whole : Def K mg "is_whole" s_is_whole := D 0 rfl (by decide +kernel)
  have d_is_name : Def K mg "is_name" s_is_name := D 1 rfl (by decide +kernel)
  have d_number_in : DefK K mg "number_in" s_number_in [("low", .int 0), ("high", .int 9999)] := defK_of X G c1 c2 2 rfl (g _ (by decide +kernel))
  have d_is_letter : Def K mg "is_letter" s_is_letter := D 3 rfl (by decide +kernel)
  have d_is_row : Def K mg "is_row" s_is_row := D 4 rfl (by decide +kernel)
  have d_are_rows : Def K mg "are_rows" s_are_rows := D 5 rfl (by decide +kernel)
  have d_need_words : Def K mg "need_words" s_need_words := D 6 rfl (by decide +kernel)
  have d_are_signs : Def K mg "are_signs" s_are_signs := D 7 rfl (by decide +kernel)
  have d_places_of : Def K mg "places_of" s_places_of := D 8 rfl (by decide +kernel)
  have d_ends_of : Def K mg "ends_of" s_ends_of := D 9 rfl (by decide +kernel)
  have d__law_cell : Def K mg "_law_cell" s__law_cell := D 10 rfl (by decide +kernel)
  have d__law_box : Def K mg "_law_box" s__law_box := D 11 rfl (by decide +kernel)
  have d__law_take : Def K mg "_law_take" s__law_take := D 12 rfl (by decide +kernel)
  have d__law_names : Def K mg "_law_names" s__law_names := D 13 rfl (by decide +kernel)
  have d__law_rows : Def K mg "_law_rows" s__law_rows := D 14 rfl (by decide +kernel)
  have d__law_letters : Def K mg "_law_letters" s__law_letters := D 15 rfl (by decide +kernel)
  have d__law_signs : Def K mg "_law_signs" s__law_signs := D 16 rfl (by decide +kernel)
  have d__law_is_letter : Def K mg "_law_is_letter" s__law_is_letter := D 17 rfl (by decide +kernel)
  have d__law_due : Def K mg "_law_due" s__law_due := D 18 rfl (by decide +kernel)
  have d__law_caught : Def K mg "_law_caught" s__law_caught := D 19 rfl (by decide +kernel)
  have d__law_otherwise : Def K mg "_law_otherwise" s__law_otherwise := D 20 rfl (by decide +kernel)
  have d__law_right : Def K mg "_law_right" s__law_right := D 21 rfl (by decide +kernel)
  have d__law_long_right : Def K mg "_law_long_right" s__law_long_right := D 22 rfl (by decide +kernel)
  have d_law : Def K mg "law" s_law := D 23 rfl (by decide +kernel)
  have d_NoWords___init__ : DefM K (He.ma K (He.ga K "NoWords") "__init__") "__init__" "NoWords.__init__" s_NoWords___init__ := meth_of c1 c2 24 rfl
  have d_NoSigns___init__ : DefM K (He.ma K (He.ga K "NoSigns") "__init__") "__init__" "NoSigns.__init__" s_NoSigns___init__ := meth_of c1 c2 25 rfl
  have d_NoSign___init__ : DefM K (He.ma K (He.ga K "NoSign") "__init__") "__init__" "NoSign.__init__" s_NoSign___init__ := meth_of c1 c2 26 rfl
  have d_Beyond___init__ : DefM K (He.ma K (He.ga K "Beyond") "__init__") "__init__" "Beyond.__init__" s_Beyond___init__ := meth_of c1 c2 27 rfl
  have d_Unended___init__ : DefM K (He.ma K (He.ga K "Unended") "__init__") "__init__" "Unended.__init__" s_Unended___init__ := meth_of c1 c2 28 rfl
  have d_NoNumber___init__ : DefM K (He.ma K (He.ga K "NoNumber") "__init__") "__init__" "NoNumber.__init__" s_NoNumber___init__ := meth_of c1 c2 29 rfl
  have d_Words___init__ : DefM K (He.ma K (He.ga K "Words") "__init__") "__init__" "Words.__init__" s_Words___init__ := meth_of c1 c2 30 rfl
  have d_Words_has : DefM K (He.ma K (He.ga K "Words") "has") "has" "Words.has" s_Words_has := meth_of c1 c2 31 rfl
  have d_Words_told_of : DefM K (He.ma K (He.ga K "Words") "told_of") "told_of" "Words.told_of" s_Words_told_of := meth_of c1 c2 32 rfl
  have d_Words_places : DefM K (He.ma K (He.ga K "Words") "places") "places" "Words.places" s_Words_places := meth_of c1 c2 33 rfl
  have d_Term_signs : DefM K (He.ma K (He.ga K "Term") "signs") "signs" "Term.signs" s_Term_signs := meth_of c1 c2 34 rfl
  have d_Term___init__ : DefMK K (He.ma K (He.ga K "Term") "__init__") "__init__" "Term.__init__" s_Term___init__ [("most", .int 100)] := methK_of c1 c2 35 rfl
  have g_TermError := gg "TermError" (by decide +kernel)
  have g_NoWords := gg "NoWords" (by decide +kernel)
  have g_NoSigns := gg "NoSigns" (by decide +kernel)
  have g_NoSign := gg "NoSign" (by decide +kernel)
  have g_Beyond := gg "Beyond" (by decide +kernel)
  have g_Unended := gg "Unended" (by decide +kernel)
  have g_NoNumber := gg "NoNumber" (by decide +kernel)
  have g_Words := gg "Words" (by decide +kernel)
  have g_Term := gg "Term" (by decide +kernel)
  have fam := famB_ok (fx 0 _ rfl)
  have x_NoWords := ownB_ok (fx 1 _ rfl)
  have x_NoSigns := ownB_ok (fx 2 _ rfl)
  have x_NoSign := ownB_ok (fx 3 _ rfl)
  have x_Beyond := ownB_ok (fx 4 _ rfl)
  have x_Unended := ownB_ok (fx 5 _ rfl)
  have x_NoNumber := ownB_ok (fx 6 _ rfl)
  have clW := He.cls_ok (fx 7 _ rfl)
  have nbW := He.noat_ok (fx 8 _ rfl)
  have clT := He.cls_ok (fx 14 _ rfl)
  have hx : ∀ i, i < 6 → ∀ j, j < 6 → PySem.W.exmOne K (.ref (He.ga K (exs.getD i ""))) (.ref (He.ga K (exs.getD j ""))) = some (decide (i = j)) := fun i hi j hj =>
    He.exm_ok (List.all_eq_true.mp (List.all_eq_true.mp (fx 20 _ rfl) i (List.mem_range.mpr hi)) j (List.mem_range.mpr hj))
  obtain ⟨fL, fdL, FL, mL⟩ := id d_law
  have e := hfa.symm.trans mL
  cases e
  have b := FunD.bindsA (ps := ["_law_script"]) FL fun _ _ _ _ _ _ us hl => match us, hl with | [_], _ => rfl
  refine ⟨X, fdL, spLaw K, fun s v => b s [v] rfl, fun H a ns hl _ hS => ⟨a, ns, rfl, hS, hl, fun _ => rfl⟩, fun base _ _ => ?_⟩
  have p_take := ok_take (P := PySem.Challenge.rw_termshelf_k08_terms_refused.prog) (w := w) (base := base) d__law_take
  have p_name := ok_is_name (P := PySem.Challenge.rw_termshelf_k08_terms_refused.prog) (w := w) (base := base) bt (He.int_ok X G (fx 21 _ rfl)) (He.str_ok X G (fx 28 _ rfl)) d_is_name
  have p_whole := ok_is_whole (P := PySem.Challenge.rw_termshelf_k08_terms_refused.prog) (w := w) (base := base) bt d_is_whole
  have p_row := ok_is_row bt (He.int_ok X G (fx 24 _ rfl)) p_name p_whole d_is_row
  have p_rows := ok_are_rows bt (He.int_ok X G (fx 25 _ rfl)) p_row d_are_rows
  have i_NoWords := ok_NoWords_ini (P := PySem.Challenge.rw_termshelf_k08_terms_refused.prog) (w := w) (base := base) fam g_TermError x_NoWords d_NoWords___init__
  have i_NoSigns := ok_NoSigns_ini (P := PySem.Challenge.rw_termshelf_k08_terms_refused.prog) (w := w) (base := base) fam g_TermError x_NoSigns d_NoSigns___init__
  have i_NoSign := ok_NoSign_ini (P := PySem.Challenge.rw_termshelf_k08_terms_refused.prog) (w := w) (base := base) fam g_TermError x_NoSign d_NoSign___init__
  have i_Beyond := ok_Beyond_ini (P := PySem.Challenge.rw_termshelf_k08_terms_refused.prog) (w := w) (base := base) fam g_TermError x_Beyond d_Beyond___init__
  have i_Unended := ok_Unended_ini (P := PySem.Challenge.rw_termshelf_k08_terms_refused.prog) (w := w) (base := base) fam g_TermError x_Unended d_Unended___init__
  have i_NoNumber := ok_NoNumber_ini (P := PySem.Challenge.rw_termshelf_k08_terms_refused.prog) (w := w) (base := base) fam g_TermError x_NoNumber d_NoNumber___init__
  have p_wini := ok_Words_ini bt clW nbW p_rows g_NoWords x_NoWords i_NoWords d_Words___init__
  have p_num := ok_number_in (P := PySem.Challenge.rw_termshelf_k08_terms_refused.prog) (w := w) (base := base) bt (He.int_ok X G (fx 22 _ rfl)) (He.str_ok X G (fx 29 _ rfl)) d_number_in
  have p_let := ok_is_letter bt (He.str_ok X G (fx 30 _ rfl)) (He.int_ok X G (fx 23 _ rfl)) p_num d_is_letter
  have p_has := ok_Words_has (P := PySem.Challenge.rw_termshelf_k08_terms_refused.prog) (w := w) (base := base) bt clW nbW d_Words_has
  have p_told := ok_Words_told (P := PySem.Challenge.rw_termshelf_k08_terms_refused.prog) (w := w) (base := base) bt clW nbW d_Words_told_of
  have p_places := ok_Words_places clW (He.meth_ok (fx 11 _ rfl)) p_told d_Words_places
  have p_need := ok_need_words bt (isCB_ok clW (fx 13 _ rfl)) g_Words g_NoWords x_NoWords i_NoWords d_need_words
  have p_aresigns := ok_are_signs (P := PySem.Challenge.rw_termshelf_k08_terms_refused.prog) (w := w) (base := base) bt d_are_signs
  have p_plof := ok_places_of bt p_let clW (He.meth_ok (fx 10 _ rfl)) (He.meth_ok (fx 12 _ rfl)) p_has p_places g_NoSign x_NoSign i_NoSign g_Beyond x_Beyond i_Beyond g_Unended x_Unended i_Unended d_places_of
  have p_ends := ok_ends_of (P := PySem.Challenge.rw_termshelf_k08_terms_refused.prog) (w := w) (base := base) bt d_ends_of
  have p_tsigns := ok_Term_signs (P := PySem.Challenge.rw_termshelf_k08_terms_refused.prog) (w := w) (base := base) bt clT (He.noat_ok (fx 16 _ rfl)) d_Term_signs
  have p_tini := ok_Term_ini bt (He.int_ok X G (fx 26 _ rfl)) clT (He.noat_ok (fx 15 _ rfl)) (He.noat_ok (fx 16 _ rfl)) (He.noat_ok (fx 17 _ rfl)) p_need p_whole p_aresigns p_plof p_ends g_NoNumber x_NoNumber i_NoNumber g_NoSigns x_NoSigns i_NoSigns d_Term___init__
  have p_T0 := promAK_of p_tini 3 [] [("most", .int 100)] (fun us mv ws => us ++ (mv ++ ws)) (by decide) (fun q hq => hq) (fun r1 r2 r3 => r1.append (r2.append r3)) (fun D doc pm an cdv ct us mv ws l1 l2 l3 => match us, l1, mv, l2, ws, l3 with
    | [_, _, _], _, [_], _, [], _ => ⟨_, _, _, _, _, _, rfl, rfl, rfl⟩)
  have p_T1 := promAK_of p_tini 3 ["most"] [] (fun us mv ws => us ++ (mv ++ ws)) (by decide) (fun q hq => by cases hq) (fun r1 r2 r3 => r1.append (r2.append r3)) (fun D doc pm an cdv ct us mv ws l1 l2 l3 => match us, l1, mv, l2, ws, l3 with
    | [_, _, _], _, [], _, [_], _ => rfl)
  have p_caught := ok_caught8 bt (He.mkr_ok (fx 18 _ rfl)) clT (He.meth_ok (fx 19 _ rfl)) g_Term hx g_NoWords g_NoNumber g_NoSigns g_NoSign g_Beyond g_Unended x_NoWords x_NoNumber x_NoSigns x_NoSign x_Beyond x_Unended p_T0 p_T1 p_tsigns d__law_caught
  have p_lletter := ok_law_is_letter (P := PySem.Challenge.rw_termshelf_k08_terms_refused.prog) (w := w) (base := base) bt d__law_is_letter
  have p_due := ok_due bt p_lletter d__law_due
  have p_right := ok_right Y bt p_due p_caught d__law_right
  have p_names := ok_names bt p_take d__law_names
  have p_drows := ok_drows bt p_take p_names d__law_rows
  have p_ltrs := ok_ltrs bt p_take d__law_letters
  have p_signs := ok_signs bt p_take d__law_signs
  have p_other := ok_other8 bt p_take d__law_otherwise
  have p_long := ok_long bt g_Words (He.mkr_ok (fx 9 _ rfl)) p_wini p_right d__law_long_right
  exact ok_law Y bt (He.int_ok X G (fx 27 _ rfl)) (ok_cell bt d__law_cell) (ok_bag bt d__law_box) p_take p_drows p_ltrs p_signs p_other g_Words (He.mkr_ok (fx 9 _ rfl)) p_wini p_right p_caught p_long FL

end TS
open PySem PySem.W PySem.Calls PyProof.Rows
set_option maxHeartbeats 0 in
theorem PySem.Challenge.cw_termshelf_k08_terms_refused_holds : PySem.Challenge.rw_termshelf_k08_terms_refused.Holds := by
  w_on; o_law
  refine HandSHeadRun.head_any (r := OpenLaw.row PySem.Challenge.rw_termshelf_k08_terms_refused) (q := view (OpenLaw.row PySem.Challenge.rw_termshelf_k08_terms_refused).prog [51]) (H := TS.hk) (ob := TS.ob) (M := 6000) (loose := TS.loose) (d := HandSHeadRun.topDef (OpenLaw.row PySem.Challenge.rw_termshelf_k08_terms_refused).prog 51) (kwd := []) TS.obsX_eq
    (by kernel_rfl) (fun s => by kernel_rfl) TS.run (by kernel_rfl) (by kernel_rfl) (by kernel_rfl) (by rfl) (by first | assumption | decide +kernel) (by decide +kernel) ⟨rfl, rfl, rfl, rfl, rfl, by decide +kernel⟩ ?hw ?hc
  case hw => w_witness2
  case hc =>
    refine TS.walkG (l := PySem.Challenge.rw_termshelf_k08_terms_refused) (n := 63) (k := 9) (x := "_law_script") rfl (by decide) (by kernel_rfl) ⟨rfl, by decide, by decide⟩ ?F
    intro w mg fa h Y G hmg0
    obtain ⟨K, KX, c, c1, c2⟩ := Y
    have hmg : mg ("law" : PySem.Str) = some (.ref fa) := by
      have e : (HandSHeadRun.topDef (OpenLaw.row PySem.Challenge.rw_termshelf_k08_terms_refused).prog 51).name = ("law" : PySem.Str) := by kernel_rfl
      rw [← e]
      exact hmg0
    exact ⟨K, TS.facts KX G hmg c c1 c2⟩

