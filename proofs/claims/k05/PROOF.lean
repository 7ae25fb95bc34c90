import PyProof.Rows.All
import Wide.All
import OpenK.AllK
import Wide.FinOn
import KE.KStateDown
import Lean
import HandS.ForMost
import HandS.More
import HandS.WordsExc
import HandS.Defaults
import HandS.IsInst
import HandS.Wide
import HandS.Flow
import HandS.Conv
import HandS.Replace
import HandS.EndBits
import HandS.Head0
import HandS.Head1
import HandS.Head2
import HandS.HeadEnd
import HandS.HeadHook1
import HandS.HeadHook2
import HandS.Walk
import HandS.SetBool
import HandS.SetKeys
import KE.GoesMore
import PyProof.EnumMake
import HandS.ExcInit
import HandS.ExcField
import HandS.ExcOwn
import HandS.ClsMeth
import HandS.DictComp
import HandS.WordsDict
import PyProof.ReprLen
import HandS.MakeKwOnly
import HandS.OwnEq
import HandS.ListItems
import PyProof.InstEq
import PyProof.EqKinds
import PyProof.FactsAll.dict
import KE.KCallOwn
import HandS.FStr
import HandS.IterVal
import HandS.ExcValue
import KE.KExcIs
import PySem.Challenge.RW_termshelf_k05_words_told
set_option Elab.async false
set_option linter.all false
set_option maxRecDepth 100000
/-! ### 1. promises of defs that may show things (repr): no guard runs around -/
namespace TS
open PySem PySem.Spec PyProof.Rows L2
structure FnG (P : Program) (w : World) (K : PySem.W.Frag) (mg : Str → Option Value) (base : Heap) (CX : CXT) (k : Nat) (f : Addr) (fd : FuncData) (ps : List Str) (sp : Sp) : Prop where
  len : ∀ vs H Q E, sp vs H Q E → vs.length = ps.length
  run : ∀ (A : Around) (outer : List Env) (s : Shared) (H : Hp) (args : Args) (us : List Value) (vs : List V) (Q : VK) (E : XK), A.guards = some [] → Room k A → Env0 P w K mg base A outer s H →
    BindsTo s fd args (ps.zip us) → Vals vs us → sp vs H Q E → codeAny (model P w) A (.call (.ref f) args) (CR CX outer P w H s Q E) s
section
variable {P : Program} {w : World} {K : PySem.W.Frag} {mg : Str → Option Value} {base : Heap} {CX : CXT} {k : Nat} {f : Addr} {fd : FuncData} {ps : List Str} {sp : Sp}
theorem FnG.of (F : FnOk P w K mg base CX k f fd ps sp) : FnG P w K mg base CX k f fd ps sp := ⟨F.len, fun A outer s H args us vs Q E _ => F.run A outer s H args us vs Q E⟩
/-- the body's rule, the guards told -/
theorem okG {x qual : Str} {params : Arguments} {body : List Stmt} {scope : Scope} {dvs : List V} {kws : List (Str × V)} {N : List Str} (F : FunD K x qual params body scope dvs kws f fd) (S : FnScope N ps scope)
    (len : ∀ vs H Q E, sp vs H Q E → vs.length = ps.length)
    (hbody : ∀ (cdv : Value) (A : Around) (outer : List Env) (s : Shared) (H : Hp) (vs : List V) (Q : VK) (E : XK), (A.deeper (envOfC qual scope s.heap.objs.size f cdv)).guards = some [] →
      Room k (A.deeper (envOfC qual scope s.heap.objs.size f cdv)) → sp vs H Q E →
      ∃ t, PSs (cxOf CX P w K mg base N qual scope f cdv A outer s H E) body t ∧ t { nx := fun _ H' => Q .non H', rt := Q } (start N vs) H) : FnG P w K mg base CX (k + 1) f fd ps sp := by
  obtain ⟨oc, od, dV, kV, doc, pm, an, cdv, ct, osl, rfl, lk, hcd, _, _⟩ := F.ex
  refine ⟨len, fun A outer s H args us vs Q E hg hr e0 hb r hsp => ?_⟩
  have KX : K.In s.heap := e0.mod.kin.keeps fun b o e => (e0.bs b o e).1
  have NL : s.heap.NoLimit := e0.mod.nolimit.keeps fun b o e => (e0.bs b o e).1
  have kinds : ∀ y ∈ ps.zip us, scope.names.lookup y.1 = some .local ∨ (scope.names.lookup y.1 = some .cell ∧ ((cellsFrom (s.heap.objs.size + 1) scope.names []).lookup y.1).isSome = true) := by
    rintro ⟨n, v⟩ hy
    exact (S.par n (List.of_mem_zip hy).1).imp id fun q => ⟨q, PySem.W.cellsFrom_some _ _ _ (.inl q)⟩
  refine codeAny_call_function hr.depth (KX _ _ lk) rfl S.co S.gen rfl (PySem.W.codeRec_of KX hcd) (hb _ _ _ _ (wpAny_newFunctionEnv_cells S.kind kinds fun env he s1 x => ?_))
  subst he
  obtain ⟨t, ht, hq⟩ := hbody cdv A outer s H vs Q E hg (hr.deeper _) hsp
  have I0 := inv_start (CX := CX) (E := E) (f := f) (cd := cdv) (qual := qual) S hr.hd e0 (len _ _ _ _ hsp) r x
  refine ⟨NL.keeps x.toInCall.keep, codeAny_func (wpAny_mono (ht.run [] s1 (start N vs) H _ I0 hq) (fun fl s' hs => ?_) fun _ _ z => z)⟩
  cases fl with
  | ret u => exact let ⟨v, _, H', J, rv, q⟩ := hs; ⟨v, H', J.os, J.bare, J.base, J.hok, rv, q⟩
  | next => exact let ⟨_, H', J, q⟩ := hs; ⟨V.non, H', J.os, J.bare, J.base, J.hok, rfl, q⟩
  | brk => exact let ⟨_, _, _, q⟩ := hs; False.elim q
  | cont => exact let ⟨_, _, _, q⟩ := hs; False.elim q
end
section
variable {X : Cx} {CX : CXT} {k : Nat} {f C : Addr} {fd : FuncData} {ps : List Str} {sp : Sp} {dvs : List V} {ds : List Value} {E : XK} {x m : Str} {p pos apos : Pos} {e o : Expr} {es : List Expr} {ta : TE} {t : TA}
theorem run_G {pins : List (Addr × Obj)} {σ : L2.St} {H : Hp} {s : Shared} {Q : VK} {us : List Value} {vs : List V} (F : FnG X.prog X.w X.K X.mg X.base CX k f fd ps sp) (hgd : X.A.guards = some []) (hr : Room k X.A)
    (hb : Binds X.K fd ps ds) (hd : Vals dvs ds) (hx : Passes CX X E) (I : Inv X pins σ H s) (r : Vals vs us) (h : sp (vs ++ dvs) H Q E) : wpAny (model X.prog X.w) X.A (call (.ref f) us) (EP X pins σ Q) X.xe s := by
  have r2 := r.append hd
  have hl : (us ++ ds).length = ps.length := r2.length.symm.trans (F.len _ _ _ _ h)
  refine wpAny_call (codeAny_mono (F.run X.A X.stack s H ⟨us, []⟩ (us ++ ds) (vs ++ dvs) Q E hgd hr I.env0 (hb s us I.kIn hl) r2 h) fun r s' hq => ?_)
  match r, hq with
  | .error e, hq => exact hx pins σ H s e s' I hq
  | .ok (.ret u), hq => exact I.after hq
theorem pe_callG (F : FnG X.prog X.w X.K X.mg X.base CX k f fd ps sp) (hgd : X.A.guards = some []) (hr : Room k X.A) (hg : Gl X x) (hm : X.mg x = some (.ref f)) (hk : PySem.W.keepIn X.K (.ref f) = true)
    (hb : Binds X.K fd ps ds) (hd : Vals dvs ds) (hx : Passes CX X E) (ha : PA X (e :: es) t) (hdb : (x == ("__debug__" : Str)) = false := by decide)
    (he : starEach (e :: es) X.env = (false, eval e X.env) :: starEach es X.env := by rfl) (hpl : (backTo pos (starEach es X.env)).any (·.1) = false := by rfl) :
    PE X (.Call (.Name x p) (e :: es) [] pos) (tCall sp dvs E t) := by
  refine ⟨fun pins s σ H Q I h => wpAny_Call_Name_kw (ld_glob I hg hm ?_ hdb)⟩
  exact PySem.W.callWith_K (h₀ := X.base) I.ok.mod.kin hk (thn (ha.run pos pins s σ H _ I h) fun us s1 ⟨vs, H1, I1, r, q⟩ => ⟨I1.kIn, run_G F hgd hr hb hd hx I1 r q⟩) he hpl
end

/-! ### 2. data at any depth, dicts too, and how they are shown -/
def kD : Key → PyData
  | .inl i => .int i
  | .inr x => .str x
mutual
inductive Dt (K : PySem.W.Frag) (H : Hp) : V → PyData → Prop
  | non : Dt K H .non .none
  | bl (b : Bool) : Dt K H (.bl b) (.bool b)
  | int (i : Int) : Dt K H (.int i) (.int i)
  | str (x : Str) : Dt K H (.str x) (.str x)
  | lst {a : Addr} {xs : List V} {ds : List PyData} : SqL K H a xs → DtAll K H xs ds → Dt K H (.ref a) (.list ds)
  | tup {a : Addr} {xs : List V} {ds : List PyData} : SqT K H a xs → DtAll K H xs ds → Dt K H (.ref a) (.tuple ds)
  | dct {a : Addr} {ks : List Key} {xs : List V} {ds : List PyData} : H a = some (.dK (ks.zip xs)) → ks.length = xs.length → DtAll K H xs ds → Dt K H (.ref a) (.dict ((ks.map kD).zip ds))
inductive DtAll (K : PySem.W.Frag) (H : Hp) : List V → List PyData → Prop
  | nil : DtAll K H [] []
  | cons {v : V} {vs : List V} {d : PyData} {ds : List PyData} : Dt K H v d → DtAll K H vs ds → DtAll K H (v :: vs) (d :: ds)
end
theorem DtAll.length {K : PySem.W.Frag} {H : Hp} : ∀ {vs : List V} {ds : List PyData}, DtAll K H vs ds → vs.length = ds.length
  | _, _, .nil => rfl
  | _, _, .cons _ t => congrArg (· + 1) (DtAll.length t)
theorem SqT.same {K : PySem.W.Frag} {H H' : Hp} {a : Addr} {xs : List V} (e : Same H H') (h : SqT K H a xs) : SqT K H' a xs := by
  rcases h with (h | ⟨o, h⟩) | h
  · exact .inl (.inl (e _ _ h))
  · exact .inl (.inr ⟨o, e _ _ h⟩)
  · exact .inr h
mutual
theorem Dt.same {K : PySem.W.Frag} {H H' : Hp} (e : Same H H') : ∀ {v : V} {d : PyData}, Dt K H v d → Dt K H' v d
  | _, _, .non => .non
  | _, _, .bl b => .bl b
  | _, _, .int i => .int i
  | _, _, .str x => .str x
  | _, _, .lst h a => .lst (e.seq h) (DtAll.same e a)
  | _, _, .tup h a => .tup (SqT.same e h) (DtAll.same e a)
  | _, _, .dct h l a => .dct (e _ _ h) l (DtAll.same e a)
theorem DtAll.same {K : PySem.W.Frag} {H H' : Hp} (e : Same H H') : ∀ {v : List V} {d : List PyData}, DtAll K H v d → DtAll K H' v d
  | _, _, .nil => .nil
  | _, _, .cons a b => .cons (Dt.same e a) (DtAll.same e b)
end
/-- what the written part tells of the machine's own objects -/
structure Sys (K : PySem.W.Frag) : Prop where
  mods : ∃ o, K.lookup sysModules = some o ∧ o.cls = .type "dict"
  book : PySem.W.nsIn K cStatics sharingNotToldKey = some none
section
variable {X : Cx} {pins : List (Addr × Obj)} {σ : L2.St} {H : Hp} {s : Shared}
theorem noMods (Y : Sys X.K) (I : Inv X pins σ H s) {a : Addr} {o : Obj} (e : s.heap.get? a = some o) (h : o.cls ≠ .type "dict") : sysModules ≠ a := fun z => by
  obtain ⟨o', h1, h2⟩ := Y.mods
  have q := I.kIn _ _ h1
  rw [z, e] at q
  cases q
  exact h h2
theorem keys_read : ∀ {es : List DictEntry} {vs : List (Key × Value)}, Pairs (mixKind X.prog X.w) es vs → ReadsAll s.heap (es.map (·.key)) (vs.map fun kv => kD kv.1) []
  | _, _, .nil => .nil
  | _, _, .cons hk hv t => by
    have q := keys_read t
    rcases keyIs_shape hk with ⟨i, t, e1, e2⟩ | ⟨x, t, e1, e2⟩
    · rw [List.map_cons, List.map_cons, e2]
      show ReadsAll s.heap _ (kD _ :: _) _
      rw [e1]
      exact ReadsAll.cons (as := []) (Reads.int i t) q
    · rw [List.map_cons, List.map_cons, e2]
      show ReadsAll s.heap _ (kD _ :: _) _
      rw [e1]
      exact ReadsAll.cons (as := []) (Reads.str x t) q
theorem vals_read : ∀ {es : List DictEntry} {vs : List (Key × Value)}, Pairs (mixKind X.prog X.w) es vs → es.map (·.val) = vs.map (·.2)
  | _, _, .nil => rfl
  | _, _, .cons _ hv t => by rw [List.map_cons, List.map_cons, hv, vals_read t]
theorem kv_fst {κ : Type} : ∀ {kvs : List (κ × V)} {vs : List (κ × Value)}, KV kvs vs → kvs.map (·.1) = vs.map (·.1)
  | _, _, .nil => rfl
  | _, _, .cons r t => by rw [List.map_cons, List.map_cons, r.1, kv_fst t]
theorem kv_snd {κ : Type} : ∀ {kvs : List (κ × V)} {vs : List (κ × Value)}, KV kvs vs → Vals (kvs.map (·.2)) (vs.map (·.2))
  | _, _, .nil => .nil
  | _, _, .cons r t => .cons r.2 (kv_snd t)
theorem zip_fst {α β : Type} : ∀ {l : List α} {m : List β}, l.length = m.length → (l.zip m).map (·.1) = l
  | [], _, _ => by simp
  | a :: l, [], h => by simp at h
  | a :: l, b :: m, h => by
    rw [List.zip_cons_cons, List.map_cons, zip_fst (by simpa using h)]
theorem zip_snd {α β : Type} : ∀ {l : List α} {m : List β}, l.length = m.length → (l.zip m).map (·.2) = m
  | [], m, h => by cases m <;> simp_all
  | a :: l, [], h => by simp
  | a :: l, b :: m, h => by
    rw [List.zip_cons_cons, List.map_cons, zip_snd (by simpa using h)]
mutual
theorem Dt.reads (Y : Sys X.K) (I : Inv X pins σ H s) : ∀ {v : V} {d : PyData} {u : Value}, Dt X.K H v d → RelV v u → ∃ as, Reads s.heap u d as ∧ sysModules ∉ as
  | _, _, _, .non, r => by
    cases r
    exact ⟨_, Reads.none, by simp⟩
  | _, _, _, .bl b, r => by
    cases r
    exact ⟨_, Reads.bool b, by simp⟩
  | _, _, _, .int i, r => by
    obtain ⟨t, rfl⟩ := r
    exact ⟨_, Reads.int i t, by simp⟩
  | _, _, _, .str x, r => by
    obtain ⟨t, rfl⟩ := r
    exact ⟨_, Reads.str x t, by simp⟩
  | _, _, _, .lst hs ha, r => by
    cases r
    obtain ⟨its, rv, ⟨o, n, ho, hc, _, hd⟩, _⟩ := I.list hs
    obtain ⟨as, hr, hn⟩ := DtAll.reads Y I ha rv
    have ne := noMods Y I ho (by rw [hc]; decide +kernel)
    exact ⟨_, Reads.list ho hc hd hr, fun z => (List.mem_cons.mp z).elim ne hn⟩
  | _, _, _, .tup hs ha, r => by
    cases r
    obtain ⟨its, rv, ⟨o, ho, hc, n, hd⟩, _⟩ := I.tuple hs
    obtain ⟨as, hr, hn⟩ := DtAll.reads Y I ha rv
    exact ⟨_, Reads.tuple ho hc hd hr, hn⟩
  | _, _, _, .dct (a := a) (ks := ks) (xs := xs) (ds := ds) h l ha, r => by
    cases r
    obtain ⟨hz, hS, vs, rk, o, es, ep, ho, hx, hd, _, hp, _⟩ := (show ObjOk X.prog X.w H s.heap a (.dK (ks.zip xs)) from I.hok a _ h)
    have e1 := (kv_fst rk).symm.trans (zip_fst l)
    have e2 := kv_snd rk
    rw [zip_snd l] at e2
    obtain ⟨as, hr, hn⟩ := DtAll.reads Y I ha e2
    have q1 : ReadsAll s.heap (es.toList.map (·.key)) (ks.map kD) [] := by
      have z := keys_read (s := s) hp
      have z2 : vs.map (fun kv => kD kv.1) = ks.map kD := by rw [← e1, List.map_map]; rfl
      rw [z2] at z
      exact z
    have ln : (ks.map kD).length = ds.length := by rw [List.length_map, l, ha.length]
    have q2 := vals_read hp
    refine ⟨a :: [] ++ as, Reads.dict ho hx.1 hd (by rw [zip_fst ln]; exact q1) (by rw [zip_snd ln, q2]; exact hr), fun z => ?_⟩
    rcases List.mem_cons.mp (show sysModules ∈ a :: as from z) with z | z
    · exact absurd z.symm (by simpa using hS)
    · exact hn z
theorem DtAll.reads (Y : Sys X.K) (I : Inv X pins σ H s) : ∀ {vs : List V} {ds : List PyData} {us : List Value}, DtAll X.K H vs ds → Vals vs us → ∃ as, ReadsAll s.heap us ds as ∧ sysModules ∉ as
  | _, _, _, .nil, r => by
    cases r
    exact ⟨_, ReadsAll.nil, by simp⟩
  | _, _, _, .cons h1 h2, r => by
    cases r with
    | cons r1 r2 =>
      obtain ⟨as, q1, n1⟩ := Dt.reads Y I h1 r1
      obtain ⟨bs, q2, n2⟩ := DtAll.reads Y I h2 r2
      exact ⟨_, ReadsAll.cons q1 q2, fun z => (List.mem_append.mp z).elim n1 n2⟩
end
/-- repr(x), x data -/
def rRepr (K : PySem.W.Frag) : List V → Hp → VK → Prop := fun xs H Q => ∃ x d, xs = [x] ∧ Dt K H x d ∧ d.showable = true ∧ d.depth ≤ 40 ∧ d.shown.length ≤ sizeLine ∧ Q (.str d.shown) H
theorem call_repr (Y : Sys X.K) (hgd : X.A.guards = some []) (hu : X.A.units + 64 < cLine) : CallR X (.builtin "repr") (rRepr X.K) := by
  intro pins s σ H xs us Q I r h
  obtain ⟨x, d, rfl, hd, hs, hp, hz, q⟩ := h
  obtain ⟨u, rfl, r1⟩ := vals1 r
  obtain ⟨as, rd, hn⟩ := Dt.reads Y I hd r1
  have fin : ∀ h' v tk, (∀ b o, s.heap.get? b = some o → h'.get? b = some o) → EP X pins σ Q (.str d.shown v) { s with heap := h', toks := tk } := fun h' v tk hk => ⟨.str d.shown, H, I.kept hk, ⟨_, rfl⟩, q⟩
  cases hd with
  | non => cases r1; exact PySem.P.repr_of_none (fin _ _ _ fun _ _ z => z)
  | bl b => cases r1; exact PySem.P.repr_of_bool (fin _ _ _ fun _ _ z => z)
  | int i =>
    obtain ⟨t, rfl⟩ := r1
    exact PySem.P.repr_of_int (by simpa [PyData.showable] using hs) (fin _ _ _ fun _ _ z => z)
  | str y =>
    obtain ⟨t, rfl⟩ := r1
    exact PySem.P.repr_of_str (fin _ _ _ fun _ _ z => z) hz
  | lst h1 h2 => cases r1; exact repr_of_reads' rd hs (fun _ => hn) hgd (by omega) (fun _ _ e => e) fin hz
  | tup h1 h2 => cases r1; exact repr_of_reads' rd hs (fun _ => hn) hgd (by omega) (fun _ _ e => e) fin hz
  | dct h1 h2 h3 => cases r1; exact repr_of_reads' rd hs (fun _ => hn) hgd (by omega) (fun _ _ e => e) fin hz
theorem ns_none {K : PySem.W.Frag} {h : Heap} {a : Addr} {m : Str → Option Value} {n : Str} (X : K.In h) (G : h.Ns a m) (e : PySem.W.nsIn K a n = some none) : m n = none := by
  obtain ⟨o, es, ep, ho, hd, _, hf⟩ := G
  unfold PySem.W.nsIn at e
  split at e
  · rename_i c d es' n' sl q
    have z := X _ _ q
    rw [ho] at z
    cases z
    cases hd
    split at e
    · cases e
    · rename_i he
      rw [← hf]
      unfold nsFind findBy
      rw [← Array.find?_toList, he]
      rfl
  · cases e
theorem unbooked (Y : Sys X.K) (I : Inv X pins σ H s) : NoneBooked s.heap := by
  obtain ⟨mc, h1, h2⟩ := I.nolimit
  exact ⟨mc, h1, ns_none I.kIn h1 Y.book⟩
end
end TS

/-! ### 3. defs by their promises -/
namespace TS
open PySem PySem.Spec PyProof.Rows L2
def Def (K : PySem.W.Frag) (mg : Str → Option Value) (x : Str) (st : Stmt) : Prop := ∃ f fd, FunD K x x (defArgs st) (defBody st) (defScope st) [] [] f fd ∧ mg x = some (.ref f)
def Prom (P : Program) (w : World) (K : PySem.W.Frag) (mg : Str → Option Value) (base : Heap) (k : Nat) (x : Str) (ps : List Str) (sp : Sp) : Prop :=
  ∃ f fd, FnOk P w K mg base CX0 k f fd ps sp ∧ mg x = some (.ref f) ∧ PySem.W.keepIn K (.ref f) = true ∧ Binds K fd ps []
def PromG (P : Program) (w : World) (K : PySem.W.Frag) (mg : Str → Option Value) (base : Heap) (k : Nat) (x : Str) (ps : List Str) (sp : Sp) : Prop :=
  ∃ f fd, FnG P w K mg base CX0 k f fd ps sp ∧ mg x = some (.ref f) ∧ PySem.W.keepIn K (.ref f) = true ∧ Binds K fd ps []
section
variable {X : Cx} {k : Nat} {ps : List Str} {sp : Sp} {x : Str} {p pos : Pos} {e : Expr} {es : List Expr} {t : TA}
theorem pe_pc (pr : Prom X.prog X.w X.K X.mg X.base k x ps sp) (hr : Room k X.A) (hg : Gl X x) (ha : PA X (e :: es) t) (hdb : (x == ("__debug__" : Str)) = false := by decide)
    (he : starEach (e :: es) X.env = (false, eval e X.env) :: starEach es X.env := by rfl) (hpl : (backTo pos (starEach es X.env)).any (·.1) = false := by rfl) :
    PE X (.Call (.Name x p) (e :: es) [] pos) (tCall sp [] E0 t) := by
  obtain ⟨f, fd, F, m, kp, b⟩ := pr
  exact pe_call F hr hg m kp b .nil pass0 ha hdb he hpl
theorem pe_pcG (pr : PromG X.prog X.w X.K X.mg X.base k x ps sp) (hgd : X.A.guards = some []) (hr : Room k X.A) (hg : Gl X x) (ha : PA X (e :: es) t) (hdb : (x == ("__debug__" : Str)) = false := by decide)
    (he : starEach (e :: es) X.env = (false, eval e X.env) :: starEach es X.env := by rfl) (hpl : (backTo pos (starEach es X.env)).any (·.1) = false := by rfl) :
    PE X (.Call (.Name x p) (e :: es) [] pos) (tCall sp [] E0 t) := by
  obtain ⟨f, fd, F, m, kp, b⟩ := pr
  exact pe_callG F hgd hr hg m kp b .nil pass0 ha hdb he hpl
end
section
variable {P : Program} {w : World} {K : PySem.W.Frag} {mg : Str → Option Value} {base : Heap} {N ps : List Str} {k : Nat} {sp : Sp} {x : Str} {st : Stmt}
theorem prom_mk (D : Def K mg x st) (S : FnScope N ps (defScope st)) (len : ∀ vs H Q E, sp vs H Q E → vs.length = ps.length)
    (hb : ∀ (kV doc pm : Value) (an : Option Addr) (cdv ct : Value) (us : List Value), us.length = ps.length → bindArgs (PySem.W.fnOf x x (defArgs st) (defBody st) (defScope st) .none kV doc pm an cdv ct) ⟨us, []⟩ = pure (ps.zip us))
    (body : ∀ (f : Addr) (cdv : Value) (A : Around) (outer : List Env) (s : Shared) (H : Hp) (vs : List V) (Q : VK) (E : XK), Room k (A.deeper (envOfC x (defScope st) s.heap.objs.size f cdv)) → sp vs H Q E →
      ∃ t, PSs (cxOf CX0 P w K mg base N x (defScope st) f cdv A outer s H E).nox (defBody st) t ∧ t { nx := fun _ H' => Q .non H', rt := Q } (start N vs) H) : Prom P w K mg base (k + 1) x ps sp := by
  obtain ⟨f, fd, F, m⟩ := D
  refine ⟨f, fd, F.ok S len fun cdv A outer s H vs Q E hr h => ?_, m, F.kp, F.bindsN hb⟩
  obtain ⟨t, h1, h2⟩ := body f cdv A outer s H vs Q E hr h
  exact ⟨t, h1.nox, h2⟩
theorem promG_mk (D : Def K mg x st) (S : FnScope N ps (defScope st)) (len : ∀ vs H Q E, sp vs H Q E → vs.length = ps.length)
    (hb : ∀ (kV doc pm : Value) (an : Option Addr) (cdv ct : Value) (us : List Value), us.length = ps.length → bindArgs (PySem.W.fnOf x x (defArgs st) (defBody st) (defScope st) .none kV doc pm an cdv ct) ⟨us, []⟩ = pure (ps.zip us))
    (body : ∀ (f : Addr) (cdv : Value) (A : Around) (outer : List Env) (s : Shared) (H : Hp) (vs : List V) (Q : VK) (E : XK), (A.deeper (envOfC x (defScope st) s.heap.objs.size f cdv)).guards = some [] →
      Room k (A.deeper (envOfC x (defScope st) s.heap.objs.size f cdv)) → sp vs H Q E →
      ∃ t, PSs (cxOf CX0 P w K mg base N x (defScope st) f cdv A outer s H E).nox (defBody st) t ∧ t { nx := fun _ H' => Q .non H', rt := Q } (start N vs) H) : PromG P w K mg base (k + 1) x ps sp := by
  obtain ⟨f, fd, F, m⟩ := D
  refine ⟨f, fd, okG F S len fun cdv A outer s H vs Q E hg hr h => ?_, m, F.kp, F.bindsN hb⟩
  obtain ⟨t, h1, h2⟩ := body f cdv A outer s H vs Q E hg hr h
  exact ⟨t, h1.nox, h2⟩
end
section
variable {P : Program} {w : World} {K : PySem.W.Frag} {mg : Str → Option Value} {base : Heap} {N ps : List Str} {k : Nat} {sp : Sp} {x : Str} {st : Stmt} {f : Addr} {fd : FuncData}
theorem fnG_mk (F : FunD K x x (defArgs st) (defBody st) (defScope st) [] [] f fd) (S : FnScope N ps (defScope st)) (len : ∀ vs H Q E, sp vs H Q E → vs.length = ps.length)
    (body : ∀ (f : Addr) (cdv : Value) (A : Around) (outer : List Env) (s : Shared) (H : Hp) (vs : List V) (Q : VK) (E : XK), (A.deeper (envOfC x (defScope st) s.heap.objs.size f cdv)).guards = some [] →
      Room k (A.deeper (envOfC x (defScope st) s.heap.objs.size f cdv)) → sp vs H Q E →
      ∃ t, PSs (cxOf CX0 P w K mg base N x (defScope st) f cdv A outer s H E).nox (defBody st) t ∧ t { nx := fun _ H' => Q .non H', rt := Q } (start N vs) H) : FnG P w K mg base CX0 (k + 1) f fd ps sp := by
  refine okG F S len fun cdv A outer s H vs Q E hg hr h => ?_
  obtain ⟨t, h1, h2⟩ := body f cdv A outer s H vs Q E hg hr h
  exact ⟨t, h1.nox, h2⟩
end
/-- the built-in names that the text leaves alone -/
structure Bt (mg : Str → Option Value) : Prop where
  len_ : mg "len" = none
  isinstance_ : mg "isinstance" = none
  range_ : mg "range" = none
  max_ : mg "max" = none
  min_ : mg "min" = none
  int_ : mg "int" = none
  str_ : mg "str" = none
  bool_ : mg "bool" = none
  repr_ : mg "repr" = none
  all_ : mg "all" = none
  any_ : mg "any" = none
  list_ : mg "list" = none
  tuple_ : mg "tuple" = none
  dict_ : mg "dict" = none
  set_ : mg "set" = none
  sorted_ : mg "sorted" = none
  enumerate_ : mg "enumerate" = none
  zip_ : mg "zip" = none
  reversed_ : mg "reversed" = none
def btNames : List Str := ["len", "isinstance", "range", "max", "min", "int", "str", "bool", "repr", "all", "any", "list", "tuple", "dict", "set", "sorted", "enumerate", "zip", "reversed"]
theorem bt_of {K : PySem.W.Frag} {h : Heap} {mg : Str → Option Value} (X : K.In h) (G : h.Ns mainGlobals mg) (c : btNames.all (fun x => (He.Fa.free x).ok K) = true) : Bt mg := by
  have z : ∀ x ∈ btNames, mg x = none := fun x hx => He.free_ok X G (List.all_eq_true.mp c x hx)
  refine ⟨z _ ?_, z _ ?_, z _ ?_, z _ ?_, z _ ?_, z _ ?_, z _ ?_, z _ ?_, z _ ?_, z _ ?_, z _ ?_, z _ ?_, z _ ?_, z _ ?_, z _ ?_, z _ ?_, z _ ?_, z _ ?_, z _ ?_⟩ <;> decide +kernel

/-! ### 4. heaps: what is kept but for one object -/
def Fx (b : Addr) (H H' : Hp) : Prop := ∀ a o, a ≠ b → H a = some o → H' a = some o
def hide (H : Hp) (b : Addr) : Hp := fun a => if a = b then none else H a
theorem hide_self {H : Hp} {b : Addr} : hide H b b = none := by unfold hide; rw [if_pos rfl]
theorem hide_ne {H : Hp} {a b : Addr} (h : a ≠ b) : hide H b a = H a := by unfold hide; rw [if_neg h]
theorem hide_same {H : Hp} {b : Addr} : Same (hide H b) H := fun a o e => by
  unfold hide at e
  split at e
  · cases e
  · exact e
theorem Fx.refl (b : Addr) (H : Hp) : Fx b H H := fun _ _ _ e => e
theorem Fx.trans {b : Addr} {H H1 H2 : Hp} (x : Fx b H H1) (y : Fx b H1 H2) : Fx b H H2 := fun a o h e => y a o h (x a o h e)
theorem Fx.of {b : Addr} {H H' : Hp} (s : Same H H') : Fx b H H' := fun a o _ e => s a o e
theorem Fx.upd {b : Addr} {H H' : Hp} {o : HO} (x : Fx b H H') : Fx b H (upd H' b o) := fun a u h e => by
  rw [upd_ne h]
  exact x a u h e
theorem Fx.new {b p : Addr} {H H' : Hp} {o : HO} (x : Fx b H H') (h : H' p = none) : Fx b H (L2.upd H' p o) := fun a u ha e => by
  have q := x a u ha e
  rw [upd_ne (ne_of_none q h)]
  exact q
theorem Fx.hide {b : Addr} {H H' : Hp} (x : Fx b H H') : Same (hide H b) (hide H' b) := fun a o e => by
  have h : a ≠ b := fun z => by rw [z, hide_self] at e; cases e
  rw [hide_ne h] at e ⊢
  exact x a o h e
theorem Fx.sq {K : PySem.W.Frag} {b a : Addr} {H H' : Hp} {xs : List V} (x : Fx b H H') (h : a ≠ b) (s : SqL K H a xs) : SqL K H' a xs := by
  rcases s with (q | ⟨o, q⟩) | q
  · exact .inl (.inl (x _ _ h q))
  · exact .inl (.inr ⟨o, x _ _ h q⟩)
  · exact .inr q
theorem Same.new {H H' : Hp} {p : Addr} {o : HO} (s : Same H H') (h : H' p = none) : Same H (L2.upd H' p o) := fun a u e => by
  have q := s a u e
  rw [upd_ne (ne_of_none q h)]
  exact q
theorem sq_hide {K : PySem.W.Frag} {H : Hp} {a b : Addr} {xs : List V} (h : a ≠ b) (s : SqL K H a xs) : SqL K (hide H b) a xs := by
  rcases s with (q | ⟨o, q⟩) | q
  · exact .inl (.inl (by rw [hide_ne h]; exact q))
  · exact .inl (.inr ⟨o, by rw [hide_ne h]; exact q⟩)
  · exact .inr q
/-! ### 5. bags of draws -/
def Bag (n : Nat) (o : HO) : Prop := ∃ x y z : Int, o = .lst [.int x, .int y, .int z] ∧ 0 ≤ x ∧ 0 ≤ y ∧ y < 2147483629 ∧ 0 ≤ z ∧ z + n ≤ 1000000000
theorem Bag.mono {m n : Nat} {o : HO} (h : Bag n o) (l : m ≤ n) : Bag m o := let ⟨x, y, z, e, a, b, c, d, f⟩ := h; ⟨x, y, z, e, a, b, c, d, by omega⟩
theorem Bag.is {n : Nat} {o : HO} (h : Bag n o) : ∃ xs, o = .lst xs := let ⟨_, _, _, e, _⟩ := h; ⟨_, e⟩
/-- a cell of the script, or a number of its own -/
def spCell (K : PySem.W.Frag) : Sp := fun vs H Q _ => ∃ (a : Addr) (ns : List Int) (k : Nat), vs = [.ref a, .int k] ∧ SqL K H a (ns.map V.int) ∧ k ≤ 100 ∧ ∀ c, Q (.int c) H
def spBag : Sp := fun vs H Q _ => ∃ c : Int, vs = [.int c] ∧ ∀ p o, H p = none → Bag 900000000 o → Q (.ref p) (upd H p o)
/-- a draw below many -/
def spTake : Sp := fun vs H Q _ => ∃ (b : Addr) (o : HO) (n : Nat) (many : Int), vs = [.ref b, .int many] ∧ H b = some o ∧ Bag (n + 1) o ∧ 0 < many ∧ many < 2 ^ 200 ∧
  ∀ (d : Int) (o' : HO), 0 ≤ d → d < many → Bag n o' → Q (.int d) (upd H b o')
/-! ### 6. rules whose readings name K itself (for blocks) -/
def rLenK (K : PySem.W.Frag) : List V → Hp → VK → Prop := fun xs H Q => ∃ x n, xs = [x] ∧ LenV K x H n ∧ Q (.int n) H
def rListOf (K : PySem.W.Frag) : List V → Hp → VK → Prop := fun xs H Q => ∃ p ys, xs = [.ref p] ∧ (SqL K H p ys ∨ SqT K H p ys) ∧ ∀ l, H l = none → Q (.ref l) (upd H l (.lst ys))
def rTupleOf (K : PySem.W.Frag) : List V → Hp → VK → Prop := fun xs H Q => ∃ p ys, xs = [.ref p] ∧ ((SqL K H p ys ∧ ∀ l, H l = none → Q (.ref l) (upd H l (.tup ys))) ∨ (SqT K H p ys ∧ Q (.ref p) H))
def rJoin (K : PySem.W.Frag) : V → List V → Hp → VK → Prop := fun x xs H Q => ∃ a p, ∃ ys : List Str, x = .str a ∧ xs = [.ref p] ∧ (SqL K H p (ys.map V.str) ∨ SqT K H p (ys.map V.str)) ∧
  (ys.map (·.length)).sum + ys.length * a.length ≤ 16777216 ∧ Q (.str (Txt.join a ys)) H
section
variable {X : Cx} {K : PySem.W.Frag}
theorem ix_listK (hK : X.K = K := by rfl) : IxR X (rIxL K) := by subst hK; exact ix_list
theorem ix_tupK (hK : X.K = K := by rfl) : IxR X (rIxT K) := by subst hK; exact ix_tup
theorem sl_listK (hK : X.K = K := by rfl) : SlR X (rSlL K) := by subst hK; exact sl_list
theorem lenK (hK : X.K = K := by rfl) : CallR X (.builtin "len") (rLenK K) := by subst hK; exact call_len
theorem isiK (hK : X.K = K := by rfl) : CallR X (.builtin "isinstance") (rIsi K) := by subst hK; exact call_isi
theorem isiTK (hK : X.K = K := by rfl) : CallR X (.builtin "isinstance") (rIsiT K) := by subst hK; exact call_isiT
theorem allK (hc : X.calm = true) (hK : X.K = K := by rfl) : CallR X (.builtin "all") (rAll K) := by subst hK; exact cr_all hc
theorem listK (hK : X.K = K := by rfl) : CallR X (.type "list") (rListOf K) := by subst hK; exact call_list_of
theorem tupleK (hK : X.K = K := by rfl) : CallR X (.type "tuple") (rTupleOf K) := by subst hK; exact call_tuple_of
theorem reprK (Y : Sys K) (hgd : X.A.guards = some []) (hu : X.A.units + 64 < cLine) (hK : X.K = K := by rfl) : CallR X (.builtin "repr") (rRepr K) := by subst hK; exact call_repr Y hgd hu
theorem op_inK (hK : X.K = K := by rfl) : OpR X (compareOp .In) (rIn K false) := by subst hK; exact op_in_seq
theorem op_notInK (hK : X.K = K := by rfl) : OpR X (compareOp .NotIn) (rIn K true) := by subst hK; exact op_notIn_seq
theorem op_eqDK (hu : X.A.units + 64 < cLine) (hK : X.K = K := by rfl) : OpR X (compareOp .Eq) (rEqD K) := by subst hK; exact op_eqD hu
theorem op_neDK (hu : X.A.units + 64 < cLine) (hK : X.K = K := by rfl) : OpR X (compareOp .NotEq) (rNeD K) := by subst hK; exact op_neD hu
variable {o e : Expr} {es : List Expr} {to te : TE} {t : TA} {apos cpos : Pos}
theorem pe_joinK (hK : X.K = K) (ho : PE X o to) (he : PE X e te) (hs : starEach [e] X.env = [(false, eval e X.env)] := by rfl) (hbase : attributeBase o "join" X.env (eval o X.env) = eval o X.env := by rfl)
    (hline : (apos.endLine == cpos.line) = true := by rfl) : PE X (.Call (.Attribute o "join" apos) [e] [] cpos) (tM1 (rJoin K) to te) := by
  subst hK
  exact pe_join ho he hs hbase hline
theorem pe_appendK (hK : X.K = K) (ho : PE X o to) (he : PE X e te) (hs : starEach [e] X.env = [(false, eval e X.env)] := by rfl) (hbase : attributeBase o "append" X.env (eval o X.env) = eval o X.env := by rfl)
    (hfew : ((backTo cpos (starEach [e] X.env)).all (fun x => !x.1) && (backToKw cpos (keywordEach [] X.env)).all (fun x => x.1.isSome)
      && decide ([e].length + ([] : List Keyword).length + (if ([] : List Keyword).isEmpty then 0 else 1) < 30)) = true := by rfl)
    (hline : (apos.endLine == cpos.line) = true := by rfl) : PE X (.Call (.Attribute o "append" apos) [e] [] cpos) (tBM K "list" rAppend to (tCons te tNil)) := by
  subst hK
  exact pe_bm PySem.F.plainAttrs_list PySem.F.slot_list_append PySem.F.type_list_append mt_append ho (pa_cons he pa_nil hs) hbase hfew hline hs rfl
theorem pi_listK {tg : Expr} (hK : X.K = K) (hl : PE X e te) : PI X tg e (iList K te) := by subst hK; exact pi_list hl
theorem pi_tupK {tg : Expr} (hK : X.K = K) (hl : PE X e te) : PI X tg e (iTup K te) := by subst hK; exact pi_tup hl
theorem pi_enumK {p pos tpos : Pos} {elts : List Expr} {kk : Nat} (hK : X.K = K) (hg : Gl X "enumerate") (hm : X.mg "enumerate" = none) (ha : PA X [e] t) (hs : starEach [e] X.env = [(false, eval e X.env)] := by rfl) :
    PI X (.Tuple elts kk tpos) (.Call (.Name "enumerate" p) [e] [] pos) (iEnum K t) := by subst hK; exact pi_enum hg hm ha hs
theorem pi_revK {tg : Expr} {p pos : Pos} (hK : X.K = K) (hg : Gl X "reversed") (hm : X.mg "reversed" = none) (ha : PA X [e] t) (hs : starEach [e] X.env = [(false, eval e X.env)] := by rfl) :
    PI X tg (.Call (.Name "reversed" p) [e] [] pos) (iRev K t) := by subst hK; exact pi_reversed hg hm ha hs
end
end TS

/-! ### the end of a law, the guards told; the head's facts by any Bool of the written part -/
namespace TS
open PySem PySem.Spec PyProof.Rows L2
theorem law_callG {P : Program} {w : World} {K : PySem.W.Frag} {mg mb : Str → Option Value} {k : Nat} {fa a : Addr} {fd : FuncData} {x : Str} {sp : Sp} {s₁ : Shared} {vs : List Value} {ns : List Int}
    (KX : K.In s₁.heap) (hns : s₁.heap.Ns mainGlobals mg) (hb : s₁.heap.Ns builtinsNs mb) (hbb : ∀ x : Str, x ≠ "__name__" → mb x = bootBuiltins x) (hlim : s₁.heap.NoLimit) (hg : s₁.gens = #[])
    (ha : s₁.heap.get? a = some { cls := .type "list", data := .seq vs.toArray }) (hi : IntsAre vs ns) (hl : ns.length ≤ sizeLine) (hr : Room k callerA)
    (F : ∀ base : Heap, K.In base → base.Ns mainGlobals mg → FnG P w K mg base CX0 k fa fd [x] sp) (hbind : ∀ (s : Shared) (u : Value), BindsTo s fd ⟨[u], []⟩ [(x, u)])
    (hsp : ∀ H : Hp, Only H → SqL K H a (ns.map V.int) → sp [.ref a] H (fun v _ => v = .bl true) E0) :
    codeAny (model P w) callerA (.call (.ref fa) ⟨[.ref a], []⟩) (fun r s' => r = .ok (.ret (.bool true)) ∧ OldK s₁.heap s'.heap ∧ s'.os = s₁.os ∧ AllBare s'.gens) s₁ := by
  have rv := vals_ints hi
  have lenV := hi.length
  have go : ∀ H : Hp, Only H → SqL K H a (ns.map V.int) → HOk P w H s₁.heap → (∀ b u, H b = some u → b = a ∧ K.lookup a = none) →
      codeAny (model P w) callerA (.call (.ref fa) ⟨[.ref a], []⟩) (fun r s' => r = .ok (.ret (.bool true)) ∧ OldK s₁.heap s'.heap ∧ s'.os = s₁.os ∧ AllBare s'.gens) s₁ := by
    intro H hO hS hok hA
    have free : ∀ {b : Addr} {o : Obj}, s₁.heap.get? b = some o → (∀ n sl, o ≠ ⟨.type "list", none, .seq vs.toArray n, sl⟩ ) → H b = none := fun {b o} e d => by
      cases q : H b with
      | none => rfl
      | some u =>
        obtain ⟨rfl, _⟩ := hA b u q
        rw [ha] at e
        exact absurd (Option.some.inj e).symm (d _ _)
    have nsK : ∀ {b : Addr} {m : Str → Option Value}, s₁.heap.Ns b m → (hidT s₁.heap H).Ns b m := fun {b m} ⟨o, es, ep, e, d, r⟩ =>
      ⟨o, es, ep, hidT_get e (free e fun n sl z => by rw [z] at d; cases d), d, r⟩
    have KB : K.In (hidT s₁.heap H) := fun b o e => hidT_get (KX b o e) (by
      cases q : H b with
      | none => rfl
      | some u =>
        obtain ⟨rfl, z⟩ := hA b u q
        rw [z] at e
        cases e)
    have e0 : Env0 P w K mg (hidT s₁.heap H) callerA [] s₁ H :=
      ⟨rfl, ⟨KB, nsK hns, ⟨mb, nsK hb, hbb⟩, let ⟨mc, h1, h2⟩ := hlim; ⟨mc, nsK h1, h2⟩⟩, fun b o e => of_hidT e, Nat.le_of_eq (hidT_size _ _), trivial, (fun b z => nomatch z), hok, .of_eq hg⟩
    refine codeAny_mono ((F _ KB (nsK hns)).run callerA [] s₁ H ⟨[.ref a], []⟩ [.ref a] [.ref a] _ _ rfl hr e0 (hbind s₁ (.ref a)) (.cons rfl .nil) (hsp H hO hS)) fun r s' h => ?_
    match r, h with
    | .error e, h => exact False.elim h
    | .ok (.ret u), ⟨v, H', os, bare, un, hok', r', q⟩ =>
      obtain rfl : v = .bl true := q
      obtain rfl : u = Value.bool true := r'
      refine ⟨rfl, OldK.of_keep fun b o e => ?_, os, bare⟩
      rcases hO b with z | ⟨ob, xs, z⟩
      · exact un.keep b o e z (fun z => nomatch z) (fun z => nomatch z)
      · obtain ⟨e1, _⟩ := hok b _ z
        obtain ⟨e2, _⟩ := hok' b _ (un.frzs b ob _ z)
        rw [e] at e1
        cases e1
        exact e2
  cases hk : K.lookup a with
  | some o =>
    have e := KX a o hk
    rw [ha] at e
    cases e
    exact go (fun _ => none) (fun _ => .inl rfl) (.inr ⟨_, vs.toArray, _, hk, rfl, rfl, rfl, by rw [List.size_toArray, lenV]; exact hl, by simpa using rv⟩) (fun b u z => nomatch (show (none : Option HO) = some u from z)) (fun b u z => nomatch (show (none : Option HO) = some u from z))
  | none =>
    have one : ∀ {b : Addr} {u : HO}, (if b = a then some (HO.frz { cls := .type "list", data := .seq vs.toArray } (.lst (ns.map V.int))) else none) = some u → b = a ∧ u = .frz { cls := .type "list", data := .seq vs.toArray } (.lst (ns.map V.int)) := fun {b u} z => by
      by_cases hb : b = a
      · rw [if_pos hb] at z
        exact ⟨hb, (Option.some.inj z).symm⟩
      · rw [if_neg hb] at z
        cases z
    refine go (fun b => if b = a then some (.frz { cls := .type "list", data := .seq vs.toArray } (.lst (ns.map V.int))) else none) (fun b => ?_) (.inl (.inr ⟨_, if_pos rfl⟩)) (fun b u z => ?_) (fun b u z => ⟨(one z).1, hk⟩)
    · by_cases hb : b = a
      · exact .inr ⟨_, _, if_pos hb⟩
      · exact .inl (if_neg hb)
    · obtain ⟨rfl, rfl⟩ := one z
      exact ⟨ha, by rw [List.length_map]; exact hl, vs, _, rv, ha⟩
/-- what F gives of the law -/
structure LawAt (l : PySem.W.OpenLaw) (w : World) (mg : Str → Option Value) (k n : Nat) (x : Str) (h : Heap) (fa : Addr) (K : PySem.W.Frag) : Prop where
  kin : K.In h
  fn : ∃ (fd : FuncData) (sp : Sp), (∀ (s : Shared) (u : Value), BindsTo s fd ⟨[u], []⟩ [(x, u)]) ∧
    (∀ (H : Hp) (a : Addr) (ns : List Int), ns.length ≤ n → Only H → SqL K H a (ns.map V.int) → sp [.ref a] H (fun v _ => v = .bl true) E0) ∧
    ∀ base : Heap, K.In base → base.Ns mainGlobals mg → FnG l.prog w K mg base CX0 k fa fd [x] sp
theorem walkG {l : PySem.W.OpenLaw} {n k : Nat} {q : Program} {loose : List Str} {XP : (Str → Option Value) → Heap → Prop} {YP : World → Heap → Prop} {d : DefRec} {x : Str}
    (hn : l.most = some n) (hn2 : n ≤ sizeLine) (hdf : d.params.defaults = []) (hr : Room k callerA)
    (F : ∀ (w : World) (mg : Str → Option Value) (fa : Addr) (h : Heap), YP w h → h.Ns mainGlobals mg → mg d.name = some (.ref fa) → ∃ K, LawAt l w mg k n x h fa K) :
    PySem.W.WalkO q loose XP YP l.row.toRowW d [] (fun f vs => PySem.call f vs) := by
  refine Att.attach_call hn hdf fun w s₀ s₁ mg mb fa o pm cd doc a vs ns G Y ho hd hcd hmg hobj hints hlen hg => ?_
  obtain ⟨K, KX, fd, sp, hb, hsp, hF⟩ := F w mg fa _ Y G.T.g hmg
  exact law_callG KX G.T.g G.T.b G.T.builtins G.T.nolimit hg hobj hints (Nat.le_trans hlen hn2) hr hF hb fun H hO hS => hsp H a ns hlen hO hS
/-! ### the head -/
def asX (g : Addr → Option Obj) : Nat → List Addr
  | 0 => [mainGlobals, cStatics]
  | n + 1 => He.growD g (asX g n)
def frX (n : Nat) (g : Addr → Option Obj) : PySem.W.Frag := He.frG g (asX g n ++ [sysModules])
def obsX (n : Nat) (chk : PySem.W.Frag → Bool) (fn : List He.DefD) (g : Addr → Option Obj) : He.AlD :=
  (chk (frX n g) && fn.all (fun d => d.ok (frX n g)), fn.map fun d => He.fnW (frX n g) d.at_)
def hookX (n : Nat) (chk : PySem.W.Frag → Bool) (fn : List He.DefD) : PySem.W.Hook where
  α := He.AlD
  obs := fun s => obsX n chk fn s.heap.get?
  val := fun _ => (true, fn.map He.DefD.val)
  says := fun _ h => ∃ K : PySem.W.Frag, K.In h ∧ chk K = true ∧ fn.all (fun d => d.ok K) = true ∧ fn.map (fun d => He.fnW K d.at_) = fn.map He.DefD.val
  of := fun _ s e => ⟨_, He.frG_in, (He.ba (congrArg (·.1) e)).1, (He.ba (congrArg (·.1) e)).2, congrArg (·.2) e⟩
  keeps := fun _ _ _ ⟨K, hK, c⟩ k => ⟨K, PySem.W.Frag.In.keeps hK k, c⟩
theorem obsX_eq {n : Nat} {chk : PySem.W.Frag → Bool} {fn : List He.DefD} (s : PySem.W.SharedT) : obsX n chk fn (HandSHeadRun.getT s) = (hookX n chk fn).obs s.abs := by
  have e : HandSHeadRun.getT s = s.abs.heap.get? := funext (HandSHeadRun.getT_eq s)
  show obsX n chk fn (HandSHeadRun.getT s) = obsX n chk fn s.abs.heap.get?
  rw [e]
/-- a def's datum: a top statement -/
def defD (x : Str) (st : Stmt) : He.DefD := ⟨(x, none), x, x, defArgs st, defBody st, defScope st, [], []⟩
theorem def_of {K : PySem.W.Frag} {h : Heap} {mg : Str → Option Value} {fn : List He.DefD} (X : K.In h) (G : h.Ns mainGlobals mg) (c1 : fn.all (fun d => d.ok K) = true) (c2 : fn.map (fun d => He.fnW K d.at_) = fn.map He.DefD.val)
    {x : Str} {st : Stmt} (i : Nat) (hi : fn[i]? = some (defD x st)) (hg : (He.Fa.glo x).ok K = true) : Def K mg x st := by
  have e1 : He.fnW K (defD x st).at_ = (defD x st).val := by
    have h1 := congrArg (·[i]?) c2
    simp only [List.getElem?_map, hi, Option.map_some] at h1
    exact Option.some.inj h1
  obtain ⟨fd, F⟩ := He.DefD.funD e1 (List.all_eq_true.mp c1 _ (List.mem_of_getElem? hi))
  exact ⟨He.ga K x, fd, F, He.glo_ok X G hg⟩
/-- what is asked of the machine's own objects -/
def sysB (K : PySem.W.Frag) : Bool := (match K.lookup sysModules with | some o => decide (o.cls = .type "dict") | none => false) && decide (PySem.W.nsIn K cStatics sharingNotToldKey = some none)
theorem sysB_ok {K : PySem.W.Frag} (h : sysB K = true) : Sys K := by
  obtain ⟨h1, h2⟩ := He.ba h
  refine ⟨?_, of_decide_eq_true h2⟩
  cases e : K.lookup sysModules with
  | none => rw [e] at h1; cases h1
  | some o => rw [e] at h1; exact ⟨o, rfl, of_decide_eq_true h1⟩
def chkX (gl : List Str) (more : PySem.W.Frag → Bool) (K : PySem.W.Frag) : Bool := (sysB K && btNames.all fun x => (He.Fa.free x).ok K) && ((gl.all fun x => (He.Fa.glo x).ok K) && more K)
end TS

set_option maxHeartbeats 2000000
/-! ### comprehensions of any kind: one walk for every clause, whatever is done with what comes -/
namespace TS
open PySem PySem.Spec PyProof.Rows L2 PpSet
/-- one turn of a clause: what comes, its store, its tests; then what is done with it -/
def Steps (P : Program) (w : World) (A : Around) (it : Value) (tg : Expr) (cs : List Expr) (env : Env) (act : (Shared → Prop) → Shared → Prop) (E : Value → Shared → Prop) (stop next : Shared → Prop) (s : Shared) : Prop :=
  wpAny (model P w) A (pyNext it) (fun r t => match r with
    | none => stop t
    | some v => wpAny (model P w) A (letOwnedTupleGo tg it v) (fun _ t => wpAny (model P w) A (assign tg env v) (fun _ t => wpAny (model P w) A (forIn cs true fun c r => if r = true then do let ok ← isTrue c env (eval c env); pure (ForInStep.yield ok) else pure (ForInStep.yield r))
        (fun b t => if b = true then act next t else next t) E t) E t) E t) E s
/-- a clause's code goes by such turns -/
def Goes (P : Program) (w : World) (A : Around) (c : Code) (it : Value) (tg : Expr) (cs : List Expr) (env : Env) (act : (Value → Shared → Prop) → (Shared → Prop) → Shared → Prop) : Prop :=
  ∀ (R : Result → Shared → Prop) (I : Nat → Shared → Prop), (∀ n s, I n s → Steps P w A it tg cs env (act (notedBy (model P w) A env fun e t => R (.error e) t)) (notedBy (model P w) A env fun e t => R (.error e) t) (R (.ok .next)) (fun t => ∃ m, m < n ∧ I m t) s) →
    ∀ n s, I n s → codeAny (model P w) A c R s
/-- the turns of one clause, as readings: W by the turn and a measure, Out behind the last one, Body what is asked of an item that passes -/
def Rounds (J : It) (g : TG) (tt : TT) (τ : L2.St) (W : Nat → Nat → Hp → Prop) (Out : Hp → Prop) (ws : L2.St → L2.St) (Body : (Hp → Prop) → L2.St → Hp → Prop) : Prop :=
  ∀ i m H, W i m H → (J.stop i H ∧ Out H) ∨ (J.go i H ∧ ∃ Nx : Hp → Prop, (∀ G, Nx G → ∃ k, k < m ∧ W (i + 1) k G) ∧ ∀ x G, J.yld i H x G → g x τ G fun σ2 H2 => ws σ2 = τ ∧ tt σ2 H2 fun b H3 => if b = true then Body Nx σ2 H3 else Nx H3)
theorem walk_clause {Y : Cx} {c : Code} {tg : Expr} {cs : List Expr} {g : TG} {tt : TT} {it : Addr} {fp : List Addr} {tn : Nat → Heap → Prop} {J : It} {act : (Value → Shared → Prop) → (Shared → Prop) → Shared → Prop} {R : Result → Shared → Prop}
    {pins : List (Addr × Obj)} {τ : L2.St} {W : Nat → Nat → Hp → Prop} {Out : Hp → Prop} {vs : List Nat} {Body : (Hp → Prop) → L2.St → Hp → Prop}
    (goes : Goes Y.prog Y.w Y.A c (.ref it) tg cs Y.env act) (calm : Y.calm = true) (mute : Y.xe = fun _ _ => False) (T : Turn Y.prog Y.w Y.K tg J fp it tn) (pg : PG Y tg g) (pt : PTs Y cs tt)
    (free : ∀ (σ : L2.St) (H : Hp) (s : Shared), Inv Y pins σ H s → ∀ b ∈ fp, H b = none → FpOk Y pins H b)
    (rounds : Rounds J g tt τ W Out (fun σ => wipe σ vs) Body)
    (done : ∀ s H, Inv Y pins τ H s → Out H → R (.ok .next) s)
    (acts : ∀ (E : Value → Shared → Prop) (h : Heap) (s : Shared) (σ2 : L2.St) (H : Hp) (Nx : Hp → Prop) (next : Shared → Prop), Inv Y (pins ++ pinsAt fp h) σ2 H s → wipe σ2 vs = τ → Body Nx σ2 H →
      (∀ s' H' σ', Inv Y (pins ++ pinsAt fp h) σ' H' s' → τ.length = σ'.length → (∀ (j : Nat) v, τ[j]? = some (some v) → σ'[j]? = some (some v)) → Nx H' → next s') → act E next s)
    {s : Shared} {H : Hp} {m : Nat} (I : Inv Y pins τ H s) (st : tn 0 s.heap) (nf : ∀ b ∈ fp, H b = none) (w0 : W 0 m H) : codeAny (model Y.prog Y.w) Y.A c R s := by
  refine goes R (fun n t => ∃ i G, Inv Y pins τ G t ∧ tn i t.heap ∧ (∀ b ∈ fp, G b = none) ∧ W i n G) (fun n t ⟨i, G, IG, sG, nG, wG⟩ => ?_) m s ⟨0, H, I, st, nf, w0⟩
  have fG := fun b hb => free _ _ _ IG b hb (nG b hb)
  rcases rounds i n G wG with ⟨hs, ho⟩ | ⟨hg, Nx, hN, step⟩
  · refine thnF (T.done Y rfl rfl rfl calm i pins t τ G (fun _ _ => False) IG fG sG hs) fun r t1 h => ?_
    obtain ⟨rfl, I1⟩ := h
    exact done t1 G I1 ho
  refine thnF (T.item Y rfl rfl rfl calm i pins t τ G (fun _ _ => False) IG fG sG hg) fun r t1 h => ?_
  obtain ⟨u, rfl, h⟩ := h
  refine thnF h fun _ t2 h => ?_
  obtain ⟨x, G2, I2, rx, hy, s2, n2⟩ := h
  have P2 := I2.pinned (fun b hb => free _ _ _ I2 b hb (n2 b hb)) (T.obj _ _ s2)
  have leave : ∀ (t' : Shared) (G' : Hp) (σ' : L2.St), Inv Y (pins ++ pinsAt fp t2.heap) σ' G' t' → τ.length = σ'.length → (∀ (j : Nat) v, τ[j]? = some (some v) → σ'[j]? = some (some v)) → Nx G' →
      ∃ k, k < n ∧ ∃ i G, Inv Y pins τ G t' ∧ tn i t'.heap ∧ (∀ b ∈ fp, G b = none) ∧ W i k G := fun t' G' σ' I' l e nx => by
    obtain ⟨k, lk, wk⟩ := hN G' nx
    have at_ : ∀ b ∈ fp, ∀ o, t2.heap.get? b = some o → t'.heap.get? b = some o ∧ G' b = none := fun b hb o eo =>
      have p := I'.pin (b, o) (List.mem_append_right _ (List.mem_append_right _ (mem_pinsAt hb eo)))
      ⟨p.1, p.2.1⟩
    exact ⟨k, lk, i + 1, G', I'.unpinned.weak l e, T.keep _ _ _ s2 fun b hb o eo => (at_ b hb o eo).1, fun b hb => let ⟨o, eo, _⟩ := T.obj _ _ s2 b hb; (at_ b hb o eo).2, wk⟩
  have stored := pg.run _ t2 τ G2 x u _ P2 rx (step x G2 hy)
  rw [mute] at stored
  refine thnF stored fun _ t3 h => ?_
  obtain ⟨σ3, G3, I3, hw, h⟩ := h
  have hl : τ.length = σ3.length := by rw [← show wipe σ3 vs = τ from hw, wipe_length]
  have he : ∀ (j : Nat) v, τ[j]? = some (some v) → σ3[j]? = some (some v) := fun j v e => by
    rw [← show wipe σ3 vs = τ from hw] at e
    exact (wipe_some e).1
  have tested := pt.run _ t3 σ3 G3 _ I3 h
  rw [mute] at tested
  refine thnF tested fun b t4 h => ?_
  obtain ⟨G4, I4, h⟩ := h
  cases b with
  | false => exact leave t4 G4 σ3 I4 hl he h
  | true => exact acts _ t2.heap t4 σ3 G4 Nx _ I4 hw h leave
section
variable {X : Cx} {pins : List (Addr × Obj)} {σ : L2.St} {H : Hp} {s : Shared}
/-- a fresh object of the block's, laid by a constructor -/
def Makes (X : Cx) (mk : Sem Value) (o : Addr → HO) : Prop := ∀ (pins : List (Addr × Obj)) (σ : L2.St) (H : Hp) (s : Shared) (Q : Value → Shared → Prop) (E : Value → Shared → Prop), Inv X pins σ H s →
  (∀ (D : Addr) (t : Shared), D = s.heap.objs.size → H D = none → (∀ b u, s.heap.get? b = some u → t.heap.get? b = some u) → t.heap.objs.size = D + 1 → Inv X pins σ (upd H D (o D)) t → Q (.ref D) t) → wpAny (model X.prog X.w) X.A mk Q E s
/-- a comprehension: its constructor, its first clause's turns; what is done with an item is told by Body and act -/
theorem comp_any {Q : VK} {ce tg iter : Expr} {cs : List Expr} {rest : List Comprehension} {scope : Scope} {own : List (PySem.Str × Nat)} {pos : Pos} {wi : TI} {g : TG} {tt : TT} {mk : Sem Value} {o : Addr → HO} {use : Option (Value → Sem Unit)} {Qf : Value → Shared → Prop}
    {act : Value → Env → (Value → Shared → Prop) → (Shared → Prop) → Shared → Prop} {Body : Addr → (Hp → Prop) → L2.St → Hp → Prop}
    (hcl : clausesOf ce = ⟨tg, iter, cs, 0⟩ :: rest) (hmk : Makes X mk o) (goes : ∀ (it acc : Addr) (env : Env), Goes X.prog X.w X.A (.compLoop ce 0 (.ref it) (.ref acc) env) (.ref it) tg cs env (act (.ref acc) env))
    (start : ∀ (R : Result → Shared → Prop) (s : Shared) (it acc : Value) (env : Env), codeAny (model X.prog X.w) X.A (.compLoop ce 0 it acc env) R s →
      wpAny (model X.prog X.w) X.A (pyIter it) (fun it' t => codeAny (model X.prog X.w) X.A (.compLoop ce 0 it' acc env) R t) (notedBy (model X.prog X.w) X.A env fun x t => R (.error x) t) s → codeAny (model X.prog X.w) X.A (.compStart ce 0 it acc env) R s)
    (calm : X.calm = true) (nod : X.N.Nodup) (I : Inv X pins σ H s) (pit : PI X tg iter wi) (bk : BlkOk X.N X.env.scope scope own)
    (ptg : ∀ (s : Shared) (H : Hp) (C : Addr) (cl : List (PySem.Str × Addr)) (fp : List Addr), PG (X.blk s H scope (compEnvC scope cl C X.env) fp) tg g) (ptt : ∀ (s : Shared) (H : Hp) (C : Addr) (cl : List (PySem.Str × Addr)) (fp : List Addr), PTs (X.blk s H scope (compEnvC scope cl C X.env) fp) cs tt)
    (fold : ∀ x, foldedSetIterable iter X.env x = pure x)
    (rd : wi σ H fun J H1 => ∀ D, H1 D = none → ∃ W : Nat → Nat → Hp → Prop, (∃ m, W 0 m (upd H1 D (o D))) ∧ Rounds J g tt (wipe σ (own.map (·.2))) W (fun G => Q (.ref D) G) (fun σ => wipe σ (own.map (·.2))) (Body D))
    (acts : ∀ (s0 : Shared) (H0 : Hp) (C : Addr) (cl : List (PySem.Str × Addr)) (fp : List Addr) (D : Addr) (E : Value → Shared → Prop) (pins : List (Addr × Obj)) (s : Shared) (σ2 : L2.St) (G : Hp) (Nx : Hp → Prop) (next : Shared → Prop), Inv (X.blk s0 H0 scope (compEnvC scope cl C X.env) fp) pins σ2 G s →
      wipe σ2 (own.map (·.2)) = wipe σ (own.map (·.2)) → Body D Nx σ2 G →
      (∀ s' H' σ', Inv (X.blk s0 H0 scope (compEnvC scope cl C X.env) fp) pins σ' H' s' → (wipe σ (own.map (·.2))).length = σ'.length → (∀ (j : Nat) v, (wipe σ (own.map (·.2)))[j]? = some (some v) → σ'[j]? = some (some v)) → Nx H' → next s') → act (.ref D) (compEnvC scope cl C X.env) E next s)
    (back : ∀ D C t m G, Inv X pins σ G t → Q (.ref D) G → t.heap.Ns C m → FpOk X pins G C → compPost (model X.prog X.w) X.A X.xe use Qf (.ref D) C (.ok .next) t) :
    wpAny (model X.prog X.w) X.A (comprehension ce scope X.env pos mk false (eval iter X.env) use) Qf X.xe s := by
  have reach : ∀ y ∈ scope.names, y.2 = .free → ∃ c, X.env.cells.lookup y.1 = some c := fun y hy e => I.ok.has _ (bk.free y hy e)
  refine wpAny_comprehension_free (use := use) hcl fold (closure_ok reach) bk.kind (fun y hy e => (bk.uniq y hy).trans (congrArg some e)) (thn (pit.run pins s σ H _ I rd) fun _ _ h1 => thn h1 fun _ t2 h2 => ?_)
  obtain ⟨it, fp, tn, J, G2, rfl, I2, T, sT, fr, h⟩ := h2
  refine hmk pins σ G2 t2 _ _ I2 fun D t3 eD nD up size I3 => newEnv_comp ?_
  obtain ⟨W, ⟨m, w0⟩, rounds⟩ := h D nD
  have old : ∀ b ∈ fp, b < t2.heap.objs.size := fun b hb => let ⟨u, e, _⟩ := T.obj _ _ sT b hb; Heap.lt_size e
  have fr3 : ∀ b ∈ fp, FpOk X pins (upd G2 D (o D)) b ∧ b < t3.heap.objs.size := fun b hb => by
    have l := old b hb
    exact ⟨⟨(upd_ne (by rw [eD]; exact Nat.ne_of_lt l)).trans (fr b hb).1, (fr b hb).2⟩, by rw [size, eD]; exact Nat.lt_succ_of_lt l⟩
  have I4 := block_start I3 bk nod fr3
  have k4 : ∀ b u, t2.heap.get? b = some u → (pushCells (t3.heap.push { cls := .type "dict", data := .dict #[] }) scope.names).get? b = some u := fun b u e => pushCells_keeps _ _ _ _ (Heap.get?_push_of_some _ (up b u e))
  generalize ecl : cellsFrom (t3.heap.objs.size + 1) scope.names (cloFrom X.env.cells scope.names []) = cl at I4
  generalize eG : upd G2 D (o D) = G3 at I3 I4 w0 fr3
  generalize eC : t3.heap.objs.size = C at I4
  have lC : (compEnvC scope cl C X.env).locals = C := rfl
  refine start _ _ _ _ _ ?_ (T.self X.A 0 _ _ _ (T.keep _ _ _ sT fun b hb u e => k4 b u e) ?_)
  all_goals
    show codeAny _ _ (.compLoop ce 0 (.ref it) (.ref D) (compEnvC scope cl C X.env)) (compPost (model X.prog X.w) X.A X.xe use Qf (.ref D) C) _
    refine walk_clause (Y := X.blk t3 G3 scope (compEnvC scope cl C X.env) fp) (pins := []) (goes it D _) calm rfl T (ptg t3 G3 C cl fp) (ptt t3 G3 C cl fp) (fun τ G t J b hb hn => ⟨hn, (J.ok.exf b hb).1, J.ok.exfs b hb, .inl hb, fun x c e => (J.ok.exf b hb).2 x c e, fun p hp => absurd (show p ∈ ([] : List (Addr × Obj)) ++ [] from hp) (by simp)⟩)
      rounds (fun t G J q => ?_) (fun E h t σ2 G Nx next J e hb fin => acts t3 G3 C cl fp D E _ t σ2 G Nx next J e hb fin) I4 (T.keep _ _ _ sT fun b hb u e => k4 b u e) (fun b hb => (fr3 b hb).1.1) w0
    have K : Inv X pins σ G t := I3.call' (ch := fp) J.os J.base J.hok J.bare fun b hb => let ⟨_, f1, _, f3, f4, f5⟩ := (fr3 b hb).1; ⟨f3, f1, f4, f5⟩
    obtain ⟨mm, hn, _⟩ := J.loc
    exact back D C t mm G K q hn (I3.fpOk (Nat.le_of_eq eC) J.free)
end
end TS

set_option maxHeartbeats 2000000
/-! ### 7. set comprehensions of ints and texts, and how many there are -/
namespace TS
open PySem PySem.Spec PyProof.Rows L2 PpSet
section
variable {X : Cx}
theorem setK_fresh {P : Program} {w : World} {h : Heap} : (h.push { cls := .type "set", dict := none, data := .set #[] 0 (.fresh 0 0 (!w.params.followText "set-order")) }).SetOf (mixKind P w) h.objs.size (fun _ => false) 0 :=
  ⟨_, #[], 0, _, Heap.get?_push_size h rfl, ⟨rfl, rfl, rfl⟩, rfl, (fun e z => by simp at z), (fun k => by simp), (by decide), (by rfl), rfl⟩
theorem makes_set : Makes X (newSet (.type "set")) fun D => SetK X.prog X.w D (fun _ => false) 0 := fun pins σ H s Q E I q => by
  refine newSet_ok (q _ _ rfl (I.hok.fresh (Nat.le_refl _)) (fun b u e => Heap.get?_push_of_some _ e) (Heap.size_push ..) ?_)
  exact I.laid (t' := s.toks) (fun b u e => Heap.get?_push_of_some _ e) (Nat.le_refl _) (setK_new setK_fresh)
theorem addK_ok {pins : List (Addr × Obj)} {σ : L2.St} {H : Hp} {s : Shared} {E : Value → Shared → Prop} {D : Addr} {S : Key → Bool} {n : Nat} {k : Key} {u : Value} {Q : Value → Shared → Prop} (J : Inv X pins σ H s) (eD : H D = some (SetK X.prog X.w D S n)) (rk : RelV (kV k) u)
    (room : n + 1 < scanBound) (q : ∀ t, Inv X pins σ (upd H D (SetK X.prog X.w D (fun j => S j || decide (j = k)) (if S k = true then n else n + 1))) t → Q .none t) : wpAny (model X.prog X.w) X.A (call (.builtin "set.add") [.ref D, u]) Q E s := by
  refine call_set_add (kV_is rk) (key_scan rk) (setK_get J eD) room fun hp sb nw => ?_
  have there : ∃ v, hp.get? D = some v := let ⟨o, _, _, _, ho, _⟩ := nw; ⟨o, ho⟩
  exact q _ (J.write (e := D) (t' := s.toks + 1) (by rw [eD]; trivial) (.inl rfl) (fun b v hb hv => (sb.2 b hb).trans hv) there (setK_new nw))
/-- what is asked of an item that goes into the set D -/
def setBody (P : Program) (w : World) (te : TE) (D : Addr) (Nx : Hp → Prop) (σ2 : L2.St) (H3 : Hp) : Prop :=
  te σ2 H3 fun y H4 => ∃ (k : Key) (S : Key → Bool) (n : Nat), y = kV k ∧ H4 D = some (SetK P w D S n) ∧ n + 1 < scanBound ∧ Nx (upd H4 D (SetK P w D (fun j => S j || decide (j = k)) (if S k = true then n else n + 1)))
/-- {elt for target in iter if ..}, elt an int or a text: D the new set -/
def tScK (P : Program) (w : World) (wi : TI) (g : TG) (tt : TT) (te : TE) (vs : List Nat) : TE := fun σ H Q => wi σ H fun J H1 => ∀ D, H1 D = none → ∃ Wt : Nat → Nat → Hp → Prop, (∃ m, Wt 0 m (upd H1 D (SetK P w D (fun _ => false) 0))) ∧ ∀ i m H, Wt i m H →
  (J.stop i H ∧ Q (.ref D) H) ∨ (J.go i H ∧ ∃ Nx : Hp → Prop, (∀ G, Nx G → ∃ m', m' < m ∧ Wt (i + 1) m' G) ∧ ∀ x G, J.yld i H x G → g x (wipe σ vs) G fun σ2 H2 => wipe σ2 vs = wipe σ vs ∧ tt σ2 H2 fun b H3 =>
    if b = true then te σ2 H3 fun y H4 => ∃ (k : Key) (S : Key → Bool) (n : Nat), y = kV k ∧ H4 D = some (SetK P w D S n) ∧ n + 1 < scanBound ∧ Nx (upd H4 D (SetK P w D (fun j => S j || decide (j = k)) (if S k = true then n else n + 1))) else Nx H3)
/-- as a value -/
theorem pe_scK {elt tg iter : Expr} {ifs : List Expr} {scope : Scope} {own : List (PySem.Str × Nat)} {pos : Pos} {wi : TI} {g : TG} {tt : TT} {te : TE} (calm : X.calm = true) (nod : X.N.Nodup) (pit : PI X tg iter wi) (bk : BlkOk X.N X.env.scope scope own)
    (ptg : ∀ (s : Shared) (H : Hp) (C : Addr) (cl : List (PySem.Str × Addr)) (fps : List Addr), PG (X.blk s H scope (compEnvC scope cl C X.env) fps) tg g) (ptt : ∀ (s : Shared) (H : Hp) (C : Addr) (cl : List (PySem.Str × Addr)) (fps : List Addr), PTs (X.blk s H scope (compEnvC scope cl C X.env) fps) ifs tt)
    (pel : ∀ (s : Shared) (H : Hp) (C : Addr) (cl : List (PySem.Str × Addr)) (fps : List Addr), PE (X.blk s H scope (compEnvC scope cl C X.env) fps) elt te) (fold : ∀ x, foldedSetIterable iter X.env x = pure x := by intro _; rfl) :
    PE X (.SetComp elt [⟨tg, iter, ifs, 0⟩] scope pos) (tScK X.prog X.w wi g tt te (own.map (·.2))) := by
  refine ⟨fun pins s σ H Q I rd => ?_⟩
  rw [eval_SetComp]
  refine comp_any (rest := []) (Body := setBody X.prog X.w te) (act := fun acc env E next s => wpAny (model X.prog X.w) X.A (eval elt env) (fun v t => wpAny (model X.prog X.w) X.A (call (.builtin "set.add") [acc, v]) (fun _ t => next t) E t) E s) rfl makes_set
    (fun it acc env R I turn n s h => compLoopS_any I turn n h) (fun R s it acc env h0 h => codeAny_compStart_set h0 h) calm nod I pit bk ptg ptt fold rd (fun s0 H0 C cl fp D E pins s σ2 G Nx next J e hb fin => ?_)
    fun D C t m G J q hn f => ⟨m, hn, fun h2 sb => ?_⟩
  · refine thnF ((pel s0 H0 C cl fp).run _ s σ2 G _ J hb) fun v t h => ?_
    obtain ⟨y, G2, J2, ry, k, S, n, rfl, eD, room, nx⟩ := h
    refine addK_ok (X := X.blk s0 H0 scope (compEnvC scope cl C X.env) fp) J2 eD ry room fun t2 J3 => fin t2 _ σ2 J3 (by rw [← e, wipe_length]) (fun j x q => ?_) nx
    rw [← e] at q
    exact (wipe_some q).1
  · obtain ⟨f0, f1, _, f3, f4, f5⟩ := f
    exact ⟨.ref D, G, J.turned (t' := t.toks) (fun b o hb e => (sb.2 b hb).trans e) f0 f1 f3 f4 f5, rfl, q⟩
def rLenSet (P : Program) (w : World) : List V → Hp → VK → Prop := fun xs H Q => ∃ (a : Addr) (S : Key → Bool) (n : Nat), xs = [.ref a] ∧ H a = some (SetK P w a S n) ∧ n < 2 ^ 40 ∧ Q (.int n) H
theorem len_setK : CallR X (.builtin "len") (rLenSet X.prog X.w) := by
  intro pins s σ H xs us Q J r rd
  obtain ⟨a, S, n, rfl, ea, hn, q⟩ := rd
  obtain ⟨u, rfl, ra⟩ := vals1 r
  cases ra
  have ⟨o, es, ep, t, ho, hx, hd, h1, h2, h3, h4, h5⟩ := setK_get J ea
  subst h5
  exact call_len_set ho hx hd h4 (by have := hn; omega) ⟨.int es.size, H, J.kept fun _ _ z => z, ⟨_, rfl⟩, q⟩
end
end TS

set_option maxHeartbeats 2000000
/-! ### 8. enumerate over a tuple; readings by either of two ways -/
namespace PySem
open Sem (wp)
open AutoSeq1 (wpAny_loadPart')
theorem ts_enum_newT (l : Addr) (items : Array Value) (n : Nat) (dct : Option Addr) (sl : Array (Option Value)) :
    Meets (Builtin.«enumerate.__new__» ⟨[.type "enumerate", .ref l], []⟩) (fun _ R s => s.heap.get? l = some { cls := .type "tuple", dict := dct, data := .seq items n, slots := sl } ∧
      R (.ok (.ret (.ref (s.heap.push { cls := .type "tuple_iterator", data := .fields #[.ref l, .int 0 0] }).objs.size)))
        { s with heap := (s.heap.push { cls := .type "tuple_iterator", data := .fields #[.ref l, .int 0 0] }).push { cls := .type "enumerate", data := .fields #[.none, .bool false, .ref s.heap.objs.size, rawInt 0, .none, .none] } }) :=
  .of_wp fun prog w A R s h => by
    obtain ⟨hp, g, d, tk, os⟩ := s
    obtain ⟨there, rest⟩ := h
    have se := sub_enumerate
    have tup : Heap.IsTuple (Shared.heap ⟨hp, g, d, tk, os⟩) l items := ⟨_, there, rfl, n, rfl⟩
    wp_walk using wpAny_loadPart' there
    refine wpAny_stack_any fun st => wpAny_pure ?_
    split
    · rename_i c _ _ _ _ _
      cases (c == Value.type "enumerate")
      · wp_walk using wpAny_loadPart' there, wpAny_pyIter_tuple tup
        exact ⟨_, rfl, rest⟩
      · wp_walk using wpAny_loadPart' there, wpAny_pyIter_tuple tup
        exact ⟨_, rfl, rest⟩
    · wp_walk using wpAny_loadPart' there, wpAny_pyIter_tuple tup
      exact ⟨_, rfl, rest⟩
theorem ts_call_enumT {prog : Program} {w : World} {A : Around} {E : Value → Shared → Prop} {s : Shared} {l : Addr} {items : Array Value} {Q : Value → Shared → Prop} (tup : s.heap.IsTuple l items)
    (q : ∀ G, IsEnum G (s.heap.objs.size + 1) s.heap.objs.size 0 .none → G.IsTupleIter s.heap.objs.size l 0 → (∀ b o, s.heap.get? b = some o → G.get? b = some o) → Q (.ref (s.heap.objs.size + 1)) { s with heap := G }) :
    wpAny (model prog w) A (call (.type "enumerate") [.ref l]) Q E s := by
  obtain ⟨⟨c, dct, dt, sl⟩, there, ec, n, ed⟩ := tup
  replace ec : c = .type "tuple" := ec
  replace ed : dt = .seq items n := ed
  subst ec ed
  refine callType_new F.called_enumerate (by decide) (F.typeCall_enumerate_1 _) (F.newCall_enumerate_1 _) (fun z => F.args_object_init_2 z _) F.entry_enumerate_new (ts_enum_newT l items n dct sl) ⟨there, ?_⟩
  have sz : (s.heap.push { cls := .type "tuple_iterator", data := .fields #[.ref l, .int 0 0] }).objs.size = s.heap.objs.size + 1 := Heap.size_push ..
  show _ ∧ _
  rw [sz]
  have en : IsEnum ((s.heap.push { cls := .type "tuple_iterator", data := .fields #[.ref l, .int 0 0] }).push
      { cls := .type "enumerate", data := .fields #[.none, .bool false, .ref s.heap.objs.size, rawInt 0, .none, .none] }) (s.heap.objs.size + 1) s.heap.objs.size 0 .none := by
    have z := Heap.get?_push_size (s.heap.push { cls := .type "tuple_iterator", data := .fields #[.ref l, .int 0 0] })
      (o := { cls := .type "enumerate", data := .fields #[.none, .bool false, .ref s.heap.objs.size, rawInt 0, .none, .none] }) rfl
    rw [sz] at z; exact z
  exact ⟨⟨_, en, rfl⟩, q _ en ⟨_, Heap.get?_push_of_some _ (Heap.get?_push_size _ rfl), rfl, rfl⟩ fun b o x => Heap.get?_push_of_some _ (Heap.get?_push_of_some _ x)⟩
end PySem
namespace TS
open PySem PySem.Spec PyProof.Rows L2
/-- the tuple at a, the items in new pairs with their places -/
def IteT (K : PySem.W.Frag) (a : Addr) : It :=
  ⟨fun i H => ∃ (xs : List V) (x : V), SqT K H a xs ∧ xs[i]? = some x,
    fun i H v G => ∃ T x, v = .ref T ∧ H T = none ∧ G = upd H T (.tup [.int (i : Nat), x]) ∧ ∀ xs, SqT K H a xs → xs[i]? = some x,
    fun i H => ∃ xs : List V, SqT K H a xs ∧ xs.length ≤ i⟩
theorem turn_enumT {P : Program} {w : World} {K : PySem.W.Frag} {elts : List Expr} {kk : Nat} {tpos : Pos} (a e it : Addr) :
    Turn P w K (.Tuple elts kk tpos) (IteT K a) [e, it] e (fun i h => (∃ old, IsEnum h e it i old) ∧ h.IsTupleIter it a i ∧ e ≠ it) where
  mem := by simp
  obj := fun i h st b hb => by
    obtain ⟨⟨old, en⟩, ⟨o, ho, hc, hd⟩, _⟩ := st
    have e' : b = e ∨ b = it := by simpa using hb
    rcases e' with z | z
    · rw [z]; exact ⟨_, en, fun v q => nomatch q⟩
    · rw [z]; exact ⟨o, ho, fun v q => by rw [hd] at q; cases q⟩
  keep := fun i h G st k => let ⟨⟨old, en⟩, ti, ne⟩ := st; ⟨⟨old, k e (by simp) _ en⟩, ti.at fun o q => k it (by simp) o q, ne⟩
  item := by
    intro X hP hw hK hc i pins s σ H E J hf st hg
    subst hP hw hK
    obtain ⟨⟨old, en⟩, ti, ne⟩ := st
    obtain ⟨xs, x, hq, hx⟩ := hg
    obtain ⟨its, rv, p, hz⟩ := J.tuple hq
    obtain ⟨u, hu, ru⟩ := rv.get hx
    have p' : s.heap.IsTuple a its.toArray := p
    have lte : e < s.heap.objs.size := Heap.lt_size en
    have lti : it < s.heap.objs.size := by obtain ⟨_, q, _⟩ := ti; exact Heap.lt_size q
    have nai : a ≠ it := fun z => by
      obtain ⟨o, ho, hc1, hd1⟩ := ti
      obtain ⟨o2, ho2, hc2, _⟩ := p'
      rw [z, ho] at ho2
      cases ho2
      rw [hc1] at hc2
      exact absurd hc2 (by decide +kernel)
    have nae : e ≠ a := fun z => by
      obtain ⟨o2, ho2, hc2, _⟩ := p'
      rw [← z] at ho2
      have en' : s.heap.get? e = some _ := en
      rw [en'] at ho2
      cases ho2
      exact absurd (show Value.type "enumerate" = Value.type "tuple" from hc2) (by decide +kernel)
    have ui : its.toArray[i]? = some u := by simpa using hu
    have lt : i < its.toArray.size := by
      rcases Nat.lt_or_ge i its.toArray.size with z | z
      · exact z
      · rw [Array.getElem?_eq_none z] at ui; cases ui
    have hd := J.ok.hd hc
    refine wpAny_pyNext_enum_itemD (Draws.tuple (by exact hd) it a nai its.toArray) en ⟨ti, p'⟩ lt ne (by simp [ne, nae]) fun y G tk hy ho st' hT hsz hk => ?_
    rw [ui] at hy
    cases hy
    refine ⟨_, rfl, wpAny_letOwnedTupleGo_enum (s := { s with heap := G, toks := tk + 1 }) ho fun G2 en' sb => ?_⟩
    have hT2 : G2.get? s.heap.objs.size = some { cls := .type "tuple", data := .seq #[.int i tk, u] } := (sb.2 _ (Nat.ne_of_gt lte)).trans hT
    have new : ObjOk X.prog X.w (upd H s.heap.objs.size (.tup [.int (i : Nat), x])) G2 s.heap.objs.size (.tup [.int (i : Nat), x]) :=
      ⟨by show 2 ≤ sizeLine; decide, [.int i tk, u], .cons ⟨_, rfl⟩ (.cons ru .nil), ⟨_, hT2, rfl, _, rfl⟩⟩
    have J1 : Inv X pins σ (upd H s.heap.objs.size (.tup [.int (i : Nat), x])) { s with heap := G2, toks := tk + 1 } :=
      J.turnedNew (ch := [e, it]) (fun b ob hb q => (sb.2 b (fun z => hb (by simp [z]))).trans (hk b ob (fun z => hb (by simp [z])) (fun z => hb (by simp [z])) q)) hf (Nat.le_refl _) new
    refine ⟨.ref s.heap.objs.size, _, J1, rfl, ⟨_, x, rfl, J.hok.fresh (Nat.le_refl _), rfl, fun ys hy => by rw [J.tuple_inj hy hq]; exact hx⟩, ⟨⟨u, ?_⟩, st'.1.at fun o q => (sb.2 it (Ne.symm ne)).trans q, ne⟩, fun b hb => ?_⟩
    · have e1 : ((i + 1 : Nat) : Int) = (i : Int) + 1 := by omega
      rw [e1]; exact en'
    · have lb : b < s.heap.objs.size := by
        have e' : b = e ∨ b = it := by simpa using hb
        rcases e' with z | z
        · rw [z]; exact lte
        · rw [z]; exact lti
      rw [upd_ne (Nat.ne_of_lt lb)]
      exact (hf b hb).1
  done := by
    intro X hP hw hK hc i pins s σ H E J hf st hg
    subst hP hw hK
    obtain ⟨⟨old, en⟩, ti, ne⟩ := st
    obtain ⟨xs, hq, hx⟩ := hg
    obtain ⟨its, rv, p, hz⟩ := J.tuple hq
    obtain ⟨f0, f1, f2, f3, f4, f5⟩ := hf it (by simp)
    have hl := rv.length
    have p' : s.heap.IsTuple a its.toArray := p
    have hT : s.TypeIs (.ref e) "enumerate" := ⟨_, en, rfl⟩
    have hd := J.ok.hd hc
    unfold pyNext
    refine wpAny_bind (wpAny_attempt (wpAny_callSpecial?_slot (name := Str.ofString "__next__") hT F.slot_enumerate_next
      (wpAny_call_entry F.slot_enumerate_next hT F.entry_enumerate_next ?_ (F.args_enumerate_next_1 _))))
    show wpAny _ _ (field (.ref e) 2 >>= _) _ _ _
    refine wpAny_bind (wpAny_field en rfl (x := .ref it) rfl ?_)
    refine wpAny_bind (wpAny_nextOf_tuple_end (by exact hd) ti p' (by simp; omega) fun G x eb hx' => ?_)
    obtain ⟨o, ho, hco⟩ := hx'
    refine wpAny_bind (wpAny_isInstance (T := "StopIteration") (b := true) ⟨o, ho, hco⟩ isSubtype_stop ?_)
    exact wpAny_pure ⟨rfl, J.turned (t' := s.toks) (fun b o hb q => eb b o hb q) f0 f1 f3 f4 f5⟩
  self := fun A i s Q E st h => let ⟨⟨_, en⟩, _⟩ := st; wpAny_pyIter_enum en h
def iEnumT (K : PySem.W.Frag) (ta : TA) : TI := fun σ H R => ta σ H fun vs H1 => ∃ a xs, vs = [.ref a] ∧ SqT K H1 a xs ∧ R (IteT K a) H1
theorem pi_enumT {X : Cx} {K : PySem.W.Frag} {e : Expr} {ta : TA} {p pos tpos : Pos} {elts : List Expr} {kk : Nat} (hK : X.K = K) (hg : Gl X "enumerate") (hm : X.mg "enumerate" = none) (ha : PA X [e] ta) (hs : starEach [e] X.env = [(false, eval e X.env)] := by rfl) :
    PI X (.Tuple elts kk tpos) (.Call (.Name "enumerate" p) [e] [] pos) (iEnumT K ta) := by
  subst hK
  refine ⟨fun pins s σ H R J h => ?_⟩
  refine Call_ (ld_blt J hg hm boot_enumerate (PyProof.Rows.callWith_type1 (thn (ha.run pos pins s σ H _ J h) fun us t ⟨vs, H1, J1, r1, q1⟩ => ?_) hs rfl))
  obtain ⟨a, xs, ex, hq, q⟩ := q1
  subst ex
  obtain ⟨u, rfl, ra⟩ := vals1 r1
  cases ra
  obtain ⟨its, rv, p', hz⟩ := J1.tuple hq
  refine ts_call_enumT (show t.heap.IsTuple a its.toArray from p') fun G en ti hk => wpAny_pyIter_enum en ?_
  have J2 : Inv X pins σ H1 { t with heap := G } := J1.kept (t' := t.toks) hk
  refine ⟨t.heap.objs.size + 1, [t.heap.objs.size + 1, t.heap.objs.size], _, _, H1, rfl, J2, turn_enumT a (t.heap.objs.size + 1) t.heap.objs.size, ⟨⟨.none, en⟩, ti, Nat.succ_ne_self _⟩, fun b hb => ?_, q⟩
  have le : t.heap.objs.size ≤ b := by
    have e' : b = t.heap.objs.size + 1 ∨ b = t.heap.objs.size := by simpa using hb
    rcases e' with z | z <;> rw [z]
    · exact Nat.le_add_right _ _
    · exact Nat.le_refl _
  exact J1.fpOk le (J1.hok.fresh le)
theorem walk_enumT {K : PySem.W.Frag} {a : Addr} {xs : List V} : Walk (IteT K a) xs.length (fun H => SqT K H a xs) (YPair (fun i => some (.int (i : Nat))) (fun i => xs[i]?)) := by
  refine ⟨fun i _ hi q => ⟨xs, xs[i], q, by simp [hi]⟩, fun _ q => ⟨xs, q, Nat.le_refl _⟩, fun i H v G _ q y => ?_⟩
  obtain ⟨T, x, h1, h2, h3, h4⟩ := y
  exact ⟨T, .int (i : Nat), x, h1, h2, h3, rfl, h4 xs q⟩
/-! either of two readings -/
section
variable {X : Cx} {e tg : Expr} {t1 t2 : TE} {i1 i2 : TI}
theorem pe_either (h1 : PE X e t1) (h2 : PE X e t2) : PE X e (fun σ H Q => t1 σ H Q ∨ t2 σ H Q) := ⟨fun pins s σ H Q J h => h.elim (h1.run pins s σ H Q J) (h2.run pins s σ H Q J)⟩
theorem pi_either (h1 : PI X tg e i1) (h2 : PI X tg e i2) : PI X tg e (fun σ H R => i1 σ H R ∨ i2 σ H R) := ⟨fun pins s σ H R J h => h.elim (h1.run pins s σ H R J) (h2.run pins s σ H R J)⟩
end
end TS

set_option maxHeartbeats 2000000
/-! ### 9. defs that raise; own exceptions with one field; several except clauses -/
namespace TS
open PySem PySem.Spec PyProof.Rows L2
/-- a method's def at f -/
def DefM (K : PySem.W.Frag) (f : Addr) (m qual : Str) (st : Stmt) : Prop := ∃ fd, FunD K m qual (defArgs st) (defBody st) (defScope st) [] [] f fd
/-- a promise by the def's place -/
def PromA (CX : CXT) (P : Program) (w : World) (K : PySem.W.Frag) (mg : Str → Option Value) (base : Heap) (k : Nat) (f : Addr) (ps : List Str) (sp : Sp) : Prop := ∃ fd, FnOk P w K mg base CX k f fd ps sp ∧ Binds K fd ps []
/-- a def that may raise, by its name -/
def PromX (P : Program) (w : World) (K : PySem.W.Frag) (mg : Str → Option Value) (base : Heap) (k : Nat) (x : Str) (ps : List Str) (sp : Sp) : Prop :=
  ∃ f, PromA (L2.CX P w) P w K mg base k f ps sp ∧ mg x = some (.ref f) ∧ PySem.W.keepIn K (.ref f) = true
section
variable {P : Program} {w : World} {K : PySem.W.Frag} {mg : Str → Option Value} {base : Heap} {N ps : List Str} {k : Nat} {sp : Sp} {x m qual : Str} {st : Stmt} {f : Addr}
theorem meth_mk (D : DefM K f m qual st) (S : FnScope N ps (defScope st)) (len : ∀ vs H Q E, sp vs H Q E → vs.length = ps.length)
    (hb : ∀ (kV doc pm : Value) (an : Option Addr) (cdv ct : Value) (us : List Value), us.length = ps.length → bindArgs (PySem.W.fnOf m qual (defArgs st) (defBody st) (defScope st) .none kV doc pm an cdv ct) ⟨us, []⟩ = pure (ps.zip us))
    (body : ∀ (cdv : Value) (A : Around) (outer : List Env) (s : Shared) (H : Hp) (vs : List V) (Q : VK) (E : XK), Room k (A.deeper (envOfC qual (defScope st) s.heap.objs.size f cdv)) → sp vs H Q E →
      ∃ t, PSs (cxOf CX0 P w K mg base N qual (defScope st) f cdv A outer s H E).nox (defBody st) t ∧ t { nx := fun _ G => Q .non G, rt := Q } (start N vs) H) : PromA CX0 P w K mg base (k + 1) f ps sp := by
  obtain ⟨fd, F⟩ := D
  refine ⟨fd, F.ok S len fun cdv A outer s H vs Q E hr h => ?_, F.bindsN hb⟩
  obtain ⟨t, h1, h2⟩ := body cdv A outer s H vs Q E hr h
  exact ⟨t, h1.nox, h2⟩
theorem methX_mk (D : DefM K f m qual st) (S : FnScope N ps (defScope st)) (len : ∀ vs H Q E, sp vs H Q E → vs.length = ps.length)
    (hb : ∀ (kV doc pm : Value) (an : Option Addr) (cdv ct : Value) (us : List Value), us.length = ps.length → bindArgs (PySem.W.fnOf m qual (defArgs st) (defBody st) (defScope st) .none kV doc pm an cdv ct) ⟨us, []⟩ = pure (ps.zip us))
    (body : ∀ (cdv : Value) (A : Around) (outer : List Env) (s : Shared) (H : Hp) (vs : List V) (Q : VK) (E : XK), Room k (A.deeper (envOfC qual (defScope st) s.heap.objs.size f cdv)) → sp vs H Q E →
      ∃ t, PSs (cxOf (L2.CX P w) P w K mg base N qual (defScope st) f cdv A outer s H E) (defBody st) t ∧ t { nx := fun _ G => Q .non G, rt := Q } (start N vs) H) : PromA (L2.CX P w) P w K mg base (k + 1) f ps sp := by
  obtain ⟨fd, F⟩ := D
  exact ⟨fd, F.ok S len body, F.bindsN hb⟩
theorem promX_mk (D : Def K mg x st) (S : FnScope N ps (defScope st)) (len : ∀ vs H Q E, sp vs H Q E → vs.length = ps.length)
    (hb : ∀ (kV doc pm : Value) (an : Option Addr) (cdv ct : Value) (us : List Value), us.length = ps.length → bindArgs (PySem.W.fnOf x x (defArgs st) (defBody st) (defScope st) .none kV doc pm an cdv ct) ⟨us, []⟩ = pure (ps.zip us))
    (body : ∀ (f : Addr) (cdv : Value) (A : Around) (outer : List Env) (s : Shared) (H : Hp) (vs : List V) (Q : VK) (E : XK), Room k (A.deeper (envOfC x (defScope st) s.heap.objs.size f cdv)) → sp vs H Q E →
      ∃ t, PSs (cxOf (L2.CX P w) P w K mg base N x (defScope st) f cdv A outer s H E) (defBody st) t ∧ t { nx := fun _ G => Q .non G, rt := Q } (start N vs) H) : PromX P w K mg base (k + 1) x ps sp := by
  obtain ⟨f, fd, F, m⟩ := D
  exact ⟨f, ⟨fd, F.ok S len (body f), F.bindsN hb⟩, m, F.kp⟩
/-- in a def that may raise, what it lets out is taken -/
theorem takesF {E : XK} {qual : Str} {scope : Scope} {f : Addr} {cdv : Value} {A : Around} {outer : List Env} {s : Shared} {H : Hp} :
    Takes (cxOf (L2.CX P w) P w K mg base N qual scope f cdv A outer s H E) (fun cls d _ G => E cls d G) := takes_of rfl rfl rfl rfl
end
/-! calls of defs that may raise: what is let out goes to W -/
section
variable {X : Cx} {k : Nat} {f C : Addr} {ps : List Str} {sp : Sp} {W : WX} {x : Str} {p pos : Pos} {e : Expr} {es : List Expr} {t : TA}
theorem pe_pcX (pr : PromX X.prog X.w X.K X.mg X.base k x ps sp) (tk : Takes X W) (hr : Room k X.A) (hg : Gl X x) (ha : PA X (e :: es) t) (hdb : (x == ("__debug__" : Str)) = false := by decide)
    (he : starEach (e :: es) X.env = (false, eval e X.env) :: starEach es X.env := by rfl) (hpl : (backTo pos (starEach es X.env)).any (·.1) = false := by rfl) :
    PE X (.Call (.Name x p) (e :: es) [] pos) (tCallS sp (WE W) t) := by
  obtain ⟨f, ⟨fd, F, b⟩, m, kp⟩ := pr
  exact pe_callS F hr hg m kp b (fun σ => passAt tk σ) ha hdb he hpl
/-- C(e, ..) of an own class whose __init__ may raise -/
def tMakeS (C : Addr) (sp : Sp) (W : WX) (t : TA) : TE := fun σ H Q => t σ H fun vs H1 => ∀ x dx, H1 x = none → H1 dx = none → dx ≠ x →
  sp (.ref x :: vs) (upd (upd H1 dx (.own x)) x (.ins C dx [])) (fun v H2 => v = .non ∧ Q (.ref x) H2) (WE W σ)
theorem make_runS {fd : FuncData} {pins : List (Addr × Obj)} {σ : L2.St} {H : Hp} {s : Shared} {Q : VK} {us : List Value} {vs : List V} (M : Mk X.K C f) (F : FnOk X.prog X.w X.K X.mg X.base (L2.CX X.prog X.w) k f fd ps sp) (hr : Room (k + 1) X.A) (hb : Binds X.K fd ps [])
    (tk : Takes X W) (J : Inv X pins σ H s) (r : Vals vs us)
    (h : ∀ x dx, H x = none → H dx = none → dx ≠ x → sp (.ref x :: vs) (upd (upd H dx (.own x)) x (.ins C dx [])) (fun v H2 => v = .non ∧ Q (.ref x) H2) (WE W σ)) :
    wpAny (model X.prog X.w) X.A (call (.ref C) us) (EP X pins σ Q) X.xe s := by
  have q := h (s.heap.objs.size + 1) s.heap.objs.size (J.hok.fresh (Nat.le_succ _)) (J.hok.fresh (Nat.le_refl _)) (Nat.ne_of_lt (Nat.lt_succ_self _))
  have J2 := Inv.made (C := C) J
  have r2 : Vals (V.ref (s.heap.objs.size + 1) :: vs) (Value.ref (s.heap.objs.size + 1) :: us) := .cons rfl r
  have hl : (Value.ref (s.heap.objs.size + 1) :: us).length = ps.length := by rw [← r2.length]; exact F.len _ _ _ _ q
  have b := hb _ (Value.ref (s.heap.objs.size + 1) :: us) J2.kIn (by rw [List.append_nil]; exact hl)
  rw [List.append_nil] at b
  refine wpAny_call (make_map (f := f) J.kIn M.makes M.init (beq_iff_eq.mp M.fn) (codeAny_mono (F.run _ X.stack _ _ ⟨Value.ref (s.heap.objs.size + 1) :: us, []⟩ (Value.ref (s.heap.objs.size + 1) :: us) _ _ (WE W σ) (hr.make C us [])
    (J2.env0.make C us []) b r2 q) fun o t z => ?_))
  match o, z with
  | .error e, z => exact passAt tk σ pins _ _ e t J2 z
  | .ok (.ret u), z =>
    obtain ⟨v, G, J3, rv, ev, q3⟩ := J2.after z
    subst ev
    exact ⟨rv, ⟨V.ref (s.heap.objs.size + 1), G, J3, rfl, q3⟩⟩
theorem pe_makeS (M : Mk X.K C f) (pr : PromA (L2.CX X.prog X.w) X.prog X.w X.K X.mg X.base k f ps sp) (tk : Takes X W) (hr : Room (k + 1) X.A) (hg : Gl X x) (hm : X.mg x = some (.ref C)) (ha : PA X (e :: es) t) (hdb : (x == ("__debug__" : Str)) = false := by decide)
    (he : starEach (e :: es) X.env = (false, eval e X.env) :: starEach es X.env := by rfl) (hpl : (backTo pos (starEach es X.env)).any (·.1) = false := by rfl) :
    PE X (.Call (.Name x p) (e :: es) [] pos) (tMakeS C sp W t) := by
  obtain ⟨fd, F, b⟩ := pr
  refine ⟨fun pins s σ H Q J h => wpAny_Call_Name_kw (ld_glob J hg hm ?_ hdb)⟩
  exact PySem.W.callWith_K (h₀ := X.base) J.ok.mod.kin M.kp (thn (ha.run pos pins s σ H _ J h) fun us t ⟨vs, H1, J1, r, q⟩ => ⟨J1.kIn, make_runS M F hr b tk J1 r q⟩) he hpl
end
/-! len of an instance with its own __len__ -/
def rLenOwn (C : Addr) (sp : Sp) : List V → Hp → VK → Prop := fun xs H Q => ∃ a dx fs, xs = [.ref a] ∧ H a = some (.ins C dx fs) ∧ sp [.ref a] H (fun v G => ∃ n : Nat, v = .int n ∧ n < 2 ^ 40 ∧ Q (.int n) G) E0
theorem len_own {X : Cx} {k : Nat} {C f : Addr} {ps : List Str} {sp : Sp} (M : Meth X.K C "__len__" f) (pr : PromA CX0 X.prog X.w X.K X.mg X.base k f ps sp) (hr : Room (k + 1) X.A) : CallR X (.builtin "len") (rLenOwn C sp) := by
  intro pins s σ H xs us Q J r rd
  obtain ⟨a, dx, fs, rfl, ea, q⟩ := rd
  obtain ⟨u, rfl, ra⟩ := vals1 r
  cases ra
  obtain ⟨fd, F, hb⟩ := pr
  obtain ⟨mA, O, rr, _, _, _⟩ := ins_get J.hok ea
  obtain ⟨od, at_, _⟩ := O.look
  have b := hb s [.ref a] J.kIn (F.len _ _ _ _ q)
  refine Calls.call_function_entry PySem.kind_len PySem.plain_len PySem.entry_len (PySem.args_len1 _) ?_
  unfold Builtin.«len»
  refine wpAny_bind (m := oneArg "len" _) (wpAny_pure ?_)
  refine wpAny_bind (m := callSpecial? (.ref a) (Str.ofString "__len__")) (PySem.W.special_fn J.kIn at_ M.at_ (beq_iff_eq.mp M.fn) ?_)
  refine wpAny_call (codeAny_mono (F.run X.A.in1 X.stack s H ⟨[.ref a], []⟩ [.ref a] [.ref a] _ E0 hr.in1 J.env0.in1 b (.cons rfl .nil) q) fun o t z => ?_)
  match o, z with
  | .error e, z => exact pass0 pins σ H s e t J z
  | .ok (.ret u), z =>
    obtain ⟨v, G, J2, rv, n, rfl, hn, q2⟩ := J.after z
    obtain ⟨tk, rfl⟩ := rv
    show wpAny _ _ _ _ _ _
    refine wpAny_bind (wpAny_holding (wpAny_pure ?_))
    refine wpAny_bind (wpAny_letGo ?_)
    show wpAny _ _ (if ((n : Nat) : Int) < 0 then _ else _) _ _ _
    rw [if_neg (by omega)]
    show wpAny _ _ (if ((n : Nat) : Int) ≥ 2 ^ 63 then _ else _) _ _ _
    rw [if_neg (by omega)]
    exact wpAny_bind (wpAny_mkInt (wpAny_pure ⟨_, rfl, .int n, G, J2.kept fun _ _ z => z, ⟨_, rfl⟩, q2⟩))
end TS

set_option maxHeartbeats 2000000
namespace TS
open PySem PySem.Spec PyProof.Rows L2
/-- B is an own class over ValueError without an __init__ of its own -/
structure FamV (K : PySem.W.Frag) (B : Addr) : Prop where
  rd : ClX.CRead K B (.type "type")
  ini : PySem.W.findCls K (.ref B) (.type "type") "__init__" = some (.val (.builtin "ValueError.__init__"))
/-- C is an own class of exceptions over ValueError, with an __init__ of its own, and no other thing called f -/
structure OwnV (K : PySem.W.Frag) (C : Addr) (f : Str) : Prop where
  ox : OexC K C
  xf : XfC K C
  ini : PySem.W.findIn K (.ref C) "__init__" = some (some (.ref (He.ma K C "__init__")))
  fn : PySem.W.typeIn K (.ref (He.ma K C "__init__")) = some (.type "function")
  no : PySem.W.findIn K (.ref C) f = some none
section
variable {X : Cx} {B : Addr} {x : Str} {e : Expr} {es : List Expr} {ta : TA} {p1 p2 pos : Pos}
/-- B.__init__(self, ..) -/
theorem pe_famInit {pl : Sem Bool} (T : FamV X.K B) (hg : Gl X x) (hm : X.mg x = some (.ref B)) (ha : PA X (e :: es) ta) (hdb : (x == ("__debug__" : Str)) = false := by decide)
    (hc : eval (.Call (.Attribute (.Name x p1) "__init__" p2) (e :: es) [] pos) X.env = (do
      let ov ← eval (.Name x p1) X.env
      standAt p2.atName
      let (f, first) ← holding [ov] (getMethod ov "__init__" pl)
      callWith pos f first (backTo pos (starEach (e :: es) X.env)) (backToKw pos (keywordEach [] X.env))) := by rfl)
    (he : starEach (e :: es) X.env = (false, eval e X.env) :: starEach es X.env := by rfl) (hpl : (backTo pos (starEach es X.env)).any (·.1) = false := by rfl) :
    PE X (.Call (.Attribute (.Name x p1) "__init__" p2) (e :: es) [] pos) (tVeI X.K ta) := by
  refine ⟨fun pins s σ H Q J h => ?_⟩
  refine PySem.W.methodCall_KW (ld_glob J hg hm ?_ hdb) hc
  refine PySem.W.method_cls J.kIn T.rd.ga (PySem.W.cls_value J.kIn T.rd.rd T.ini rfl ?_)
  show wpAny _ _ (callWith pos (Value.builtin "ValueError.__init__") [] (backTo pos (starEach (e :: es) X.env)) []) _ _ _
  refine PyProof.Rows.callWith_method1 (thn (ha.run pos pins _ σ H _ (J.tok _) h) fun us t ⟨vs, H1, J1, r1, a, C, ws, ev, hl, O, ea, q⟩ => ?_) he hpl
  subst ev
  cases r1 with
  | @cons _ u0 _ ur ra rw' =>
    obtain rfl : u0 = Value.ref a := ra
    exact oinit_ok O J1 ea (by rw [← Paired.length rw', sizeLine_eq]; omega) fun t' J2 => ⟨.non, H1, J2, rfl, q⟩
end
/-- what the __init__ of such a class keeps -/
def spIni (C : Addr) (f : Str) : Sp := fun vs H Q _ => ∃ a v, vs = [.ref a, v] ∧ H a = some (exo a C none) ∧ ∀ dx, H dx = none → dx ≠ a → Q .non (upd (upd H dx (exd dx [(f, v)])) a (exo a C (some dx)))
/-- a reading, weakened -/
def tMono (te : TE) : TE := fun σ H Q => ∃ R : VK, te σ H R ∧ ∀ v G, R v G → Q v G
theorem pe_mono {X : Cx} {e : Expr} {te : TE} (he : PE X e te) : PE X e (tMono te) := ⟨fun pins s σ H Q J ⟨R, h, m⟩ => thn (he.run pins s σ H R J h) fun _ _ ⟨v, G, J1, r, q⟩ => ⟨v, G, J1, r, m v G q⟩⟩
/-- raise C(e) -/
def tRaise1 (C : Addr) (f : Str) (te : TE) (W : WX) : TS := fun _ σ H => te σ H fun v H1 => ∀ d, H1 d = none → W (.ref C) (some d) σ (upd H1 d (.xd [(f, v)]))
theorem upd_swap {H : Hp} {a d : Addr} {o u v w : HO} (h : d ≠ a) (n : H a = none) : upd (del (upd (upd (upd H a o) d u) a v) a) d w = upd H d w := by
  funext b
  by_cases hb : b = d
  · rw [hb, upd_same, upd_same]
  · rw [upd_ne hb, upd_ne hb]
    by_cases ha : b = a
    · rw [ha, del_same, n]
    · rw [del_ne ha, upd_ne ha, upd_ne hb, upd_ne ha]
section
variable {X : Cx} {C : Addr} {f x : Str} {k : Nat} {ps : List Str} {e : Expr} {te : TE} {W : WX} {p pos pos2 : Pos}
theorem ps_raise1 (T : OwnV X.K C f) (pr : PromA CX0 X.prog X.w X.K X.mg X.base k (He.ma X.K C "__init__") ps (spIni C f)) (hc : X.calm = true) (tk : Takes X W) (hr : Room (k + 1) X.A) (hg : Gl X x) (hm : X.mg x = some (.ref C)) (he : PE X e te)
    (hdb : (x == ("__debug__" : Str)) = false := by decide) (hs : starEach [e] X.env = (false, eval e X.env) :: starEach [] X.env := by rfl) (hpl : (backTo pos (starEach [] X.env)).any (·.1) = false := by rfl) :
    PS X (.Raise (some (.Call (.Name x p) [e] [] pos)) none pos2) (tRaise1 C f te W) := by
  obtain ⟨fd, F, b⟩ := pr
  have mk := pmk_oex (p := p) (pos := pos) (dvs := []) (ds := []) T.ox T.ini T.fn F hr b .nil pass0 hg hm (pa_cons (pe_mono he) pa_nil hs) hdb hs hpl
  refine ⟨fun pins s σ H D J h => (ps_raise hc tk mk).run pins s σ H D J ?_⟩
  refine ⟨_, h, fun v H1 q => ⟨by show 1 ≤ 1000; decide, fun a na => ⟨a, v, rfl, upd_same .., fun dx nd ne => ⟨rfl, dx, [(f, v)], upd_same .., ?_, ?_, ?_⟩⟩⟩⟩
  · rw [upd_ne ne, upd_same]
  · rw [upd_ne ne] at nd; exact nd
  · rw [upd_ne ne] at nd
    rw [upd_swap ne na]
    exact q dx nd
end
end TS

set_option maxHeartbeats 2000000
/-! ### 10. try with several clauses, named ones and others; what lies behind them is never reached -/
namespace TS
open PySem PySem.Spec PyProof.Rows L2
/-- behind a named clause its name is unbound -/
def Ends.drop (D : Ends) (i : Nat) : Ends := { nx := fun τ G => D.nx (τ.set i none) G, rt := D.rt, bk := fun τ G => D.bk (τ.set i none) G, ct := fun τ G => D.ct (τ.set i none) G }
abbrev Clause := Value × Option Nat × (Addr → Value → Option Addr → TS)
def wClauses (K : PySem.W.Frag) (D : Ends) : List Clause → WX
  | [] => fun _ _ _ _ => False
  | (c, some i, ts) :: r => fun cls d σ H => ∃ b, PySem.W.exmOne K cls c = some b ∧ (b = true → ∀ a, H a = none → ts a cls d (Ends.drop D i) (σ.set i (some (.ref a))) H) ∧ (b = false → wClauses K D r cls d σ H)
  | (c, none, ts) :: r => fun cls d σ H => ∃ b, PySem.W.exmOne K cls c = some b ∧ (b = true → ∀ a, H a = none → ts a cls d D σ H) ∧ (b = false → wClauses K D r cls d σ H)
abbrev SuiteOk (X : Cx) (st : List Stmt) (ts : Addr → Value → Option Addr → TS) : Prop :=
  ∀ (a : Addr) (oe : Obj) (cls : Value) (d : Option Addr) (pn : List (Addr × Obj)), Zc cls d oe → (∃ vs, oe.data = .fields vs) → PSs (X.suite a ((a, oe) :: pn)) st (ts a cls d)
inductive ClausesOk (X : Cx) : List ExceptHandler → List Clause → Prop
  | stop {l : List ExceptHandler} : ClausesOk X l []
  | as_ {x n : Str} {i : Nat} {c : Value} {ts : Addr → Value → Option Addr → TS} {b₀ : Stmt} {suite : List Stmt} {np pp : Pos} {l : List ExceptHandler} {r : List Clause} (hi : X.N[i]? = some n) (hln : X.env.kindOf n = some .local) (hc : Names X x c)
      (hsu : SuiteOk X (b₀ :: suite) ts) (t : ClausesOk X l r) : ClausesOk X (.ExceptHandler (some (.Name x np)) (some n) (b₀ :: suite) pp :: l) ((c, some i, ts) :: r)
  | only {x : Str} {c : Value} {ts : Addr → Value → Option Addr → TS} {b₀ : Stmt} {suite : List Stmt} {np pp : Pos} {l : List ExceptHandler} {r : List Clause} (hc : Names X x c)
      (hsu : SuiteOk X (b₀ :: suite) ts) (t : ClausesOk X l r) : ClausesOk X (.ExceptHandler (some (.Name x np)) none (b₀ :: suite) pp :: l) ((c, none, ts) :: r)
section
variable {X : Cx} {body : List Stmt} {h₀ : ExceptHandler} {hs' : List ExceptHandler} {cl : List Clause} {pos : Pos} {tb : WX → TS}
theorem ps_try (stk : X.stack = X.env :: X.outer) (frm : X.env.frame = some X.env.locals) (nod : X.N.Nodup)
    (bod : ∀ (W : WX) (pn : List (Addr × Obj)) (xe : Value → Shared → Prop), Takes (X.tr pn xe) W → PassesOwn (model X.prog X.w) X.A X.env xe → PSs (X.tr pn xe) body (tb W))
    (cls' : ClausesOk X (h₀ :: hs') cl) : PS X (.Try body (h₀ :: hs') [] [] pos) (fun D σ H => tb (wClauses X.K D cl) D σ H) := by
  refine ⟨fun pins s σ H D J rd => ?_⟩
  have xok := J.ok
  have afr : X.A.frames = some (X.env :: X.outer) := by rw [xok.frames, stk]
  refine wpAny_Try_except ?_
  refine wpAny_mono ((bod (wClauses X.K D cl) (X.pn ++ pins) (fun u t1 => wpAny (model X.prog X.w) X.A (noteFrame u X.env) (fun _ t2 => wpAny (model X.prog X.w) X.A (setFlight u none) (fun _ t3 =>
    wpAny (model X.prog X.w) X.A (handleBy u X.env (h₀ :: hs')) (SP X pins D) X.xe t3) X.xe t2) X.xe t1) (fun u t air => ?_) PassesOwn.looking).run [] s σ H D (J.toTry _) rd) (fun fl t1 sp => ?_) (fun u t1 z => z)
  · obtain ⟨a, gr, sA, pins', σ', H', cls, d, rfl, J', ngr, up, sky, na, os, ag, wish⟩ := air
    have J1 : Inv X pins σ' H' sA := J'.ofTry xok
    have sky1 : Sky gr (X.env :: X.outer) a (Zc cls d) X.env.locals t.heap := by rw [← stk]; exact sky
    show wpAny (model X.prog X.w) X.A (noteFrame (.ref a) X.env) _ _ _
    refine Sky.land Zc.steady afr frm sky1 fun h3 fl3 up3 => ?_
    have J3 : Inv X pins σ' H' { t with heap := h3 } := J1.landed ngr fl3.1 (up.trans up3) os ag
    obtain ⟨oe3, vs3, get3, zc3, dat3⟩ := fl3.there
    have off : ∀ {h : Heap} {o : Obj} {vs : Array Value}, h.FunFrames gr (X.env :: X.outer) → h.get? a = some o → o.data = .fields vs → a ∉ frs (X.env :: X.outer) := fun {h o vs} ff g dd m => by
      obtain ⟨_, o', g', nf⟩ := ff.mem m
      rw [g] at g'; cases g'
      exact nf _ dd
    have offA := off fl3.2.2.1 get3 dat3
    have neL : a ≠ X.env.locals := fun z => offA (List.mem_filterMap.mpr ⟨X.env, List.mem_cons_self, by rw [frm, z]⟩)
    have neF : a ∉ X.fs := fun m => by
      obtain ⟨en, me, q⟩ := List.mem_filterMap.mp m
      exact offA (List.mem_filterMap.mpr ⟨en, List.mem_cons_of_mem _ me, q⟩)
    have S3 := J3.suite get3 dat3 na neL neF
    have ld : ∀ {x : Str} {c : Value} {np : Pos}, Names X x c → ∀ {Q : Value → Shared → Prop} {E : Value → Shared → Prop}, Q c { t with heap := h3 } → wpAny (model X.prog X.w) (X.A.mark (some (.ref a))) (eval (.Name x np) X.env) Q E { t with heap := h3 } := fun {x c np} nm {Q E} q => by
      obtain ⟨g, db, m | ⟨m, v, nn⟩⟩ := nm
      · exact ld_glob (X := X.suite a ((a, oe3) :: (X.pn ++ pins))) S3 g m q db
      · exact ld_blt (X := X.suite a ((a, oe3) :: (X.pn ++ pins))) S3 g m v q nn db
    have LT : PySem.W.Looks (model X.prog X.w) h3 (typeOf (.ref a)) cls := fun A Q E s k q => wpAny_typeOf_ref (k _ _ get3) (by rw [zc3.1]; exact q)
    have go : ∀ {l : List ExceptHandler} {r : List Clause}, ClausesOk X l r → wClauses X.K D r cls d σ' H' → wpAny (model X.prog X.w) X.A (handleBy (.ref a) X.env l) (SP X pins D) X.xe { t with heap := h3 } := by
      intro l r ck
      induction ck with
      | stop => intro w; exact False.elim w
      | @as_ x n i c ts b₀ suite np pp l r hi hln hc hsu t2 ih =>
        intro w
        obtain ⟨b, eb, yes, no⟩ := w
        refine wpAny_handleBy_cons (codeAny_handlers_test ?_) (by intro q; cases q)
        refine ld hc ((PySem.W.exm_one (M := model X.prog X.w) J3.kIn LT eb).here ?_)
        cases b with
        | false =>
          show wpAny _ X.A (handleBy (.ref a) X.env l) _ _ _
          exact ih (no rfl)
        | true =>
          refine codeAny_handlers_suite_as ?_
          refine HandSPX.lands_againZ fl3 fun h4 fl4 up4 => ?_
          have J4 : Inv X pins σ' H' { t with heap := h4 } := J1.landed ngr fl4.1 ((up.trans up3).trans up4) os ag
          obtain ⟨oe4, vs4, get4, zc4, dat4⟩ := fl4.there
          have S4 := J4.suite get4 dat4 na neL neF
          refine store_ok (X := X.suite a ((a, oe4) :: (X.pn ++ pins))) (v := .ref a) S4 nod hi (.inl hln) rfl (fun t5 S5 => ?_) (.inr hln)
          refine wpAny_mono ((hsu a oe4 cls d (X.pn ++ pins) zc4 ⟨_, dat4⟩).run [] t5 _ H' _ S5 (yes rfl a na)) (fun fl t6 sp => ?_) (fun _ _ z => False.elim z)
          have un : ∀ {σ6 : L2.St} {H6 : Hp} {Q : Shared → Prop}, Inv (X.suite a ((a, oe4) :: (X.pn ++ pins))) [] σ6 H6 t6 → (∀ t7, Inv X pins (σ6.set i none) H6 t7 → Q t7) →
              wpAny (model X.prog X.w) X.A (do bindName X.env n .none; unbindBehindTheSuite X.env n pp) (fun _ t7 => Q t7) X.xe t6 := fun {σ6 H6 Q} S6 q => gone_ok (S6.unsuite xok) nod hi hln q
          cases fl with
          | next => exact let ⟨_, _, S6, q6⟩ := sp; un S6 fun t7 J7 => ⟨_, _, J7, q6⟩
          | brk => exact let ⟨_, _, S6, q6⟩ := sp; un S6 fun t7 J7 => ⟨_, _, J7, q6⟩
          | cont => exact let ⟨_, _, S6, q6⟩ := sp; un S6 fun t7 J7 => ⟨_, _, J7, q6⟩
          | ret u => exact let ⟨_, _, _, S6, r6, q6⟩ := sp; un S6 fun t7 J7 => ⟨_, _, _, J7, r6, q6⟩
      | @only x c ts b₀ suite np pp l r hc hsu t2 ih =>
        intro w
        obtain ⟨b, eb, yes, no⟩ := w
        refine wpAny_handleBy_cons (codeAny_handlers_test ?_) (by intro q; cases q)
        refine ld hc ((PySem.W.exm_one (M := model X.prog X.w) J3.kIn LT eb).here ?_)
        cases b with
        | false =>
          show wpAny _ X.A (handleBy (.ref a) X.env l) _ _ _
          exact ih (no rfl)
        | true =>
          refine codeAny_handlers_suite ?_
          refine HandSPX.lands_againZ fl3 fun h4 fl4 up4 => ?_
          have J4 : Inv X pins σ' H' { t with heap := h4 } := J1.landed ngr fl4.1 ((up.trans up3).trans up4) os ag
          obtain ⟨oe4, vs4, get4, zc4, dat4⟩ := fl4.there
          have S4 := J4.suite get4 dat4 na neL neF
          refine wpAny_mono ((hsu a oe4 cls d (X.pn ++ pins) zc4 ⟨_, dat4⟩).run [] _ _ H' _ S4 (yes rfl a na)) (fun fl t6 sp => ?_) (fun _ _ z => False.elim z)
          cases fl with
          | next => exact let ⟨_, _, S6, q6⟩ := sp; ⟨_, _, S6.unsuite xok, q6⟩
          | brk => exact let ⟨_, _, S6, q6⟩ := sp; ⟨_, _, S6.unsuite xok, q6⟩
          | cont => exact let ⟨_, _, S6, q6⟩ := sp; ⟨_, _, S6.unsuite xok, q6⟩
          | ret u => exact let ⟨_, _, _, S6, r6, q6⟩ := sp; ⟨_, _, _, S6.unsuite xok, r6, q6⟩
    exact go cls' wish
  · cases fl with
    | next => exact let ⟨σ', H', J', q⟩ := sp; wpAny_execs_nil ⟨σ', H', J'.ofTry xok, q⟩
    | brk => exact let ⟨σ', H', J', q⟩ := sp; ⟨σ', H', J'.ofTry xok, q⟩
    | cont => exact let ⟨σ', H', J', q⟩ := sp; ⟨σ', H', J'.ofTry xok, q⟩
    | ret u => exact let ⟨v, σ', H', J', r, q⟩ := sp; ⟨v, σ', H', J'.ofTry xok, r, q⟩
end
end TS

/-! ### 11. data: kinds, sizes -/
namespace TS
open PySem PySem.Spec PyProof.Rows L2
def tyN : PyData → String
  | .none => "NoneType"
  | .bool _ => "bool"
  | .int _ => "int"
  | .str _ => "str"
  | .list _ => "list"
  | .tuple _ => "tuple"
  | .dict _ => "dict"
theorem Dt.ty {K : PySem.W.Frag} {H : Hp} : ∀ {v : V} {d : PyData}, Dt K H v d → TyX K H v (.type (tyN d))
  | _, _, .non => .base .non
  | _, _, .bl b => .base (.bl b)
  | _, _, .int i => .base (.int i)
  | _, _, .str x => .base (.str x)
  | _, _, .lst h _ => by
    rcases h with (h | ⟨o, h⟩) | ⟨o, its, n, hk, hc, _⟩
    · exact .base (.lst h)
    · exact .base (.frz h)
    · exact .kList hk hc
  | _, _, .tup h _ => by
    rcases h with (h | ⟨o, h⟩) | ⟨o, its, n, hk, hc, _⟩
    · exact .base (.tup h)
    · exact .fTuple h
    · exact .kTuple hk hc
  | _, _, .dct h _ _ => .base (.dK h)
/-- isinstance of data -/
def isD (c : String) (d : PyData) : Bool := kitB (tyN d) c == some true
def kinds : List String := ["NoneType", "bool", "int", "str", "list", "tuple", "dict"]
theorem tyN_mem (d : PyData) : tyN d ∈ kinds := by cases d <;> simp [tyN, kinds]
section
variable {K : PySem.W.Frag} {d : PyData}
theorem isi_str : PySem.W.kitOne K (.type (tyN d)) (.type "str") = some (isD "str" d) := kit_ty ((by decide +kernel : ∀ n ∈ kinds, kitB n "str" = some (kitB n "str" == some true)) _ (tyN_mem d))
theorem isi_int : PySem.W.kitOne K (.type (tyN d)) (.type "int") = some (isD "int" d) := kit_ty ((by decide +kernel : ∀ n ∈ kinds, kitB n "int" = some (kitB n "int" == some true)) _ (tyN_mem d))
theorem isi_bool : PySem.W.kitOne K (.type (tyN d)) (.type "bool") = some (isD "bool" d) := kit_ty ((by decide +kernel : ∀ n ∈ kinds, kitB n "bool" = some (kitB n "bool" == some true)) _ (tyN_mem d))
theorem isi_list : PySem.W.kitOne K (.type (tyN d)) (.type "list") = some (isD "list" d) := kit_ty ((by decide +kernel : ∀ n ∈ kinds, kitB n "list" = some (kitB n "list" == some true)) _ (tyN_mem d))
theorem isi_tuple : PySem.W.kitOne K (.type (tyN d)) (.type "tuple") = some (isD "tuple" d) := kit_ty ((by decide +kernel : ∀ n ∈ kinds, kitB n "tuple" = some (kitB n "tuple" == some true)) _ (tyN_mem d))
theorem isi_dict : PySem.W.kitOne K (.type (tyN d)) (.type "dict") = some (isD "dict" d) := kit_ty ((by decide +kernel : ∀ n ∈ kinds, kitB n "dict" = some (kitB n "dict" == some true)) _ (tyN_mem d))
theorem isi_lt : PySem.W.kitAny K (.type (tyN d)) [.type "list", .type "tuple"] = some (isD "list" d || isD "tuple" d) :=
  kitAny_cons isi_list (fun h1 => kitAny_cons isi_tuple (fun h => by rw [h1, h]; rfl) (fun h => by rw [h, Bool.or_true])) (fun h => by rw [h, Bool.true_or])
theorem isD_str (h : isD "str" d = true) : ∃ z, d = .str z := by
  have e := (by decide +kernel : ∀ n ∈ kinds, (kitB n "str" == some true) = true → n = "str") _ (tyN_mem d) h
  cases d <;> first | exact ⟨_, rfl⟩ | exact absurd e (by simp [tyN])
theorem isD_int (h : isD "int" d = true) : (∃ i, d = .int i) ∨ ∃ b, d = .bool b := by
  have e := (by decide +kernel : ∀ n ∈ kinds, (kitB n "int" == some true) = true → n = "int" ∨ n = "bool") _ (tyN_mem d) h
  cases d <;> first | exact .inl ⟨_, rfl⟩ | exact .inr ⟨_, rfl⟩ | exact absurd e (by simp [tyN])
theorem isD_bool (h : isD "bool" d = true) : ∃ b, d = .bool b := by
  have e := (by decide +kernel : ∀ n ∈ kinds, (kitB n "bool" == some true) = true → n = "bool") _ (tyN_mem d) h
  cases d <;> first | exact ⟨_, rfl⟩ | exact absurd e (by simp [tyN])
theorem isD_list (h : isD "list" d = true) : ∃ l, d = .list l := by
  have e := (by decide +kernel : ∀ n ∈ kinds, (kitB n "list" == some true) = true → n = "list") _ (tyN_mem d) h
  cases d <;> first | exact ⟨_, rfl⟩ | exact absurd e (by simp [tyN])
theorem isD_tuple (h : isD "tuple" d = true) : ∃ l, d = .tuple l := by
  have e := (by decide +kernel : ∀ n ∈ kinds, (kitB n "tuple" == some true) = true → n = "tuple") _ (tyN_mem d) h
  cases d <;> first | exact ⟨_, rfl⟩ | exact absurd e (by simp [tyN])
theorem isD_dict (h : isD "dict" d = true) : ∃ l, d = .dict l := by
  have e := (by decide +kernel : ∀ n ∈ kinds, (kitB n "dict" == some true) = true → n = "dict") _ (tyN_mem d) h
  cases d <;> first | exact ⟨_, rfl⟩ | exact absurd e (by simp [tyN])
theorem isD_strs (z : Str) : isD "str" (.str z) = true := by show (kitB "str" "str" == some true) = true; decide +kernel
theorem isD_lists (l : List PyData) : isD "list" (.list l) = true := by show (kitB "list" "list" == some true) = true; decide +kernel
theorem isD_tuples (l : List PyData) : isD "tuple" (.tuple l) = true := by show (kitB "tuple" "tuple" == some true) = true; decide +kernel
theorem isD_ints (i : Int) : isD "int" (.int i) = true := by show (kitB "int" "int" == some true) = true; decide +kernel
theorem isD_intb (i : Int) : isD "bool" (.int i) = false := by show (kitB "int" "bool" == some true) = false; decide +kernel
theorem isD_bools (i : Bool) : isD "bool" (.bool i) = true := by show (kitB "bool" "bool" == some true) = true; decide +kernel
theorem isD_boolt (i : Bool) : isD "int" (.bool i) = true := by show (kitB "bool" "int" == some true) = true; decide +kernel
end
/-! values of data by their kind -/
section
variable {K : PySem.W.Frag} {H : Hp} {v : V}
theorem Dt.str_inv {z : Str} (h : Dt K H v (.str z)) : v = .str z := by cases h; rfl
theorem Dt.int_inv {i : Int} (h : Dt K H v (.int i)) : v = .int i := by cases h; rfl
theorem Dt.bool_inv {i : Bool} (h : Dt K H v (.bool i)) : v = .bl i := by cases h; rfl
theorem Dt.list_inv {l : List PyData} (h : Dt K H v (.list l)) : ∃ a xs, v = .ref a ∧ SqL K H a xs ∧ DtAll K H xs l := by cases h with | lst a b => exact ⟨_, _, rfl, a, b⟩
theorem Dt.tup_inv {l : List PyData} (h : Dt K H v (.tuple l)) : ∃ a xs, v = .ref a ∧ SqT K H a xs ∧ DtAll K H xs l := by cases h with | tup a b => exact ⟨_, _, rfl, a, b⟩
theorem DtAll.get : ∀ {xs : List V} {ds : List PyData} {i : Nat} {x : V}, DtAll K H xs ds → xs[i]? = some x → ∃ d, ds[i]? = some d ∧ Dt K H x d
  | _, _, 0, _, .cons h _, e => by cases e; exact ⟨_, rfl, h⟩
  | _ :: _, _ :: _, i + 1, _, .cons _ t, e => DtAll.get (i := i) t (by simpa using e)
  | _, _, _, _, .nil, e => by simp at e
theorem DtAll.getD : ∀ {xs : List V} {ds : List PyData} {i : Nat} {d : PyData}, DtAll K H xs ds → ds[i]? = some d → ∃ x, xs[i]? = some x ∧ Dt K H x d
  | _, _, 0, _, .cons h _, e => by cases e; exact ⟨_, rfl, h⟩
  | _ :: _, _ :: _, i + 1, _, .cons _ t, e => DtAll.getD (i := i) t (by simpa using e)
  | _, _, _, _, .nil, e => by simp at e
theorem DtAll.append : ∀ {xs ys : List V} {ds es : List PyData}, DtAll K H xs ds → DtAll K H ys es → DtAll K H (xs ++ ys) (ds ++ es)
  | _, _, _, _, .nil, b => b
  | _, _, _, _, .cons h t, b => .cons h (DtAll.append t b)
theorem DtAll.set : ∀ {xs : List V} {ds : List PyData} {i : Nat} {x : V} {d : PyData}, DtAll K H xs ds → Dt K H x d → DtAll K H (xs.set i x) (ds.set i d)
  | _, _, _, _, _, .nil, _ => .nil
  | _, _, 0, _, _, .cons _ t, h => .cons h t
  | _, _, i + 1, _, _, .cons a t, h => .cons a (DtAll.set t h)
theorem DtAll.of : ∀ {xs : List V} {ds : List PyData}, xs.length = ds.length → (∀ (i : Nat) (x : V) (d : PyData), xs[i]? = some x → ds[i]? = some d → Dt K H x d) → DtAll K H xs ds
  | [], [], _, _ => .nil
  | x :: xs, d :: ds, h, q => .cons (q 0 x d rfl rfl) (DtAll.of (by simpa using h) fun i y e a b => q (i + 1) y e a b)
end
/-! ### sizes: what may be shown -/
structure Shows (d : PyData) : Prop where
  ok : d.showable = true
  deep : d.depth ≤ 40
  size : d.shown.length ≤ sizeLine
def smB (k n : Nat) (d : PyData) : Bool := d.showable && decide (d.depth ≤ k) && d.leavesShort 40 && decide (d.weight ≤ n)
def Sm (k n : Nat) (d : PyData) : Prop := smB k n d = true
theorem Sm.of {k n : Nat} {d : PyData} (a : d.showable = true) (b : d.depth ≤ k) (c : d.leavesShort 40 = true) (e : d.weight ≤ n) : Sm k n d := by
  unfold Sm smB
  rw [a, decide_eq_true b, c, decide_eq_true e]; rfl
theorem Sm.to {k n : Nat} {d : PyData} (h : Sm k n d) : d.showable = true ∧ d.depth ≤ k ∧ d.leavesShort 40 = true ∧ d.weight ≤ n := by
  unfold Sm smB at h
  simp only [Bool.and_eq_true, decide_eq_true_eq] at h
  exact ⟨h.1.1.1, h.1.1.2, h.1.2, h.2⟩
theorem Sm.mono {k n k' n' : Nat} {d : PyData} (h : Sm k n d) (hk : k ≤ k') (hn : n ≤ n') : Sm k' n' d := let ⟨a, b, c, e⟩ := h.to; .of a (by omega) c (by omega)
theorem Sm.shows {k n : Nat} {d : PyData} (h : Sm k n d) (hk : k ≤ 40 := by decide) (hn : n ≤ 300000 := by decide) : Shows d := by
  obtain ⟨a, b, c, e⟩ := h.to
  refine ⟨a, by omega, Nat.le_trans (PyData.shown_le 40 (by decide) d c) ?_⟩
  rw [sizeLine_eq]
  omega
theorem Sm.str {z : Str} {k n : Nat} (hc : ∀ c ∈ z.cps.toList, c < 16 ^ 8) (h : z.length ≤ n) : Sm k n (.str z) := by
  refine .of rfl (Nat.zero_le _) ?_ h
  unfold PyData.leavesShort
  rw [List.all_eq_true]
  exact fun c m => decide_eq_true (hc c m)
section
variable {k n : Nat}
theorem all_show : ∀ {ds : List PyData}, (∀ d ∈ ds, d.showable = true) → PyData.showableAll ds = true
  | [], _ => rfl
  | d :: r, h => by unfold PyData.showableAll; rw [h d (by simp), all_show fun x m => h x (List.mem_cons_of_mem _ m)]; rfl
theorem all_deep : ∀ {ds : List PyData}, (∀ d ∈ ds, d.depth ≤ k) → PyData.depthAll ds ≤ k
  | [], _ => Nat.zero_le _
  | d :: r, h => by
    unfold PyData.depthAll
    have a := h d (by simp)
    have b := all_deep fun x m => h x (List.mem_cons_of_mem d m)
    omega
theorem all_short : ∀ {ds : List PyData}, (∀ d ∈ ds, d.leavesShort 40 = true) → PyData.leavesShortAll 40 ds = true
  | [], _ => rfl
  | d :: r, h => by unfold PyData.leavesShortAll; rw [h d (by simp), all_short fun x m => h x (List.mem_cons_of_mem _ m)]; rfl
theorem all_weight : ∀ {ds : List PyData}, (∀ d ∈ ds, d.weight ≤ n) → PyData.weightAll ds ≤ ds.length * (n + 1)
  | [], _ => Nat.zero_le _
  | d :: r, h => by
    unfold PyData.weightAll
    have a := h d (by simp)
    have b := all_weight fun x m => h x (List.mem_cons_of_mem d m)
    rw [List.length_cons, Nat.succ_mul]
    omega
theorem Sm.list {ds : List PyData} {m : Nat} (h : ∀ d ∈ ds, Sm k n d) (hl : ds.length ≤ m) : Sm (k + 1) (m * (n + 1)) (.list ds) := by
  refine .of (by unfold PyData.showable; exact all_show fun d m => (h d m).to.1) (by unfold PyData.depth; have := all_deep fun d m => (h d m).to.2.1; omega) (by unfold PyData.leavesShort; exact all_short fun d m => (h d m).to.2.2.1) ?_
  unfold PyData.weight
  exact Nat.le_trans (all_weight fun d m => (h d m).to.2.2.2) (Nat.mul_le_mul_right _ hl)
theorem Sm.tuple {ds : List PyData} {m : Nat} (h : ∀ d ∈ ds, Sm k n d) (hl : ds.length ≤ m) : Sm (k + 1) (m * (n + 1)) (.tuple ds) := by
  refine .of (by unfold PyData.showable; exact all_show fun d m => (h d m).to.1) (by unfold PyData.depth; have := all_deep fun d m => (h d m).to.2.1; omega) (by unfold PyData.leavesShort; exact all_short fun d m => (h d m).to.2.2.1) ?_
  unfold PyData.weight
  exact Nat.le_trans (all_weight fun d m => (h d m).to.2.2.2) (Nat.mul_le_mul_right _ hl)
end
/-! small numbers -/
theorem Sm.int {i : Int} {k : Nat} (h0 : -100 ≤ i) (h1 : i ≤ 150) : Sm k 10 (.int i) := by
  have all : ∀ j ∈ (List.range 251).map (fun n : Nat => (n : Int) - 100), smB 0 10 (.int j) = true := by decide +kernel
  have m : i ∈ (List.range 251).map (fun n : Nat => (n : Int) - 100) := List.mem_map.mpr ⟨(i + 100).toNat, List.mem_range.mpr (by omega), by omega⟩
  exact Sm.mono (k := 0) (all i m) (Nat.zero_le _) (Nat.le_refl _)
theorem Sm.bool {b : Bool} {k n : Nat} : Sm k n (.bool b) := .of rfl (Nat.zero_le _) rfl (Nat.zero_le _)
theorem Sm.none {k n : Nat} : Sm k n .none := .of rfl (Nat.zero_le _) rfl (Nat.zero_le _)
end TS

/-! ### 12. walks over lists or tuples; comprehensions whose turns only add to the heap -/
namespace TS
open PySem PySem.Spec PyProof.Rows L2
theorem yes {σ : L2.St} {H : Hp} {C : Bool → Hp → Prop} (h : C true H) : tYes σ H C := h
/-- a list or a tuple -/
def Sq (K : PySem.W.Frag) (H : Hp) (a : Addr) (xs : List V) : Prop := SqL K H a xs ∨ SqT K H a xs
theorem Sq.same {K : PySem.W.Frag} {H H' : Hp} {a : Addr} {xs : List V} (e : Same H H') (h : Sq K H a xs) : Sq K H' a xs := h.imp (fun q => e.seq q) (fun q => SqT.same e q)
theorem Sq.len {K : PySem.W.Frag} {H : Hp} {a : Addr} {xs : List V} (h : Sq K H a xs) : LenV K (.ref a) H xs.length := h.imp (fun q => ⟨xs, q, rfl⟩) (fun q => ⟨xs, q, rfl⟩)
theorem seq_it {K : PySem.W.Frag} {H : Hp} {a : Addr} {xs : List V} {i : Nat} {σ : L2.St} {R : It → Hp → Prop} (hv : σ[i]? = some (some (.ref a))) (h : Sq K H a xs)
    (k : ∀ (J : It) (G : Hp → Prop), Walk J xs.length G (YAt xs) → (∀ H', Same H H' → G H') → R J H) : iList K (tVar i) σ H R ∨ iTup K (tVar i) σ H R := by
  rcases h with h | h
  · exact .inl ⟨_, hv, a, rfl, ⟨xs, h⟩, k _ _ walk_list fun _ e => e.seq h⟩
  · exact .inr ⟨_, hv, a, rfl, ⟨xs, h⟩, k _ _ walk_tup fun _ e => SqT.same e h⟩
theorem seq_it0 {K : PySem.W.Frag} {H0 H : Hp} {a : Addr} {xs : List V} {i : Nat} {σ : L2.St} {R : It → Hp → Prop} (hv : σ[i]? = some (some (.ref a))) (h : Sq K H0 a xs) (s : Same H0 H)
    (k : ∀ (J : It) (G : Hp → Prop), Walk J xs.length G (YAt xs) → (∀ H', Same H0 H' → G H') → R J H) : iList K (tVar i) σ H R ∨ iTup K (tVar i) σ H R := by
  rcases h with h | h
  · exact .inl ⟨_, hv, a, rfl, ⟨xs, s.seq h⟩, k _ _ walk_list fun _ e => e.seq h⟩
  · exact .inr ⟨_, hv, a, rfl, ⟨xs, SqT.same s h⟩, k _ _ walk_tup fun _ e => SqT.same e h⟩
section
variable {J : It} {n : Nat} {G : Hp → Prop} {Y : Nat → Hp → V → Hp → Prop}
theorem scK_it {P : Program} {w : World} (wk : Walk J n G Y) {g : TG} {tt : TT} {te : TE} {vs : List Nat} {σ : L2.St} {H1 : Hp} {D : Addr} {Qd : Hp → Prop} (Pv : Nat → Hp → Prop) (h0 : Pv 0 (upd H1 D (SetK P w D (fun _ => false) 0))) (hG : ∀ i H, i ≤ n → Pv i H → G H)
    (hs : ∀ i x H H', i < n → Pv i H → Y i H x H' → g x (wipe σ vs) H' fun σ2 H2 => wipe σ2 vs = wipe σ vs ∧ tt σ2 H2 fun b H3 =>
      if b = true then te σ2 H3 fun y H4 => ∃ (k : Key) (S : Key → Bool) (m : Nat), y = kV k ∧ H4 D = some (SetK P w D S m) ∧ m + 1 < scanBound ∧ Pv (i + 1) (upd H4 D (SetK P w D (fun j => S j || decide (j = k)) (if S k = true then m else m + 1))) else Pv (i + 1) H3) (hd : ∀ H, Pv n H → Qd H) :
    ∃ W : Nat → Nat → Hp → Prop, (∃ m, W 0 m (upd H1 D (SetK P w D (fun _ => false) 0))) ∧ ∀ i m H, W i m H →
      (J.stop i H ∧ Qd H) ∨ (J.go i H ∧ ∃ Nx : Hp → Prop, (∀ H', Nx H' → ∃ m', m' < m ∧ W (i + 1) m' H') ∧ ∀ x H', J.yld i H x H' → g x (wipe σ vs) H' fun σ2 H2 => wipe σ2 vs = wipe σ vs ∧ tt σ2 H2 fun b H3 =>
        if b = true then te σ2 H3 fun y H4 => ∃ (k : Key) (S : Key → Bool) (m : Nat), y = kV k ∧ H4 D = some (SetK P w D S m) ∧ m + 1 < scanBound ∧ Nx (upd H4 D (SetK P w D (fun j => S j || decide (j = k)) (if S k = true then m else m + 1))) else Nx H3) := by
  refine ⟨fun i m H => m = n - i ∧ i ≤ n ∧ Pv i H, ⟨n, by simp, Nat.zero_le _, h0⟩, ?_⟩
  rintro i m H ⟨rfl, hi, p⟩
  have q := hG i H hi p
  rcases Nat.lt_or_ge i n with hlt | hge
  · exact .inr ⟨wk.goes i H hlt q, Pv (i + 1), fun G' p' => ⟨n - (i + 1), by omega, rfl, hlt, p'⟩, fun x G' y => hs i x H G' hlt p (wk.yields i H x G' hlt q y)⟩
  · obtain rfl : i = n := by omega
    exact .inl ⟨wk.stops H q, hd H p⟩
theorem dc_it (wk : Walk J n G Y) {g : TG} {tt : TT} {tk tv : TE} {vs : List Nat} {σ : L2.St} {H1 : Hp} {D : Addr} {Qd : Hp → Prop} (Pv : Nat → Hp → Prop) (h0 : Pv 0 (upd H1 D (.dK []))) (hG : ∀ i H, i ≤ n → Pv i H → G H)
    (hs : ∀ i x H H', i < n → Pv i H → Y i H x H' → g x (wipe σ vs) H' fun σ2 H2 => wipe σ2 vs = wipe σ vs ∧ tt σ2 H2 fun b H3 =>
      if b = true then tk σ2 H3 fun y H4 => tv σ2 H4 fun z H5 => ∃ kvs k, y = kV k ∧ H5 D = some (.dK kvs) ∧ kvs.length < sizeLine ∧ Pv (i + 1) (upd H5 D (.dK (putK kvs k z))) else Pv (i + 1) H3) (hd : ∀ H, Pv n H → Qd H) :
    ∃ W : Nat → Nat → Hp → Prop, (∃ m, W 0 m (upd H1 D (.dK []))) ∧ ∀ i m H, W i m H →
      (J.stop i H ∧ Qd H) ∨ (J.go i H ∧ ∃ Nx : Hp → Prop, (∀ H', Nx H' → ∃ m', m' < m ∧ W (i + 1) m' H') ∧ ∀ x H', J.yld i H x H' → g x (wipe σ vs) H' fun σ2 H2 => wipe σ2 vs = wipe σ vs ∧ tt σ2 H2 fun b H3 =>
        if b = true then tk σ2 H3 fun y H4 => tv σ2 H4 fun z H5 => ∃ kvs k, y = kV k ∧ H5 D = some (.dK kvs) ∧ kvs.length < sizeLine ∧ Nx (upd H5 D (.dK (putK kvs k z))) else Nx H3) := by
  refine ⟨fun i m H => m = n - i ∧ i ≤ n ∧ Pv i H, ⟨n, by simp, Nat.zero_le _, h0⟩, ?_⟩
  rintro i m H ⟨rfl, hi, p⟩
  have q := hG i H hi p
  rcases Nat.lt_or_ge i n with hlt | hge
  · exact .inr ⟨wk.goes i H hlt q, Pv (i + 1), fun G' p' => ⟨n - (i + 1), by omega, rfl, hlt, p'⟩, fun x G' y => hs i x H G' hlt p (wk.yields i H x G' hlt q y)⟩
  · obtain rfl : i = n := by omega
    exact .inl ⟨wk.stops H q, hd H p⟩
end
/-- a list comprehension without tests, each turn adding to the heap alone: the i-th value is f i -/
theorem lc_same {J : It} {G : Hp → Prop} {xs : List V} (wk : Walk J xs.length G (YAt xs)) {H H1 : Hp} {te : TE} {vs : List Nat} {j : Nat} {σ : L2.St} {D : Addr} {Qd : Hp → Prop} (hG : ∀ H', Same H H' → G H') (hl : xs.length ≤ 100000) (s1 : Same H H1) (hD : H1 D = none) (f : Nat → V)
    (hw : ∀ x, wipe ((wipe σ vs).set j (some x)) vs = wipe σ vs)
    (step : ∀ i x H2 (C : VK), xs[i]? = some x → Same H H2 → (∀ H4, Same H2 H4 → C (f i) H4) → te ((wipe σ vs).set j (some x)) H2 C)
    (fin : ∀ H2, Same H1 H2 → H2 D = some (.lst ((List.range xs.length).map f)) → Qd H2) :
    ∃ W : Nat → Nat → Hp → Prop, (∃ m, W 0 m (upd H1 D (.lst []))) ∧ ∀ i m H, W i m H →
      (J.stop i H ∧ Qd H) ∨ (J.go i H ∧ ∃ Nx : Hp → Prop, (∀ H', Nx H' → ∃ m', m' < m ∧ W (i + 1) m' H') ∧ ∀ x H', J.yld i H x H' → gName j x (wipe σ vs) H' fun σ2 H2 => wipe σ2 vs = wipe σ vs ∧ tYes σ2 H2 fun b H3 =>
        if b = true then te σ2 H3 fun y H4 => ∃ acc, H4 D = some (.lst acc) ∧ acc.length < sizeLine ∧ Nx (upd H4 D (.lst (acc ++ [y]))) else Nx H3) := by
  refine lc_it wk (fun i G' => Same H1 G' ∧ G' D = some (.lst ((List.range i).map f))) ⟨Same.new (Same.refl _) hD, upd_same ..⟩ (fun i G' _ p => hG G' (s1.trans p.1)) ?_ (fun G' p => fin G' p.1 p.2)
  rintro i x H2 H3 hi ⟨p1, p2⟩ ⟨rfl, hx⟩
  refine ⟨hw x, ?_⟩
  unfold tYes
  dsimp only
  rw [if_pos rfl]
  refine step i x _ _ hx (s1.trans p1) fun H4 s4 => ⟨_, s4 _ _ p2, ?_, ?_, ?_⟩
  · rw [List.length_map, List.length_range]
    exact Nat.lt_of_lt_of_le hi (Nat.le_trans hl (by decide))
  · intro a o e
    rw [upd_ne (ne_of_none e hD)]
    exact s4 _ _ (p1 _ _ e)
  · rw [upd_same, List.range_succ, List.map_append]
    rfl
theorem pg_tupK {X : Cx} {K : PySem.W.Frag} {es : List Expr} {k : Nat} {t : TGs} {n : Nat} {pos : Pos} (hK : X.K = K) (hc : X.calm = true) (h : PGs X es t)
    (hn : (assignEach es X.env).length = n := by rfl) (hst : (assignEach es X.env).findIdx? (·.1) = none := by rfl) : PG X (.Tuple es k pos) (gTup K n t) := by subst hK; exact pg_tup hc h hn hst
/-- enumerate over a list or a tuple -/
theorem enum_it {K : PySem.W.Frag} {H : Hp} {a : Addr} {xs : List V} {i : Nat} {σ : L2.St} {R : It → Hp → Prop} (hv : σ[i]? = some (some (.ref a))) (h : Sq K H a xs)
    (k : ∀ (J : It) (G : Hp → Prop), Walk J xs.length G (YPair (fun i => some (.int (i : Nat))) (fun i => xs[i]?)) → (∀ H', Same H H' → G H') → R J H) : iEnum K (tCons (tVar i) tNil) σ H R ∨ iEnumT K (tCons (tVar i) tNil) σ H R := by
  rcases h with h | h
  · exact .inl ⟨_, hv, a, xs, rfl, h, k _ _ walk_enum fun _ e => e.seq h⟩
  · exact .inr ⟨_, hv, a, xs, rfl, h, k _ _ walk_enumT fun _ e => SqT.same e h⟩
end TS

/-! ### 13. draws: what a def of a bag gives back; comprehensions and loops that draw -/
namespace TS
open PySem PySem.Spec PyProof.Rows L2
theorem atI_in {α : Type} {xs : List α} {i : Int} (h0 : 0 ≤ i) (h1 : i < xs.length) : ∃ v, atI xs i = some v ∧ v ∈ xs := by
  have hj : i.toNat < xs.length := by omega
  refine ⟨xs[i.toNat], ?_, List.getElem_mem _⟩
  have e : ((i.toNat : Nat) : Int) = i := by omega
  have h := atI_nat (xs := xs) (List.getElem?_eq_getElem hj)
  rw [e] at h
  exact h
/-- the bag b drawn of (n draws left at least), all else as it was -/
structure Dr (b : Addr) (n : Nat) (H H' : Hp) : Prop where
  fx : Fx b H H'
  bag : ∃ o, H' b = some o ∧ Bag n o
theorem Dr.trans {b : Addr} {m n : Nat} {H H1 H2 : Hp} (x : Dr b m H H1) (y : Dr b n H1 H2) : Dr b n H H2 := ⟨x.fx.trans y.fx, y.bag⟩
theorem Dr.refl {b : Addr} {n : Nat} {H : Hp} (h : ∃ o, H b = some o ∧ Bag n o) : Dr b n H H := ⟨Fx.refl b H, h⟩
theorem Dr.mono {b : Addr} {m n : Nat} {H H' : Hp} (x : Dr b m H H') (h : n ≤ m) : Dr b n H H' := ⟨x.fx, let ⟨o, e, g⟩ := x.bag; ⟨o, e, g.mono h⟩⟩
theorem Dr.same {b : Addr} {n : Nat} {H H' : Hp} (e : Same H H') (h : ∃ o, H b = some o ∧ Bag n o) : Dr b n H H' := ⟨Fx.of e, let ⟨o, q, g⟩ := h; ⟨o, e _ _ q, g⟩⟩
theorem Dr.draw {b : Addr} {n : Nat} {H : Hp} {o : HO} (g : Bag n o) : Dr b n H (upd H b o) := ⟨(Fx.refl b H).upd, o, upd_same .., g⟩
theorem Dr.new {b p : Addr} {n : Nat} {H H' : Hp} {o : HO} (x : Dr b n H H') (h : H' p = none) : Dr b n H (upd H' p o) := x.trans (.same (Same.new (Same.refl _) h) x.bag)
theorem Dr.ne {b p : Addr} {n : Nat} {H H' : Hp} (x : Dr b n H H') (h : H' p = none) : p ≠ b := fun e => by
  obtain ⟨o, q, _⟩ := x.bag
  rw [e, q] at h
  cases h
theorem Dr.at {b a : Addr} {n : Nat} {H H' : Hp} {o : HO} (x : Dr b n H H') (h : a ≠ b) (e : H a = some o) : H' a = some o := x.fx a o h e
theorem Dr.hide {b : Addr} {n : Nat} {H H' : Hp} (x : Dr b n H H') : Same (hide H b) (hide H' b) := x.fx.hide
theorem Dr.free {b p : Addr} {n : Nat} {H H' : Hp} (x : Dr b n H H') (h : H' p = none) : H p = none := by
  cases e : H p with
  | none => rfl
  | some o =>
    have := x.fx p o (x.ne h) e
    rw [h] at this
    cases this
/-- a draw, by spTake -/
theorem take_of {b : Addr} {n : Nat} {H : Hp} {many : Int} {Q : VK} {E : XK} (h : ∃ o, H b = some o ∧ Bag (n + 1) o) (m0 : 0 < many) (m1 : many < 2 ^ 200) (q : ∀ (d : Int) (H' : Hp), 0 ≤ d → d < many → Dr b n H H' → Q (.int d) H') : spTake [.ref b, .int many] H Q E := by
  obtain ⟨o, e, g⟩ := h
  exact ⟨b, o, n, many, rfl, e, g, m0, m1, fun d o' h0 h1 g' => q d _ h0 h1 (.draw g')⟩
/-- the heap without the bag and the list that is being made -/
abbrev hide2 (H : Hp) (b D : Addr) : Hp := hide (hide H b) D
theorem hide2_at {H : Hp} {b D p : Addr} {o : HO} (h1 : p ≠ b) (h2 : p ≠ D) (e : H p = some o) : hide2 H b D p = some o := by show hide (hide H b) D p = some o; rw [hide_ne h2, hide_ne h1]; exact e
theorem hide2_fx {H H' : Hp} {b D : Addr} (h : ∀ a o, a ≠ b → a ≠ D → H a = some o → H' a = some o) : Same (hide2 H b D) (hide2 H' b D) := fun a o e => by
  show hide (hide H' b) D a = some o
  replace e : hide (hide H b) D a = some o := e
  have h2 : a ≠ D := fun z => by rw [z, hide_self] at e; cases e
  rw [hide_ne h2] at e ⊢
  have h1 : a ≠ b := fun z => by rw [z, hide_self] at e; cases e
  rw [hide_ne h1] at e ⊢
  exact h a o h1 h2 e
/-- a comprehension without tests, each turn drawing at most k times -/
theorem lc_draw {J : It} {m : Nat} {G : Hp → Prop} {f : Nat → V} (wk : Walk J m G (YFn f)) {b : Addr} {k N : Nat} {H1 : Hp} {te : TE} {vs : List Nat} {j : Nat} {σ : L2.St} {D : Addr} {Qd : Hp → Prop} (F : Nat → Hp → V → Prop)
    (hF : ∀ i H H' v, Same H H' → F i H v → F i H' v) (hG : ∀ H', Fx b H1 H' → G H') (hm : m ≤ 100000) (hD : H1 D = none) (hb : ∃ o, H1 b = some o ∧ Bag (N + k * m) o) (hw : ∀ x, wipe ((wipe σ vs).set j (some x)) vs = wipe σ vs)
    (step : ∀ (i n : Nat) (H2 : Hp) (C : VK), i < m → Fx b H1 H2 → (∃ o, H2 b = some o ∧ Bag (n + k) o) → (∃ o, H2 D = some o) → (∀ v H4, F i (hide2 H4 b D) v → Dr b n H2 H4 → C v H4) → te ((wipe σ vs).set j (some (f i))) H2 C)
    (fin : ∀ H2 (xs : List V), Dr b N H1 H2 → xs.length = m → (∀ (i : Nat) (v : V), xs[i]? = some v → F i (hide2 H2 b D) v) → H2 D = some (.lst xs) → D ≠ b → Qd H2) :
    ∃ W : Nat → Nat → Hp → Prop, (∃ m, W 0 m (upd H1 D (.lst []))) ∧ ∀ i m H, W i m H →
      (J.stop i H ∧ Qd H) ∨ (J.go i H ∧ ∃ Nx : Hp → Prop, (∀ H', Nx H' → ∃ m', m' < m ∧ W (i + 1) m' H') ∧ ∀ x H', J.yld i H x H' → gName j x (wipe σ vs) H' fun σ2 H2 => wipe σ2 vs = wipe σ vs ∧ tYes σ2 H2 fun b H3 =>
        if b = true then te σ2 H3 fun y H4 => ∃ acc, H4 D = some (.lst acc) ∧ acc.length < sizeLine ∧ Nx (upd H4 D (.lst (acc ++ [y]))) else Nx H3) := by
  have neD : D ≠ b := fun e => by
    obtain ⟨o, q, _⟩ := hb
    rw [e, q] at hD
    cases hD
  refine lc_it wk (fun i G' => Dr b (N + k * (m - i)) H1 G' ∧ ∃ xs : List V, xs.length = i ∧ (∀ (i : Nat) (v : V), xs[i]? = some v → F i (hide2 G' b D) v) ∧ G' D = some (.lst xs)) ⟨.same (Same.new (Same.refl _) hD) hb, [], rfl, fun i v e => by simp at e, upd_same ..⟩ (fun i G' _ p => hG G' p.1.fx) ?_ ?_
  · rintro i x H2 H3 hi ⟨dr, xs, hl, hx, eD⟩ ⟨rfl, rfl⟩
    refine ⟨hw _, yes (iteT ?_)⟩
    have ek : N + k * (m - (i + 1)) + k = N + k * (m - i) := by
      have : m - i = m - (i + 1) + 1 := by omega
      rw [this, Nat.mul_add, Nat.mul_one, Nat.add_assoc]
    refine step i (N + k * (m - (i + 1))) _ _ hi dr.fx (by rw [ek]; exact dr.bag) ⟨_, eD⟩ fun v H4 hv d4 => ⟨xs, d4.at neD eD, by rw [hl]; exact Nat.lt_of_lt_of_le hi (Nat.le_trans hm (by decide)), ⟨fun a o ha e => ?_, ?_⟩, xs ++ [v], by simp [hl], fun i2 v2 e2 => ?_, upd_same ..⟩
    · rw [upd_ne (ne_of_none e hD)]
      exact (dr.trans d4).fx a o ha e
    · obtain ⟨o, q, g⟩ := d4.bag
      exact ⟨o, by rw [upd_ne neD.symm]; exact q, g⟩
    · have s5 : Same (hide2 H4 b D) (hide2 (upd H4 D (.lst (xs ++ [v]))) b D) := hide2_fx fun a o _ h e => by rw [upd_ne h]; exact e
      rcases Nat.lt_or_ge i2 i with z | z
      · rw [List.getElem?_append_left (by omega)] at e2
        exact hF _ _ _ _ ((hide2_fx fun a o h _ e => d4.fx a o h e).trans s5) (hx i2 v2 e2)
      · rw [List.getElem?_append_right (by omega)] at e2
        have e3 : i2 = i := by
          rcases Nat.lt_or_ge i i2 with y | y
          · rw [List.getElem?_eq_none (by simp; omega)] at e2
            cases e2
          · omega
        rw [e3, hl, Nat.sub_self] at e2
        cases e2
        rw [e3]
        exact hF _ _ _ _ s5 hv
  · rintro G' ⟨dr, xs, hl, hx, eD⟩
    exact fin G' xs (by rw [Nat.sub_self] at dr; exact dr) hl hx eD neD
/-- a comprehension without tests that only adds to the heap, by any walk -/
theorem lc_sameF {J : It} {n : Nat} {G : Hp → Prop} {g : Nat → V} (wk : Walk J n G (YFn g)) {H : Hp} {te : TE} {vs : List Nat} {j : Nat} {σ : L2.St} {D : Addr} {Qd : Hp → Prop} (hG : ∀ H', Same H H' → G H') (hl : n ≤ 100000) (hD : H D = none) (f : Nat → V)
    (hw : ∀ x, wipe ((wipe σ vs).set j (some x)) vs = wipe σ vs)
    (step : ∀ i H2 (C : VK), i < n → Same H H2 → (∀ H4, Same H2 H4 → C (f i) H4) → te ((wipe σ vs).set j (some (g i))) H2 C)
    (fin : ∀ H2, Same H H2 → H2 D = some (.lst ((List.range n).map f)) → Qd H2) :
    ∃ W : Nat → Nat → Hp → Prop, (∃ m, W 0 m (upd H D (.lst []))) ∧ ∀ i m H, W i m H →
      (J.stop i H ∧ Qd H) ∨ (J.go i H ∧ ∃ Nx : Hp → Prop, (∀ H', Nx H' → ∃ m', m' < m ∧ W (i + 1) m' H') ∧ ∀ x H', J.yld i H x H' → gName j x (wipe σ vs) H' fun σ2 H2 => wipe σ2 vs = wipe σ vs ∧ tYes σ2 H2 fun b H3 =>
        if b = true then te σ2 H3 fun y H4 => ∃ acc, H4 D = some (.lst acc) ∧ acc.length < sizeLine ∧ Nx (upd H4 D (.lst (acc ++ [y]))) else Nx H3) := by
  refine lc_it wk (fun i G' => Same H G' ∧ G' D = some (.lst ((List.range i).map f))) ⟨Same.new (Same.refl _) hD, upd_same ..⟩ (fun i G' _ p => hG G' p.1) ?_ (fun G' p => fin G' p.1 p.2)
  rintro i x H2 H3 hi ⟨p1, p2⟩ ⟨rfl, rfl⟩
  refine ⟨hw _, yes (iteT (step i _ _ hi p1 fun H4 s4 => ⟨_, s4 _ _ p2, ?_, ?_, ?_⟩))⟩
  · rw [List.length_map, List.length_range]
    exact Nat.lt_of_lt_of_le hi (Nat.le_trans hl (by decide))
  · intro a o e
    rw [upd_ne (ne_of_none e hD)]
    exact s4 _ _ (p1 _ _ e)
  · rw [upd_same, List.range_succ, List.map_append]
    rfl
theorem walk_at {J : It} {n : Nat} {G : Hp → Prop} {xs : List V} (w : Walk J n G (YAt xs)) : Walk J n G (YFn fun i => xs.getD i .non) :=
  w.mono (fun _ h => h) fun i H x H' _ _ y => ⟨y.1, by show x = xs.getD i .non; rw [List.getD_eq_getElem?_getD, y.2]; rfl⟩
theorem same_of {H G : Hp} {p : Addr} {o : HO} (h : L2.upd H p o = G) (hp : H p = none) : Same H G := h ▸ Same.new (Same.refl _) hp
theorem at_of {H G : Hp} {p : Addr} {o : HO} (h : L2.upd H p o = G) : G p = some o := h ▸ upd_same ..
theorem dr_of {H G : Hp} {b : Addr} {n : Nat} {o : HO} (h : L2.upd H b o = G) (g : Bag n o) : Dr b n H G := h ▸ Dr.draw g
/-- list == [] -/
def rEqNil (K : PySem.W.Frag) : R2 := fun x y H Q => ∃ a p xs, x = .ref a ∧ y = .ref p ∧ SqL K H a xs ∧ SqL K H p [] ∧ Q (.bl xs.isEmpty) H
theorem op_eqNil {X : Cx} {K : PySem.W.Frag} (hu : X.A.units + 64 < cLine) (hK : X.K = K := by rfl) : OpR X (compareOp .Eq) (rEqNil K) := by
  subst hK
  intro pins s σ H x y v u Q J rx ry h
  obtain ⟨a, p, xs, rfl, rfl, ha, hp, q⟩ := h
  cases rx
  cases ry
  obtain ⟨its, rv, l1, _⟩ := J.list ha
  obtain ⟨its2, rv2, l2, _⟩ := J.list hp
  cases rv2
  have hl := rv.length
  cases xs with
  | nil =>
    cases rv
    exact SeqAt.eq_listAt (e := fun _ => true) l1.isList l2.isList rfl (by omega) (fun i h => by simp at h) ⟨.bl true, H, J.kept fun _ _ z => z, rfl, q⟩
  | cons x r =>
    exact SeqAt.eq_list_lengthsAt l1.isList l2.isList (by simp; intro z; rw [z] at hl; simp at hl) (by omega) ⟨.bl false, H, J.kept fun _ _ z => z, rfl, q⟩
end TS

/-! ### what the head tells of classes -/
namespace TS
open PySem PySem.Spec PyProof.Rows L2
/-- a method's datum -/
def methD (C m q : Str) (st : Stmt) : He.DefD := ⟨(C, some m), m, q, defArgs st, defBody st, defScope st, [], []⟩
theorem meth_of {K : PySem.W.Frag} {fn : List He.DefD} (c1 : fn.all (fun d => d.ok K) = true) (c2 : fn.map (fun d => He.fnW K d.at_) = fn.map He.DefD.val)
    {C m q : Str} {st : Stmt} (i : Nat) (hi : fn[i]? = some (methD C m q st)) : DefM K (He.ma K (He.ga K C) m) m q st := by
  have e1 : He.fnW K (methD C m q st).at_ = (methD C m q st).val := by
    have h1 := congrArg (·[i]?) c2
    simp only [List.getElem?_map, hi, Option.map_some] at h1
    exact Option.some.inj h1
  obtain ⟨fd, F⟩ := He.DefD.funD e1 (List.all_eq_true.mp c1 _ (List.mem_of_getElem? hi))
  exact ⟨fd, F⟩
def famB (K : PySem.W.Frag) (x : Str) : Bool := (PySem.W.readsIn K (He.ga K x) (.type "type") && He.eqO (PySem.W.specialIn K (.ref (He.ga K x)) "__getattribute__") (some (some (.builtin "type.__getattribute__")))) &&
  (match PySem.W.findCls K (.ref (He.ga K x)) (.type "type") "__init__" with
    | some (.val (.builtin s)) => decide (s = "ValueError.__init__")
    | _ => false)
theorem famB_ok {K : PySem.W.Frag} {x : Str} (h : famB K x = true) : FamV K (He.ga K x) := by
  obtain ⟨h1, h2⟩ := He.ba h
  obtain ⟨h3, h4⟩ := He.ba h1
  refine ⟨⟨h3, He.eqO_ok h4⟩, ?_⟩
  split at h2
  · rename_i s e
    rw [e, of_decide_eq_true h2]
  · cases h2
def oexB (K : PySem.W.Frag) (C : Addr) : Bool := match K.lookup C with
  | some ⟨c, dd, .cls cd, sl⟩ => (match cd.mro, sl.toList with
    | .ref C' :: bm, [k0, k1, k2, k3, some (.builtin n), k5] => decide (c = .type "type") && (decide (C' = C) && (decide (n = "ValueError.__new__") && (cd.hasDict && (!cd.hasDel && PySem.HandSPX.refsVE bm))))
    | _, _ => false)
  | _ => false
theorem oexB_ok {K : PySem.W.Frag} {C : Addr} (h : oexB K C = true) : ∃ nm q N bs bm sn sub ab col dd k0 k1 k2 k3 k5, K.lookup C = some (excClassObj nm q C N bs bm true sn sub ab col dd k0 k1 k2 k3 k5 "ValueError.__new__") ∧ PySem.HandSPX.refsVE bm = true := by
  unfold oexB at h
  split at h
  · rename_i c dd cd sl ho
    split at h
    · rename_i C' bm k0 k1 k2 k3 n k5 hm hs
      obtain ⟨a1, h⟩ := He.ba h
      obtain ⟨a2, h⟩ := He.ba h
      obtain ⟨a3, h⟩ := He.ba h
      obtain ⟨a4, h⟩ := He.ba h
      obtain ⟨a5, a6⟩ := He.ba h
      have a1 := of_decide_eq_true a1
      have a2 := of_decide_eq_true a2
      have a3 := of_decide_eq_true a3
      obtain ⟨nm, bs, mro, ns, qn, hd, sn, sb, ab, col, del⟩ := cd
      dsimp only at hm a4 a5
      have a5 : del = false := by simpa using a5
      subst a1 a2 a3 hm a4 a5
      have hsl : sl = #[k0, k1, k2, k3, some (.builtin "ValueError.__new__"), k5] := by
        obtain ⟨l⟩ := sl
        simp only at hs
        rw [hs]
      subst hsl
      exact ⟨nm, qn, ns, bs, bm, sn, sb, ab, col, dd, k0, k1, k2, k3, k5, ho, a6⟩
    · cases h
  · cases h
def ownB (K : PySem.W.Frag) (x f : Str) : Bool := (oexB K (He.ga K x) && (He.eqO (PySem.W.findIn K (.ref (He.ga K x)) "__setattr__") (some (some (.builtin "object.__setattr__"))) && (decide (PySem.W.subIn K (.ref (He.ga K x)) (.type "BaseException") = some true) &&
  (decide (PySem.W.typeIn K (.ref (He.ga K x)) = some (.type "type")) && PySem.W.keepIn K (.ref (He.ga K x)))))) && ((xfB K (He.ga K x) && He.eqO (PySem.W.findIn K (.ref (He.ga K x)) "__init__") (some (some (.ref (He.ma K (He.ga K x) "__init__"))))) &&
  (decide (PySem.W.typeIn K (.ref (He.ma K (He.ga K x) "__init__")) = some (.type "function")) && He.eqO (PySem.W.findIn K (.ref (He.ga K x)) f) (some none)))
theorem ownB_ok {K : PySem.W.Frag} {x f : Str} (h : ownB K x f = true) : OwnV K (He.ga K x) f := by
  obtain ⟨h1, h⟩ := He.ba h
  obtain ⟨a1, h1⟩ := He.ba h1
  obtain ⟨a2, h1⟩ := He.ba h1
  obtain ⟨a3, h1⟩ := He.ba h1
  obtain ⟨a4, a5⟩ := He.ba h1
  obtain ⟨h2, h⟩ := He.ba h
  obtain ⟨b1, b2⟩ := He.ba h2
  obtain ⟨b3, b4⟩ := He.ba h
  exact ⟨⟨oexB_ok a1, He.eqO_ok a2, of_decide_eq_true a3, of_decide_eq_true a4, a5⟩, xfB_ok b1, He.eqO_ok b2, of_decide_eq_true b3, He.eqO_ok b4⟩
end TS

/-! ### 14. keyword-only parameters with defaults, no other defaults -/
namespace TS
open PySem PySem.Spec PyProof.Rows L2
def DefK (K : PySem.W.Frag) (mg : Str → Option Value) (x : Str) (st : Stmt) (kws : List (Str × V)) : Prop := ∃ f fd, FunD K x x (defArgs st) (defBody st) (defScope st) [] kws f fd ∧ mg x = some (.ref f)
/-- a call with n positional values and the keywords ks keeps sp, the lacking ones being ms -/
def PromK (P : Program) (w : World) (K : PySem.W.Frag) (mg : Str → Option Value) (base : Heap) (k : Nat) (x : Str) (ps : List Str) (sp : Sp) (n : Nat) (ks : List Str) (gV : List V → List V → List V) : Prop :=
  ∃ f fd g, FnOk P w K mg base CX0 k f fd ps sp ∧ mg x = some (.ref f) ∧ PySem.W.keepIn K (.ref f) = true ∧ KBn K fd ps n ks g gV
theorem kbinds0 {K : PySem.W.Frag} {x qual : Str} {params : Arguments} {body : List Stmt} {scope : Scope} {kws : List (Str × V)} {f : Addr} {fd : FuncData} {ps : List Str} (F : FunD K x qual params body scope [] kws f fd) (n : Nat) (ks : List Str) (ms : List (Str × V))
    (g : {α : Type} → List α → List α → List α → List α) (hk : kws ≠ []) (hms : ∀ q ∈ ms, q ∈ kws) (hrel : ∀ {vs mz zs : List V} {us mv ws : List Value}, Vals vs us → Vals mz mv → Vals zs ws → Vals (g vs mz zs) (g us mv ws))
    (h : ∀ (D : Addr) (doc pm : Value) (an : Option Addr) (cdv ct : Value) (us mv ws : List Value), us.length = n → mv.length = ms.length → ws.length = ks.length →
      KwChain D ((ms.map (·.1)).zip mv) (bindArgs (PySem.W.fnOf x qual params body scope .none (.ref D) doc pm an cdv ct) ⟨us, ks.zip ws⟩) (ps.zip (g us mv ws))) :
    ∃ mv : List Value, KBn K fd ps n ks (fun us ws => g us mv ws) (fun vs zs => g vs (ms.map (·.2)) zs) := by
  obtain ⟨oc, od, dV, kV, doc, pm, an, cdv, ct, osl, rfl, lk, hcd, dd, kk⟩ := F.ex
  rcases dd with ⟨_, rfl⟩ | ⟨e, _⟩
  · rcases kk with e | ⟨D, rfl, hq⟩
    · exact absurd e hk
    · obtain ⟨mv, l, r, a⟩ := kwd_vals (ms := ms) fun q m => hq q (hms q m)
      exact ⟨mv, ⟨fun s us ws X l1 l2 => BindsTo.of_looks fun M => KwChain.looks X a (h D doc pm an cdv ct us mv ws l1 l l2), fun r1 r2 => hrel r1 r r2⟩⟩
  · exact absurd rfl e
section
variable {X : Cx} {k n : Nat} {ps ks : List Str} {sp : Sp} {x : Str} {p pos : Pos} {e : Expr} {es : List Expr} {kws : List Keyword} {t tk : TA} {gV : List V → List V → List V}
theorem pe_pcK (pr : PromK X.prog X.w X.K X.mg X.base k x ps sp n ks gV) (hr : Room k X.A) (hg : Gl X x) (ha : PA X (e :: es) t) (hkw : PK X kws tk) (hall : (backToKw pos (keywordEach kws X.env)).all (·.1.isSome) = true := by rfl)
    (hks : (backToKw pos (keywordEach kws X.env)).filterMap (·.1) = ks := by rfl) (hdb : (x == ("__debug__" : Str)) = false := by decide) (he : starEach (e :: es) X.env = (false, eval e X.env) :: starEach es X.env := by rfl)
    (hpl : ((backTo pos (starEach (e :: es) X.env)).any (·.1) || (backToKw pos (keywordEach kws X.env)).any (·.1.isNone)) = false := by rfl) :
    PE X (.Call (.Name x p) (e :: es) kws pos) (tCallN n ks.length sp gV E0 t tk) := by
  obtain ⟨f, fd, g, F, m, kp, b⟩ := pr
  exact pe_callN F hr hg m kp b pass0 ha hkw hall hks hdb he hpl
end
section
variable {P : Program} {w : World} {K : PySem.W.Frag} {mg : Str → Option Value} {base : Heap} {N ps ks : List Str} {k n : Nat} {sp : Sp} {x : Str} {st : Stmt} {kws ms : List (Str × V)}
theorem promK_mk (D : DefK K mg x st kws) (S : FnScope N ps (defScope st)) (len : ∀ vs H Q E, sp vs H Q E → vs.length = ps.length) (ms : List (Str × V)) (g : {α : Type} → List α → List α → List α → List α) (hk : kws ≠ []) (hms : ∀ q ∈ ms, q ∈ kws)
    (hrel : ∀ {vs mz zs : List V} {us mv ws : List Value}, Vals vs us → Vals mz mv → Vals zs ws → Vals (g vs mz zs) (g us mv ws))
    (h : ∀ (D : Addr) (doc pm : Value) (an : Option Addr) (cdv ct : Value) (us mv ws : List Value), us.length = n → mv.length = ms.length → ws.length = ks.length →
      KwChain D ((ms.map (·.1)).zip mv) (bindArgs (PySem.W.fnOf x x (defArgs st) (defBody st) (defScope st) .none (.ref D) doc pm an cdv ct) ⟨us, ks.zip ws⟩) (ps.zip (g us mv ws)))
    (body : ∀ (f : Addr) (cdv : Value) (A : Around) (outer : List Env) (s : Shared) (H : Hp) (vs : List V) (Q : VK) (E : XK), Room k (A.deeper (envOfC x (defScope st) s.heap.objs.size f cdv)) → sp vs H Q E →
      ∃ t, PSs (cxOf CX0 P w K mg base N x (defScope st) f cdv A outer s H E).nox (defBody st) t ∧ t { nx := fun _ H' => Q .non H', rt := Q } (start N vs) H) : PromK P w K mg base (k + 1) x ps sp n ks (fun vs zs => g vs (ms.map (·.2)) zs) := by
  obtain ⟨f, fd, F, m⟩ := D
  obtain ⟨mv, b⟩ := kbinds0 F n ks ms g hk hms hrel h
  refine ⟨f, fd, _, F.ok S len fun cdv A outer s H vs Q E hr h => ?_, m, F.kp, b⟩
  obtain ⟨t, h1, h2⟩ := body f cdv A outer s H vs Q E hr h
  exact ⟨t, h1.nox, h2⟩
end
/-- its datum -/
def defKD (x : Str) (st : Stmt) (kwd : List (Str × He.Dv)) : He.DefD := ⟨(x, none), x, x, defArgs st, defBody st, defScope st, [], kwd⟩
theorem defK_of {K : PySem.W.Frag} {h : Heap} {mg : Str → Option Value} {fn : List He.DefD} (X : K.In h) (G : h.Ns mainGlobals mg) (c1 : fn.all (fun d => d.ok K) = true) (c2 : fn.map (fun d => He.fnW K d.at_) = fn.map He.DefD.val)
    {x : Str} {st : Stmt} {kwd : List (Str × He.Dv)} (i : Nat) (hi : fn[i]? = some (defKD x st kwd)) (hg : (He.Fa.glo x).ok K = true) : DefK K mg x st (kwd.map fun q => (q.1, q.2.v K)) := by
  have e1 : He.fnW K (defKD x st kwd).at_ = (defKD x st kwd).val := by
    have h1 := congrArg (·[i]?) c2
    simp only [List.getElem?_map, hi, Option.map_some] at h1
    exact Option.some.inj h1
  obtain ⟨fd, F⟩ := He.DefD.funD e1 (List.all_eq_true.mp c1 _ (List.mem_of_getElem? hi))
  exact ⟨He.ga K x, fd, F, He.glo_ok X G hg⟩
end TS

/-! ### 15. C(e, .., k = v, ..) of an own class whose __init__ may raise -/
namespace TS
open PySem PySem.Spec PyProof.Rows L2
/-- a method with keyword-only parameters, called with n positional values (self among them) and the keywords ks -/
def PromAK (P : Program) (w : World) (K : PySem.W.Frag) (mg : Str → Option Value) (base : Heap) (k : Nat) (f : Addr) (ps : List Str) (sp : Sp) (n : Nat) (ks : List Str) (gV : List V → List V → List V) : Prop :=
  ∃ fd g, FnOk P w K mg base (L2.CX P w) k f fd ps sp ∧ KBn K fd ps n ks g gV
def tMakeSK (C : Addr) (n m : Nat) (sp : Sp) (gV : List V → List V → List V) (W : WX) (t tk : TA) : TE := fun σ H Q => t σ H fun vs H1 => tk σ H1 fun zs H2 => vs.length = n ∧ zs.length = m ∧ ∀ x dx, H2 x = none → H2 dx = none → dx ≠ x →
  sp (gV (.ref x :: vs) zs) (upd (upd H2 dx (.own x)) x (.ins C dx [])) (fun v H3 => v = .non ∧ Q (.ref x) H3) (WE W σ)
section
variable {X : Cx} {k n : Nat} {f C : Addr} {ps ks : List Str} {sp : Sp} {W : WX} {x : Str} {p pos : Pos} {e : Expr} {es : List Expr} {kws : List Keyword} {t tk : TA} {gV : List V → List V → List V}
theorem make_runSK {fd : FuncData} {g : List Value → List Value → List Value} {pins : List (Addr × Obj)} {σ : L2.St} {H : Hp} {s : Shared} {Q : VK} {us ws : List Value} {vs zs : List V} (M : Mk X.K C f) (F : FnOk X.prog X.w X.K X.mg X.base (L2.CX X.prog X.w) k f fd ps sp)
    (hr : Room (k + 1) X.A) (hb : KBn X.K fd ps (n + 1) ks g gV) (tkn : Takes X W) (J : Inv X pins σ H s) (r : Vals vs us) (rz : Vals zs ws) (l1 : vs.length = n) (l2 : zs.length = ks.length)
    (h : ∀ x dx, H x = none → H dx = none → dx ≠ x → sp (gV (.ref x :: vs) zs) (upd (upd H dx (.own x)) x (.ins C dx [])) (fun v H2 => v = .non ∧ Q (.ref x) H2) (WE W σ)) :
    wpAny (model X.prog X.w) X.A (call (.ref C) us (ks.zip ws)) (EP X pins σ Q) X.xe s := by
  have q := h (s.heap.objs.size + 1) s.heap.objs.size (J.hok.fresh (Nat.le_succ _)) (J.hok.fresh (Nat.le_refl _)) (Nat.ne_of_lt (Nat.lt_succ_self _))
  have J2 := Inv.made (C := C) J
  have r1 : Vals (V.ref (s.heap.objs.size + 1) :: vs) (Value.ref (s.heap.objs.size + 1) :: us) := .cons rfl r
  have n1 : (Value.ref (s.heap.objs.size + 1) :: us).length = n + 1 := by rw [List.length_cons, ← r.length, l1]
  refine wpAny_call (make_map (f := f) J.kIn M.makes M.init (beq_iff_eq.mp M.fn) (codeAny_mono (F.run _ X.stack _ _ ⟨Value.ref (s.heap.objs.size + 1) :: us, ks.zip ws⟩ (g (Value.ref (s.heap.objs.size + 1) :: us) ws) _ _ (WE W σ) (hr.make C us (ks.zip ws))
    (J2.env0.make C us (ks.zip ws)) (hb.to _ (Value.ref (s.heap.objs.size + 1) :: us) ws J2.kIn n1 (rz.length.symm.trans l2)) (hb.rel r1 rz) q) fun o t z => ?_))
  match o, z with
  | .error e, z => exact passAt tkn σ pins _ _ e t J2 z
  | .ok (.ret u), z =>
    obtain ⟨v, G, J3, rv, ev, q3⟩ := J2.after z
    subst ev
    exact ⟨rv, ⟨V.ref (s.heap.objs.size + 1), G, J3, rfl, q3⟩⟩
theorem pe_makeSK (M : Mk X.K C f) (pr : PromAK X.prog X.w X.K X.mg X.base k f ps sp (n + 1) ks gV) (tkn : Takes X W) (hr : Room (k + 1) X.A) (hg : Gl X x) (hm : X.mg x = some (.ref C)) (ha : PA X (e :: es) t) (hkw : PK X kws tk)
    (hall : (backToKw pos (keywordEach kws X.env)).all (·.1.isSome) = true := by rfl) (hks : (backToKw pos (keywordEach kws X.env)).filterMap (·.1) = ks := by rfl) (hdb : (x == ("__debug__" : Str)) = false := by decide)
    (he : starEach (e :: es) X.env = (false, eval e X.env) :: starEach es X.env := by rfl) (hpl : ((backTo pos (starEach (e :: es) X.env)).any (·.1) || (backToKw pos (keywordEach kws X.env)).any (·.1.isNone)) = false := by rfl) :
    PE X (.Call (.Name x p) (e :: es) kws pos) (tMakeSK C n ks.length sp gV W t tk) := by
  obtain ⟨fd, g, F, b⟩ := pr
  refine ⟨fun pins s σ H Q J h => wpAny_Call_Name_kw (ld_glob J hg hm ?_ hdb)⟩
  refine PySem.W.callWith_KW (h₀ := X.base) J.ok.mod.kin M.kp hall (thn (ha.run pos pins s σ H _ J h) fun us s1 ⟨vs, H1, J1, r, q⟩ => ?_) hpl he
  refine thn (hkw.run pos pins s1 σ H1 _ J1 q) fun ws s2 ⟨zs, H2, J2, rz, l1, l2, q2⟩ => ⟨J2.kIn, ?_⟩
  rw [hks]
  exact make_runSK M F hr b tkn J2 r rz l1 l2 q2
end
theorem units1 {k : Nat} {A : Around} (r : Room k A) : A.units + 1 < cLine := by
  have := r.units
  omega
/-! methods by their promises -/
section
variable {X : Cx} {k : Nat} {f C : Addr} {ps : List Str} {sp : Sp} {m : Str} {pos apos : Pos} {e o : Expr} {es : List Expr} {ta : TE} {t : TA}
theorem pe_pm {pl : Sem Bool} (c : Cls X.K C) (hm : Meth X.K C m f) (pr : PromA CX0 X.prog X.w X.K X.mg X.base k f ps sp) (hr : Room k X.A) (he : PE X o ta) (ha : PA X (e :: es) t)
    (hst : starEach (e :: es) X.env = (false, eval e X.env) :: starEach es X.env := by rfl) (hpl : (backTo pos (starEach es X.env)).any (·.1) = false := by rfl)
    (ht : eval (.Call (.Attribute o m apos) (e :: es) [] pos) X.env = (do
      let ov ← eval o X.env
      standAt apos.atName
      let (f, first) ← holding [ov] (getMethod ov m pl)
      callWith pos f first (backTo pos (starEach (e :: es) X.env)) (backToKw pos (keywordEach [] X.env))) := by rfl) : PE X (.Call (.Attribute o m apos) (e :: es) [] pos) (tMeth C m sp [] E0 ta t) := by
  obtain ⟨fd, F, b⟩ := pr
  exact pe_meth he c hm F hr b .nil pass0 ha hst hpl ht
theorem pe_pm0 {pl : Sem Bool} (c : Cls X.K C) (hm : Meth X.K C m f) (pr : PromA CX0 X.prog X.w X.K X.mg X.base k f ps sp) (hr : Room k X.A) (he : PE X o ta)
    (ht : eval (.Call (.Attribute o m apos) [] [] pos) X.env = (do
      let ov ← eval o X.env
      standAt apos.atName
      let (f, first) ← holding [ov] (getMethod ov m pl)
      callWith pos f first (backTo pos (starEach [] X.env)) (backToKw pos (keywordEach [] X.env))) := by rfl) : PE X (.Call (.Attribute o m apos) [] [] pos) (tMeth C m sp [] E0 ta tNil) := by
  obtain ⟨fd, F, b⟩ := pr
  exact pe_meth0 he c hm F hr b .nil pass0 ht
end
end TS

/-! ### 16. isinstance by an own class -/
namespace TS
open PySem PySem.Spec PyProof.Rows L2
structure IsC (K : PySem.W.Frag) (C : Addr) : Prop where
  cl : Cls K C
  ha : PySem.W.findIn K (.ref C) "__class__" = some (some (.builtin "object.__class__"))
  hn : PySem.W.specialIn K (.builtin "object.__class__") "__get__" = some (some (.builtin "getset_descriptor.__get__"))
  ht : PySem.W.takesIn K (.builtin "object.__class__") = some true
  hm : PySem.W.mroIn K C (.type "object") = some true
  yes : PySem.W.kitOne K (.ref C) (.ref C) = some true
  no : ∀ n ∈ kinds, PySem.W.kitOne K (.type n) (.ref C) = some false
def isCB (K : PySem.W.Frag) (C : Addr) : Bool := (He.eqO (PySem.W.findIn K (.ref C) "__class__") (some (some (.builtin "object.__class__"))) && (He.eqO (PySem.W.specialIn K (.builtin "object.__class__") "__get__") (some (some (.builtin "getset_descriptor.__get__"))) &&
  (decide (PySem.W.takesIn K (.builtin "object.__class__") = some true) && decide (PySem.W.mroIn K C (.type "object") = some true)))) && (decide (PySem.W.kitOne K (.ref C) (.ref C) = some true) && kinds.all fun n => decide (PySem.W.kitOne K (.type n) (.ref C) = some false))
theorem isCB_ok {K : PySem.W.Frag} {C : Addr} (c : Cls K C) (h : isCB K C = true) : IsC K C := by
  obtain ⟨h1, h2⟩ := He.ba h
  obtain ⟨a1, h1⟩ := He.ba h1
  obtain ⟨a2, h1⟩ := He.ba h1
  obtain ⟨a3, a4⟩ := He.ba h1
  obtain ⟨b1, b2⟩ := He.ba h2
  exact ⟨c, He.eqO_ok a1, He.eqO_ok a2, of_decide_eq_true a3, of_decide_eq_true a4, of_decide_eq_true b1, fun n m => of_decide_eq_true (List.all_eq_true.mp b2 n m)⟩
theorem IsC.ty {K : PySem.W.Frag} {C : Addr} (T : IsC K C) {H : Hp} {a dx : Addr} {fs : List (Str × V)} (e : H a = some (.ins C dx fs)) : TyX K H (.ref a) (.ref C) := .base (.ins e T.cl T.ha T.hn T.ht T.hm)
theorem IsC.data {K : PySem.W.Frag} {C : Addr} (T : IsC K C) (d : PyData) : PySem.W.kitOne K (.type (tyN d)) (.ref C) = some false := T.no _ (tyN_mem d)
end TS

/-! ### 17. terms as trees: signs in reading order, where parts end -/
namespace TS
open PySem
mutual
inductive Tm where
  | mk (s : Str) (ts : Fs)
inductive Fs where
  | nil
  | cons (t : Tm) (r : Fs)
end
def Fs.len : Fs → Nat
  | .nil => 0
  | .cons _ r => r.len + 1
mutual
def Tm.size : Tm → Nat
  | .mk _ ts => ts.size + 1
def Fs.size : Fs → Nat
  | .nil => 0
  | .cons t r => t.size + r.size
end
mutual
def Tm.flat : Tm → List Str
  | .mk s ts => s :: ts.flat
def Fs.flat : Fs → List Str
  | .nil => []
  | .cons t r => t.flat ++ r.flat
end
/-! each sign with its places -/
mutual
def Tm.wf (pl : Str → Option Nat) : Tm → Prop
  | .mk s ts => pl s = some ts.len ∧ ts.wf pl
def Fs.wf (pl : Str → Option Nat) : Fs → Prop
  | .nil => True
  | .cons t r => t.wf pl ∧ r.wf pl
end
/-! where each part ends, from the place o on -/
mutual
def Tm.ends (o : Nat) : Tm → List Nat
  | .mk s ts => (o + ts.size + 1) :: ts.ends (o + 1)
def Fs.ends (o : Nat) : Fs → List Nat
  | .nil => []
  | .cons t r => t.ends o ++ r.ends (o + t.size)
end
mutual
theorem Tm.flat_len : ∀ t : Tm, t.flat.length = t.size
  | .mk s ts => by
    unfold Tm.flat Tm.size
    rw [List.length_cons, Fs.flat_len ts]
theorem Fs.flat_len : ∀ r : Fs, r.flat.length = r.size
  | .nil => rfl
  | .cons t r => by
    unfold Fs.flat Fs.size
    rw [List.length_append, Tm.flat_len t, Fs.flat_len r]
end
mutual
theorem Tm.ends_len : ∀ (t : Tm) (o : Nat), (t.ends o).length = t.size
  | .mk s ts, o => by
    unfold Tm.ends Tm.size
    rw [List.length_cons, Fs.ends_len ts]
theorem Fs.ends_len : ∀ (r : Fs) (o : Nat), (r.ends o).length = r.size
  | .nil, _ => rfl
  | .cons t r, o => by
    unfold Fs.ends Fs.size
    rw [List.length_append, Tm.ends_len t, Fs.ends_len r]
end
theorem Tm.size_pos (t : Tm) : 0 < t.size := by
  cases t with
  | mk s ts => unfold Tm.size; omega
/-! how a list of signs is read: k parts lack -/
/-- what is lacking behind the signs; none: a sign that is none, or a sign behind the end -/
def lacks (pl : Str → Option Nat) : Nat → List Str → Option Nat
  | k, [] => some k
  | 0, _ :: _ => none
  | k + 1, z :: r => (pl z).bind fun p => lacks pl (k + p) r
def Fs.app : Fs → Fs → Fs
  | .nil, b => b
  | .cons t r, b => .cons t (r.app b)
theorem Fs.split : ∀ (r : Fs) (p k : Nat), r.len = k + p → ∃ a b : Fs, r = a.app b ∧ a.len = p ∧ b.len = k
  | r, 0, k, h => ⟨.nil, r, rfl, rfl, by simpa using h⟩
  | .nil, p + 1, k, h => by simp [Fs.len] at h
  | .cons t r, p + 1, k, h => by
    obtain ⟨a, b, e, ha, hb⟩ := Fs.split r p k (by simp only [Fs.len] at h; omega)
    exact ⟨.cons t a, b, by rw [e]; rfl, by simp only [Fs.len]; omega, hb⟩
theorem Fs.flat_app : ∀ a b : Fs, (a.app b).flat = a.flat ++ b.flat
  | .nil, b => rfl
  | .cons t r, b => by
    show t.flat ++ (r.app b).flat = (t.flat ++ r.flat) ++ b.flat
    rw [Fs.flat_app r b, List.append_assoc]
theorem Fs.wf_app {pl : Str → Option Nat} : ∀ {a b : Fs}, (a.app b).wf pl → a.wf pl ∧ b.wf pl
  | .nil, b, h => ⟨by simp [Fs.wf], h⟩
  | .cons t r, b, h => by
    have h' : t.wf pl ∧ (r.app b).wf pl := h
    obtain ⟨h1, h2⟩ := Fs.wf_app h'.2
    exact ⟨⟨h'.1, h1⟩, h2⟩
/-- signs that are read to their end are k trees -/
theorem parse {pl : Str → Option Nat} : ∀ (zs : List Str) (k : Nat), lacks pl k zs = some 0 → ∃ r : Fs, r.flat = zs ∧ r.wf pl ∧ r.len = k
  | [], k, h => by
    have e : k = 0 := by simpa [lacks] using h
    subst e
    exact ⟨.nil, rfl, by simp [Fs.wf], rfl⟩
  | z :: r, 0, h => by simp [lacks] at h
  | z :: r, k + 1, h => by
    cases hp : pl z with
    | none => simp [lacks, hp] at h
    | some p =>
      have h' : lacks pl (k + p) r = some 0 := by simpa [lacks, hp] using h
      obtain ⟨f, hf, hw, hl⟩ := parse r (k + p) h'
      obtain ⟨a, b, rfl, ha, hb⟩ := f.split p k hl
      obtain ⟨w1, w2⟩ := Fs.wf_app hw
      refine ⟨.cons (.mk z a) b, ?_, ⟨⟨by rw [ha]; exact hp, w1⟩, w2⟩, by simp only [Fs.len]; omega⟩
      show (z :: a.flat) ++ b.flat = z :: r
      rw [← hf, Fs.flat_app]
      rfl
/-! jumps from part to part -/
def jump (E : List Nat) : Nat → Nat → Option Nat
  | 0, s => some s
  | n + 1, s => (E[s]?).bind (jump E n)
theorem Tm.ends_head (t : Tm) (o : Nat) : (t.ends o)[0]? = some (o + t.size) := by
  cases t with
  | mk s ts =>
    unfold Tm.ends Tm.size
    rw [List.getElem?_cons_zero, Nat.add_assoc]
theorem Fs.jumps : ∀ (r : Fs) (o : Nat) (E : List Nat), (∀ i, i < r.size → E[o + i]? = (r.ends o)[i]?) → jump E r.len o = some (o + r.size)
  | .nil, o, E, _ => by simp [Fs.len, Fs.size, jump]
  | .cons t r, o, E, h => by
    have tp := t.size_pos
    have h0 : E[o]? = some (o + t.size) := by
      have := h 0 (by unfold Fs.size; omega)
      rw [Nat.add_zero] at this
      rw [this]
      show (t.ends o ++ r.ends (o + t.size))[0]? = _
      rw [List.getElem?_append_left (by rw [Tm.ends_len]; exact tp), Tm.ends_head]
    show (E[o]?).bind (jump E r.len) = _
    rw [h0]
    show jump E r.len (o + t.size) = _
    rw [Fs.jumps r (o + t.size) E fun i hi => ?_]
    · show _ = some (o + (t.size + r.size))
      rw [Nat.add_assoc]
    · have := h (t.size + i) (by unfold Fs.size; omega)
      rw [← Nat.add_assoc] at this
      rw [this]
      show (t.ends o ++ r.ends (o + t.size))[t.size + i]? = _
      rw [List.getElem?_append_right (by rw [Tm.ends_len]; omega), Tm.ends_len, Nat.add_sub_cancel_left]
/-- what stands at a place: its sign, its parts behind it, where it ends -/
structure NodeAt (pl : Str → Option Nat) (flat : List Str) (ends : List Nat) (o i : Nat) (s : Str) (ts : Fs) : Prop where
  sign : flat[i]? = some s
  wf : ts.wf pl
  many : pl s = some ts.len
  stop : ends[i]? = some (o + i + 1 + ts.size)
  in_ : i + ts.size < flat.length
  kids : ∀ j, j < ts.size → ends[i + 1 + j]? = (ts.ends (o + i + 1))[j]?
mutual
theorem Tm.node {pl : Str → Option Nat} : ∀ (t : Tm) (o i : Nat), t.wf pl → i < t.size → ∃ s ts, NodeAt pl t.flat (t.ends o) o i s ts
  | .mk s ts, o, 0, hw, _ => by
    have hw' : pl s = some ts.len ∧ ts.wf pl := hw
    refine ⟨s, ts, rfl, hw'.2, hw'.1, ?_, ?_, fun j hj => ?_⟩
    · show some (o + ts.size + 1) = _
      congr 1
      omega
    · rw [Tm.flat_len]
      show 0 + ts.size < ts.size + 1
      omega
    · show ((o + ts.size + 1) :: ts.ends (o + 1))[0 + 1 + j]? = _
      rw [show 0 + 1 + j = j + 1 by omega, List.getElem?_cons_succ]
  | .mk s ts, o, i + 1, hw, hi => by
    have hw' : pl s = some ts.len ∧ ts.wf pl := hw
    obtain ⟨s2, ts2, n⟩ := Fs.node ts (o + 1) i hw'.2 (by unfold Tm.size at hi; omega)
    refine ⟨s2, ts2, ?_, n.wf, n.many, ?_, ?_, fun j hj => ?_⟩
    · show (s :: ts.flat)[i + 1]? = _
      rw [List.getElem?_cons_succ]; exact n.sign
    · show ((o + ts.size + 1) :: ts.ends (o + 1))[i + 1]? = _
      rw [List.getElem?_cons_succ, n.stop]
      congr 1
      omega
    · have := n.in_
      rw [Fs.flat_len] at this
      rw [Tm.flat_len]
      show i + 1 + ts2.size < ts.size + 1
      omega
    · show ((o + ts.size + 1) :: ts.ends (o + 1))[i + 1 + 1 + j]? = _
      rw [show i + 1 + 1 + j = (i + 1 + j) + 1 by omega, List.getElem?_cons_succ, n.kids j hj, show o + 1 + i + 1 = o + (i + 1) + 1 by omega]
theorem Fs.node {pl : Str → Option Nat} : ∀ (r : Fs) (o i : Nat), r.wf pl → i < r.size → ∃ s ts, NodeAt pl r.flat (r.ends o) o i s ts
  | .nil, o, i, _, hi => absurd hi (by unfold Fs.size; omega)
  | .cons t r, o, i, hw, hi => by
    have hw' : t.wf pl ∧ r.wf pl := hw
    by_cases h : i < t.size
    · obtain ⟨s, ts, n⟩ := Tm.node t o i hw'.1 h
      have ni := n.in_
      rw [Tm.flat_len] at ni
      refine ⟨s, ts, ?_, n.wf, n.many, ?_, ?_, fun j hj => ?_⟩
      · show (t.flat ++ r.flat)[i]? = _
        rw [List.getElem?_append_left (by rw [Tm.flat_len]; exact h)]; exact n.sign
      · show (t.ends o ++ r.ends (o + t.size))[i]? = _
        rw [List.getElem?_append_left (by rw [Tm.ends_len]; exact h)]; exact n.stop
      · rw [Fs.flat_len]
        show i + ts.size < t.size + r.size
        omega
      · show (t.ends o ++ r.ends (o + t.size))[i + 1 + j]? = _
        rw [List.getElem?_append_left (by rw [Tm.ends_len]; omega)]; exact n.kids j hj
    · have hi2 : i - t.size < r.size := by unfold Fs.size at hi; omega
      obtain ⟨s, ts, n⟩ := Fs.node r (o + t.size) (i - t.size) hw'.2 hi2
      have ni := n.in_
      rw [Fs.flat_len] at ni
      refine ⟨s, ts, ?_, n.wf, n.many, ?_, ?_, fun j hj => ?_⟩
      · show (t.flat ++ r.flat)[i]? = _
        rw [List.getElem?_append_right (by rw [Tm.flat_len]; omega), Tm.flat_len]; exact n.sign
      · show (t.ends o ++ r.ends (o + t.size))[i]? = _
        rw [List.getElem?_append_right (by rw [Tm.ends_len]; omega), Tm.ends_len, n.stop]
        congr 1
        omega
      · rw [Fs.flat_len]
        show i + ts.size < t.size + r.size
        omega
      · show (t.ends o ++ r.ends (o + t.size))[i + 1 + j]? = _
        rw [List.getElem?_append_right (by rw [Tm.ends_len]; omega), Tm.ends_len, show i + 1 + j - t.size = i - t.size + 1 + j by omega, n.kids j hj, show o + t.size + (i - t.size) + 1 = o + i + 1 by omega]
end
theorem Fs.len_size : ∀ r : Fs, r.len ≤ r.size
  | .nil => Nat.le_refl _
  | .cons t r => by
    have h1 := t.size_pos
    have h2 := Fs.len_size r
    show r.len + 1 ≤ t.size + r.size
    omega
end TS

/-! ### 18. methods with keyword-only parameters -/
namespace TS
open PySem PySem.Spec PyProof.Rows L2
def DefMK (K : PySem.W.Frag) (f : Addr) (m qual : Str) (st : Stmt) (kws : List (Str × V)) : Prop := ∃ fd, FunD K m qual (defArgs st) (defBody st) (defScope st) [] kws f fd
section
variable {P : Program} {w : World} {K : PySem.W.Frag} {mg : Str → Option Value} {base : Heap} {N ps ks : List Str} {k n : Nat} {sp : Sp} {m qual : Str} {st : Stmt} {f : Addr} {kws : List (Str × V)}
theorem methXK_mk (D : DefMK K f m qual st kws) (S : FnScope N ps (defScope st)) (len : ∀ vs H Q E, sp vs H Q E → vs.length = ps.length)
    (body : ∀ (cdv : Value) (A : Around) (outer : List Env) (s : Shared) (H : Hp) (vs : List V) (Q : VK) (E : XK), Room k (A.deeper (envOfC qual (defScope st) s.heap.objs.size f cdv)) → sp vs H Q E →
      ∃ t, PSs (cxOf (L2.CX P w) P w K mg base N qual (defScope st) f cdv A outer s H E) (defBody st) t ∧ t { nx := fun _ G => Q .non G, rt := Q } (start N vs) H) :
    ∃ fd, FunD K m qual (defArgs st) (defBody st) (defScope st) [] kws f fd ∧ FnOk P w K mg base (L2.CX P w) (k + 1) f fd ps sp := by
  obtain ⟨fd, F⟩ := D
  exact ⟨fd, F, F.ok S len body⟩
theorem promAK_of (h : ∃ fd, FunD K m qual (defArgs st) (defBody st) (defScope st) [] kws f fd ∧ FnOk P w K mg base (L2.CX P w) k f fd ps sp) (n : Nat) (ks : List Str) (ms : List (Str × V)) (g : {α : Type} → List α → List α → List α → List α) (hk : kws ≠ []) (hms : ∀ q ∈ ms, q ∈ kws)
    (hrel : ∀ {vs mz zs : List V} {us mv ws : List Value}, Vals vs us → Vals mz mv → Vals zs ws → Vals (g vs mz zs) (g us mv ws))
    (hb : ∀ (D : Addr) (doc pm : Value) (an : Option Addr) (cdv ct : Value) (us mv ws : List Value), us.length = n → mv.length = ms.length → ws.length = ks.length →
      KwChain D ((ms.map (·.1)).zip mv) (bindArgs (PySem.W.fnOf m qual (defArgs st) (defBody st) (defScope st) .none (.ref D) doc pm an cdv ct) ⟨us, ks.zip ws⟩) (ps.zip (g us mv ws))) :
    PromAK P w K mg base k f ps sp n ks (fun vs zs => g vs (ms.map (·.2)) zs) := by
  obtain ⟨fd, F, ok⟩ := h
  obtain ⟨mv, b⟩ := kbinds0 F n ks ms g hk hms hrel hb
  exact ⟨fd, _, ok, b⟩
end
def methKD (C m q : Str) (st : Stmt) (kwd : List (Str × He.Dv)) : He.DefD := ⟨(C, some m), m, q, defArgs st, defBody st, defScope st, [], kwd⟩
theorem methK_of {K : PySem.W.Frag} {fn : List He.DefD} (c1 : fn.all (fun d => d.ok K) = true) (c2 : fn.map (fun d => He.fnW K d.at_) = fn.map He.DefD.val)
    {C m q : Str} {st : Stmt} {kwd : List (Str × He.Dv)} (i : Nat) (hi : fn[i]? = some (methKD C m q st kwd)) : DefMK K (He.ma K (He.ga K C) m) m q st (kwd.map fun q => (q.1, q.2.v K)) := by
  have e1 : He.fnW K (methKD C m q st kwd).at_ = (methKD C m q st kwd).val := by
    have h1 := congrArg (·[i]?) c2
    simp only [List.getElem?_map, hi, Option.map_some] at h1
    exact Option.some.inj h1
  obtain ⟨fd, F⟩ := He.DefD.funD e1 (List.all_eq_true.mp c1 _ (List.mem_of_getElem? hi))
  exact ⟨fd, F⟩
section
variable {X : Cx} {k : Nat} {ps : List Str} {sp : Sp} {x : Str} {p pos : Pos}
/-- a guarded def called with nothing -/
theorem pe_pcG0 (pr : PromG X.prog X.w X.K X.mg X.base k x ps sp) (hgd : X.A.guards = some []) (hr : Room k X.A) (hg : Gl X x) (hdb : (x == ("__debug__" : Str)) = false := by decide) :
    PE X (.Call (.Name x p) [] [] pos) (tCall sp [] E0 tNil) := by
  obtain ⟨f, fd, F, m, kp, b⟩ := pr
  refine ⟨fun pins s σ H Q I h => wpAny_Call_Name_kw (ld_glob I hg m ?_ hdb)⟩
  exact PySem.W.callWith_K0 I.kIn kp (run_G (us := []) F hgd hr b .nil pass0 I .nil h)
end
end TS

/-! ### 23. x == y by an own __eq__, both of one own class -/
namespace TS
open PySem PySem.Spec PyProof.Rows L2
def rEqOwn (C : Addr) (sp : Sp) : R2 := fun x y H Q => ∃ a b dx dy fs gs, x = .ref a ∧ y = .ref b ∧ H a = some (.ins C dx fs) ∧ H b = some (.ins C dy gs) ∧ sp [.ref a, .ref b] H (fun v G => ∃ c, v = .bl c ∧ Q (.bl c) G) E0
theorem op_eqOwn {X : Cx} {k : Nat} {C f : Addr} {ps : List Str} {sp : Sp} (M : Meth X.K C "__eq__" f) (pr : PromA CX0 X.prog X.w X.K X.mg X.base k f ps sp) (hr : Room k X.A) : OpR X (compareOp .Eq) (rEqOwn C sp) := by
  intro pins s σ H x y v u Q J rx ry rd
  obtain ⟨a, b, dx, dy, fs, gs, rfl, rfl, ha, hb, q⟩ := rd
  cases rx
  cases ry
  obtain ⟨fd, F, bn⟩ := pr
  obtain ⟨mA, O, _⟩ := ins_get J.hok ha
  obtain ⟨mB, O2, _⟩ := ins_get J.hok hb
  obtain ⟨od, look, _⟩ := O.look
  obtain ⟨od2, look2, _⟩ := O2.look
  obtain ⟨m, hF⟩ := J.fr
  show wpAny (model X.prog X.w) X.A (richCompare .Eq (.ref a) (.ref b)) (EP X pins σ Q) X.xe s
  refine PySem.W.cmp_K (op := .Eq) (tb := .ref C) hr.units0 hF J.ok.mod.kin look look2.type (by simp [PySem.W.notFirst]) M.at_ M.fn ?_
  have r2 : Vals [V.ref a, V.ref b] [Value.ref a, Value.ref b] := .cons rfl (.cons rfl .nil)
  have bd := bn s [.ref a, .ref b] J.kIn (by rw [List.append_nil]; exact F.len _ _ _ _ q)
  rw [List.append_nil] at bd
  refine wpAny_call (codeAny_mono (F.run X.A X.stack s H ⟨[.ref a, .ref b], []⟩ [.ref a, .ref b] [.ref a, .ref b] _ E0 hr J.env0 bd r2 q) fun o t z => ?_)
  match o, z with
  | .error e, z => exact pass0 pins σ H s e t J z
  | .ok (.ret u), z =>
    obtain ⟨v, G, J2, rv, c, rfl, q2⟩ := J.after z
    cases rv
    exact ⟨.bl c, G, J2, rfl, q2⟩
end TS

/-! ### C(k = v, ..) of an own class whose __init__ may raise, no positional values -/
namespace TS
open PySem PySem.Spec PyProof.Rows L2
section
variable {X : Cx} {k : Nat} {f C : Addr} {ps ks : List Str} {sp : Sp} {W : WX} {x : Str} {p pos : Pos} {kws : List Keyword} {tk : TA} {gV : List V → List V → List V}
theorem pe_makeSK0 (M : Mk X.K C f) (pr : PromAK X.prog X.w X.K X.mg X.base k f ps sp 1 ks gV) (tkn : Takes X W) (hr : Room (k + 1) X.A) (hg : Gl X x) (hm : X.mg x = some (.ref C)) (hkw : PK X kws tk)
    (hall : (backToKw pos (keywordEach kws X.env)).all (·.1.isSome) = true := by rfl) (hks : (backToKw pos (keywordEach kws X.env)).filterMap (·.1) = ks := by rfl) (hdb : (x == ("__debug__" : Str)) = false := by decide)
    (hpl : ((backTo pos (starEach [] X.env)).any (·.1) || (backToKw pos (keywordEach kws X.env)).any (·.1.isNone)) = false := by rfl) :
    PE X (.Call (.Name x p) [] kws pos) (tMakeSK C 0 ks.length sp gV W tNil tk) := by
  obtain ⟨fd, g, F, b⟩ := pr
  refine ⟨fun pins s σ H Q J h => wpAny_Call_Name_kw (ld_glob J hg hm ?_ hdb)⟩
  refine PySem.W.callWith_KW0 (h₀ := X.base) J.ok.mod.kin M.kp hall ?_ hpl
  refine thn (hkw.run pos pins s σ H _ J h) fun ws s2 ⟨zs, H2, J2, rz, l1, l2, q2⟩ => ⟨J2.kIn, ?_⟩
  rw [hks]
  exact make_runSK (us := []) (vs := []) M F hr b tkn J2 .nil rz rfl l2 q2
end
end TS

/-! ### 25. x != y by an own __eq__, both of one own class: object.__ne__ turns the answer about -/
namespace TS
open PySem PySem.Spec PyProof.Rows L2
theorem ne_bind (self : Value) : bindSpecial (.builtin "object.__ne__") self = pure (.builtin "object.__ne__", [self]) :=
  (Slot.of (T := "object") (name := "__ne__") (owner := "object") (n := "__ne__") (by rw [typeLookup_type, builtinLookup_eq_fast]; kernel_rfl) (by decide +kernel) (by decide +kernel) (by decide +kernel)
    (.inl (by decide +kernel)) (by rw [isSubtype_type]; kernel_rfl)).bind self
def neB (K : PySem.W.Frag) (C : Addr) : Bool := PySem.W.findIn K (.ref C) "__ne__" == some (some (.builtin "object.__ne__")) && PySem.W.mroIn K C (.type "object") == some true
structure NeC (K : PySem.W.Frag) (C : Addr) : Prop where
  at_ : PySem.W.findIn K (.ref C) "__ne__" = some (some (.builtin "object.__ne__"))
  top : PySem.W.mroIn K C (.type "object") = some true
theorem neB_ok {K : PySem.W.Frag} {C : Addr} (h : neB K C = true) : NeC K C := by
  obtain ⟨a, b⟩ := He.ba h
  exact ⟨beq_iff_eq.mp a, beq_iff_eq.mp b⟩
section
variable {prog : Program} {w : World} {A : Around} {E : Value → Shared → Prop} {s : Shared} {K : PySem.W.Frag} {x C L f : Addr} {h₀ : Heap} {m : Str → Option Value} {ox : Obj} {od : Option Obj} {b tb : Value}
theorem ne_slotK {Q : Option Value → Shared → Prop} (hu : A.units + 1 < cLine) (X : K.In s.heap) (I : PySem.W.InstAt s.heap x ox C od) (N : NeC K C) (hs : PySem.W.findIn K (.ref C) "__eq__" = some (some (.ref f))) (hf : PySem.W.isFn K (.ref f) = true)
    (h : wpAny (model prog w) A.in1 (call (.ref f) [.ref x, b]) (fun v s' => ∃ c, v = .bool c ∧ Q (some (.bool (!c))) s') E s) : wpAny (model prog w) A (callSpecialIfBound? (.ref x) "__ne__" [b]) Q E s := by
  have body : wpAny (model prog w) A (call (.builtin "object.__ne__") [.ref x, b]) (fun v => Q (some v)) E s := by
    refine wpAny_call (codeAny_call_builtin (by decide +kernel) F.cmpEntry_ne (PySem.W.check_slot F.cmpKind_ne F.cmpSplit_ne (I.type.andThen (PySem.W.looks_subIn X N.top)) (F.cmpArgs_ne _ _) ?_))
    unfold Builtin.«object.__ne__»
    refine wpAny_bind (wpAny_of_eq rfl ?_)
    show wpAny _ _ (cRoomFor "comparison" [.ref x, b] >>= _) _ _ _
    refine wpAny_bind (wpAny_cRoomFor hu ?_)
    refine wpAny_bind (PySem.W.ifBound_K X I hs hf (wpAny_mono h (fun v s' hv => ?_) fun _ _ e => e))
    obtain ⟨c, rfl, q⟩ := hv
    refine wpAny_bind (wpAny_truthy_bool ?_)
    exact wpAny_pure q
  simp only [callSpecialIfBound?, bindSpecialIfBound?]
  refine wpAny_holding (wpAny_bind (wpAny_bind (wpAny_bind (I.type.here ((PySem.W.looks_findIn X N.at_).here ?_)))))
  refine wpAny_bind (wpAny_askSetting (wpAny_ite ?_))
  have fin : wpAny (model prog w) A (call (.builtin "object.__ne__") ([.ref x] ++ [b]) >>= fun v => pure (some v)) Q E s := wpAny_bind (wpAny_mono body (fun v s' h' => wpAny_pure h') fun _ _ h' => h')
  split
  · exact wpAny_bind (wpAny_of_eq (ne_bind _) (wpAny_pure (by exact fin)))
  · exact wpAny_tryCatch (wpAny_bind (wpAny_of_eq (ne_bind _) (wpAny_pure (by exact fin))))
theorem cmp_neK {Q : Value → Shared → Prop} (hu : A.units + 1 < cLine) (F : Fr h₀ L s.heap m) (X₀ : K.In h₀) (I : PySem.W.InstAt s.heap x ox C od) (hb : PySem.W.Looks (model prog w) s.heap (typeOf b) tb) (hn : PySem.W.notFirst K C tb = true)
    (N : NeC K C) (hs : PySem.W.findIn K (.ref C) "__eq__" = some (some (.ref f))) (hf : PySem.W.isFn K (.ref f) = true)
    (h : wpAny (model prog w) A.in1 (call (.ref f) [.ref x, b]) (fun v s' => ∃ c, v = .bool c ∧ Q (.bool (!c)) s') E s) : wpAny (model prog w) A (richCompare .NotEq (.ref x) b) Q E s := by
  have X := X₀.keeps F.keep
  have one : wpAny (model prog w) A (tryCompare (.ref x) (cmpInfo .NotEq).2.1 b) (fun r s' => ∃ v, r = some v ∧ Q v s') E s := by
    unfold tryCompare
    refine wpAny_bind (ne_slotK hu X I N hs hf (wpAny_mono h (fun v s' hv => ?_) fun _ _ e => e))
    obtain ⟨c, rfl, q⟩ := hv
    exact ⟨c, rfl, wpAny_pure ⟨_, rfl, q⟩⟩
  unfold richCompare
  simp only [oneThing_ref]
  refine wpAny_holding (wpAny_bind (wpAny_cRoomFor (Nat.lt_of_succ_lt hu) ?_))
  refine wpAny_bind (I.type.here (wpAny_bind (hb.here ?_)))
  split
  · rename_i q
    have e : PySem.W.subIn K tb (.ref C) = some false := by
      rcases Bool.or_eq_true_iff.mp hn with e | e
      · rw [beq_iff_eq.mp e] at q; simp at q
      · exact beq_iff_eq.mp e
    refine wpAny_bind ((PySem.W.looks_subIn X e).here ?_)
    simp only [Bool.false_eq_true, if_false]
    refine wpAny_bind (wpAny_mono one (fun r s' z => ?_) fun _ _ e => e)
    obtain ⟨v, rfl, hq⟩ := z
    exact wpAny_pure hq
  · refine wpAny_bind (wpAny_pure ?_)
    simp only [Bool.false_eq_true, if_false]
    refine wpAny_bind (wpAny_mono one (fun r s' z => ?_) fun _ _ e => e)
    obtain ⟨v, rfl, hq⟩ := z
    exact wpAny_pure hq
end
def rNeOwn (C : Addr) (sp : Sp) : R2 := fun x y H Q => ∃ a b dx dy fs gs, x = .ref a ∧ y = .ref b ∧ H a = some (.ins C dx fs) ∧ H b = some (.ins C dy gs) ∧ sp [.ref a, .ref b] H (fun v G => ∃ c, v = .bl c ∧ Q (.bl (!c)) G) E0
theorem op_neOwn {X : Cx} {k : Nat} {C f : Addr} {ps : List Str} {sp : Sp} (M : Meth X.K C "__eq__" f) (N : NeC X.K C) (pr : PromA CX0 X.prog X.w X.K X.mg X.base k f ps sp) (hr : Room (k + 1) X.A) : OpR X (compareOp .NotEq) (rNeOwn C sp) := by
  intro pins s σ H x y v u Q J rx ry rd
  obtain ⟨a, b, dx, dy, fs, gs, rfl, rfl, ha, hb, q⟩ := rd
  cases rx
  cases ry
  obtain ⟨fd, F, bn⟩ := pr
  obtain ⟨mA, O, _⟩ := ins_get J.hok ha
  obtain ⟨mB, O2, _⟩ := ins_get J.hok hb
  obtain ⟨od, look, _⟩ := O.look
  obtain ⟨od2, look2, _⟩ := O2.look
  obtain ⟨m, hF⟩ := J.fr
  show wpAny (model X.prog X.w) X.A (richCompare .NotEq (.ref a) (.ref b)) (EP X pins σ Q) X.xe s
  have hu := hr.units
  refine cmp_neK (tb := .ref C) (by omega) hF J.ok.mod.kin look look2.type (by simp [PySem.W.notFirst]) N M.at_ M.fn ?_
  have r2 : Vals [V.ref a, V.ref b] [Value.ref a, Value.ref b] := .cons rfl (.cons rfl .nil)
  have bd := bn s [.ref a, .ref b] J.kIn (by rw [List.append_nil]; exact F.len _ _ _ _ q)
  rw [List.append_nil] at bd
  have e0 : Env0 X.prog X.w X.K X.mg X.base X.A.in1 X.stack s H := J.env0.in1
  refine wpAny_call (codeAny_mono (F.run X.A.in1 X.stack s H ⟨[.ref a, .ref b], []⟩ [.ref a, .ref b] [.ref a, .ref b] _ E0 hr.in1 e0 bd r2 q) fun o t z => ?_)
  match o, z with
  | .error e, z => exact pass0 pins σ H s e t J z
  | .ok (.ret u), z =>
    obtain ⟨v, G, J2, rv, c, rfl, q2⟩ := J.after z
    cases rv
    exact ⟨c, rfl, .bl (!c), G, J2, rfl, q2⟩
end TS

/-! ### 27. x == y, x != y, x in [..] by an own __eq__, where one of both is data or of another own class -/
namespace TS
open PySem PySem.Spec PyProof.Rows L2
/-- an own class stands apart from the kinds of data -/
structure ApK (K : PySem.W.Frag) (C : Addr) : Prop where
  l : ∀ n ∈ kinds, PySem.W.subIn K (.type n) (.ref C) = some false
  r : ∀ n ∈ kinds, PySem.W.subIn K (.ref C) (.type n) = some false
def apKB (K : PySem.W.Frag) (C : Addr) : Bool := kinds.all fun n => decide (PySem.W.subIn K (.type n) (.ref C) = some false) && decide (PySem.W.subIn K (.ref C) (.type n) = some false)
theorem apKB_ok {K : PySem.W.Frag} {C : Addr} (h : apKB K C = true) : ApK K C :=
  ⟨fun n m => of_decide_eq_true (He.ba (List.all_eq_true.mp h n m)).1, fun n m => of_decide_eq_true (He.ba (List.all_eq_true.mp h n m)).2⟩
/-! what the built-in __eq__ of data says to an instance -/
section
variable {prog : Program} {w : World} {A : Around} {E : Value → Shared → Prop} {s : Shared} {K : PySem.W.Frag} {x C dx : Addr} {Q : Value → Shared → Prop}
open SeqAt AutoSeq1 MeetsSeq in
theorem dec_int (b : Int) (u : Tok) (e : s.heap.get? x = some (PySem.W.instObj C dx)) (q : Q .notImplemented s) : wpAny (model prog w) A (call (.builtin "int.__eq__") [.int b u, .ref x]) Q E s := by
  have m : Meets (Builtin.«int.__eq__» ⟨[.int b u, .ref x], []⟩) (fun _ R s => s.heap.get? x = some (PySem.W.instObj C dx) ∧ R (.ok (.ret .notImplemented)) s) :=
    .of_wp fun prog w A R t z => by obtain ⟨h0, g, d, k, os⟩ := t; obtain ⟨hl, z⟩ := z; wp_walk using wpAny_loadPart' hl, wpAny_load hl; exact ⟨_, rfl, z⟩
  exact call_meets F.slot_int_eq rfl F.entry_int_eq (F.args_int_eq_2 _ _) m ⟨e, q⟩
open SeqAt AutoSeq1 MeetsSeq in
theorem dec_bool (b : Bool) (e : s.heap.get? x = some (PySem.W.instObj C dx)) (q : Q .notImplemented s) : wpAny (model prog w) A (call (.builtin "int.__eq__") [.bool b, .ref x]) Q E s := by
  have m : Meets (Builtin.«int.__eq__» ⟨[.bool b, .ref x], []⟩) (fun _ R s => s.heap.get? x = some (PySem.W.instObj C dx) ∧ R (.ok (.ret .notImplemented)) s) :=
    .of_wp fun prog w A R t z => by obtain ⟨h0, g, d, k, os⟩ := t; obtain ⟨hl, z⟩ := z; wp_walk using wpAny_loadPart' hl, wpAny_load hl; exact ⟨_, rfl, z⟩
  exact call_meets F.slot_bool_eq rfl F.entry_int_eq (F.args_int_eq_2 _ _) m ⟨e, q⟩
open SeqAt AutoSeq1 MeetsSeq in
theorem dec_str (b : Str) (u : Tok) (e : s.heap.get? x = some (PySem.W.instObj C dx)) (q : Q .notImplemented s) : wpAny (model prog w) A (call (.builtin "str.__eq__") [.str b u, .ref x]) Q E s := by
  have m : Meets (Builtin.«str.__eq__» ⟨[.str b u, .ref x], []⟩) (fun _ R s => s.heap.get? x = some (PySem.W.instObj C dx) ∧ R (.ok (.ret .notImplemented)) s) :=
    .of_wp fun prog w A R t z => by obtain ⟨h0, g, d, k, os⟩ := t; obtain ⟨hl, z⟩ := z; wp_walk using wpAny_loadPart' hl, wpAny_load hl; exact ⟨_, rfl, z⟩
  exact call_meets F.slot_str_eq rfl F.entry_str_eq (F.args_str_eq_2 _ _) m ⟨e, q⟩

open SeqAt in
theorem dec_non (x : Addr) (q : Q .notImplemented s) : wpAny (model prog w) A (call (.builtin "NoneType.__eq__") [.none, .ref x]) Q E s :=
  call_gives F.slot_NoneType_eq rfl F.entry_NoneType_eq (F.args_NoneType_eq_2 _ _) (NoneType___eq___none_ref_0 x) q
theorem dec_list {l : Addr} (hT : s.TypeIs (.ref l) "list") (sub : PySem.W.Looks (model prog w) s.heap (isInstance (.ref x) (.type "list")) false) (q : Q .notImplemented s) : wpAny (model prog w) A (call (.builtin "list.__eq__") [.ref l, .ref x]) Q E s := by
  refine call_meetsIn (S := fun _ R t => t = s ∧ R (.ok (.ret .notImplemented)) t) F.slot_list_eq hT F.entry_list_eq (F.args_list_eq_2 _ _) (fun A R t z => ?_) ⟨rfl, q⟩
  obtain ⟨rfl, z⟩ := z
  refine wpAny_bind (wpAny_of_eq rfl ?_)
  refine wpAny_bind (sub.here ?_)
  exact wpAny_pure z
theorem dec_tuple {l : Addr} (hT : s.TypeIs (.ref l) "tuple") (sub : PySem.W.Looks (model prog w) s.heap (isInstance (.ref x) (.type "tuple")) false) (q : Q .notImplemented s) : wpAny (model prog w) A (call (.builtin "tuple.__eq__") [.ref l, .ref x]) Q E s := by
  refine call_meetsIn (S := fun _ R t => t = s ∧ R (.ok (.ret .notImplemented)) t) F.slot_tuple_eq hT F.entry_tuple_eq (F.args_tuple_eq_2 _ _) (fun A R t z => ?_) ⟨rfl, q⟩
  obtain ⟨rfl, z⟩ := z
  refine wpAny_bind (wpAny_of_eq rfl ?_)
  refine wpAny_bind (sub.here ?_)
  exact wpAny_pure z
theorem dec_dict {l : Addr} (hT : s.TypeIs (.ref l) "dict") (sub : PySem.W.Looks (model prog w) s.heap (isInstance (.ref x) (.type "dict")) false) (q : Q .notImplemented s) : wpAny (model prog w) A (call (.builtin "dict.__eq__") [.ref l, .ref x]) Q E s := by
  refine call_meetsIn (S := fun _ R t => t = s ∧ R (.ok (.ret .notImplemented)) t) F.slot_dict_eq hT F.entry_dict_eq (F.args_dict_eq_2 _ _) (fun A R t z => ?_) ⟨rfl, q⟩
  obtain ⟨rfl, z⟩ := z
  refine wpAny_bind (wpAny_of_eq rfl ?_)
  refine wpAny_bind (sub.here ?_)
  exact wpAny_bind (wpAny_rule (wpAny_pure z))
end

section
variable {X : Cx} {pins : List (Addr × Obj)} {σ : L2.St} {H : Hp} {s : Shared} {v : V} {d : PyData} {u : Value}
theorem Dt.typ (J : Inv X pins σ H s) (h : Dt X.K H v d) (r : RelV v u) : s.TypeIs u (tyN d) := by
  cases h with
  | non => cases r; rfl
  | bl b => cases r; rfl
  | int i => obtain ⟨t, rfl⟩ := r; rfl
  | str z => obtain ⟨t, rfl⟩ := r; rfl
  | lst a b =>
    cases r
    obtain ⟨its, rv, ⟨o, n, ho, hc, _⟩, _⟩ := J.list a
    exact ⟨o, ho, hc⟩
  | tup a b =>
    cases r
    obtain ⟨its, rv, ⟨o, ho, hc, _⟩, _⟩ := J.tuple a
    exact ⟨o, ho, hc⟩
  | @dct a ks xs ds h l ha =>
    cases r
    obtain ⟨hz, hS, vs, rk, o, es, ep, ho, hx, _⟩ := (show ObjOk X.prog X.w H s.heap a (.dK (ks.zip xs)) from J.hok a _ h)
    exact ⟨o, ho, hx.1⟩
theorem Dt.looks (J : Inv X pins σ H s) (h : Dt X.K H v d) (r : RelV v u) : PySem.W.Looks (model X.prog X.w) s.heap (typeOf u) (.type (tyN d)) := by
  cases h with
  | non => cases r; exact .now
  | bl b => cases r; exact .now
  | int i => obtain ⟨t, rfl⟩ := r; exact .now
  | str z => obtain ⟨t, rfl⟩ := r; exact .now
  | lst a b =>
    cases r
    obtain ⟨its, rv, ⟨o, n, ho, hc, _⟩, _⟩ := J.list a
    exact fun A Q E s k q => wpAny_typeOf_ref (k _ _ ho) (by rw [hc]; exact q)
  | tup a b =>
    cases r
    obtain ⟨its, rv, ⟨o, ho, hc, _⟩, _⟩ := J.tuple a
    exact fun A Q E s k q => wpAny_typeOf_ref (k _ _ ho) (by rw [hc]; exact q)
  | @dct a ks xs ds h l ha =>
    cases r
    obtain ⟨hz, hS, vs, rk, o, es, ep, ho, hx, _⟩ := (show ObjOk X.prog X.w H s.heap a (.dK (ks.zip xs)) from J.hok a _ h)
    exact fun A Q E s k q => wpAny_typeOf_ref (k _ _ ho) (by rw [hx.1]; exact q)
theorem Dt.declines (J : Inv X pins σ H s) (h : Dt X.K H v d) (r : RelV v u) {x C dx : Addr} {fs : List (Str × V)} (e : H x = some (.ins C dx fs)) (ap : ApK X.K C) :
    ∃ id, Slot (tyN d) (cmpInfo .Eq).2.1 id ∧ ∀ (A : Around) (E : Value → Shared → Prop) (Q : Value → Shared → Prop), Q .notImplemented s → wpAny (model X.prog X.w) A (call (.builtin id) [u, .ref x]) Q E s := by
  have ty := Dt.typ J h r
  obtain ⟨mA, O, _⟩ := ins_get J.hok e
  obtain ⟨od, look, _⟩ := O.look
  have no : ∀ n ∈ kinds, PySem.W.Looks (model X.prog X.w) s.heap (isInstance (.ref x) (.type n)) false := fun n m => look.type.andThen (PySem.W.looks_subIn J.kIn (ap.r n m))
  have ob : s.heap.get? x = some (PySem.W.instObj C dx) := (show ObjOk X.prog X.w H s.heap x (.ins C dx fs) from J.hok x _ e).2.2.2.1
  cases h with
  | non => cases r; exact ⟨_, F.slot_NoneType_eq, fun A E Q q => dec_non x q⟩
  | bl b => cases r; exact ⟨_, F.slot_bool_eq, fun A E Q q => dec_bool b ob q⟩
  | int i => obtain ⟨t, rfl⟩ := r; exact ⟨_, F.slot_int_eq, fun A E Q q => dec_int i t ob q⟩
  | str z => obtain ⟨t, rfl⟩ := r; exact ⟨_, F.slot_str_eq, fun A E Q q => dec_str z t ob q⟩
  | lst a b => cases r; exact ⟨_, F.slot_list_eq, fun A E Q q => dec_list ty (no "list" (by decide)) q⟩
  | tup a b => cases r; exact ⟨_, F.slot_tuple_eq, fun A E Q q => dec_tuple ty (no "tuple" (by decide)) q⟩
  | dct a b c => cases r; exact ⟨_, F.slot_dict_eq, fun A E Q q => dec_dict ty (no "dict" (by decide)) q⟩
end
section
variable {prog : Program} {w : World} {A : Around} {E : Value → Shared → Prop} {s : Shared} {K : PySem.W.Frag} {x C L f : Addr} {h₀ : Heap} {m : Str → Option Value} {ox : Obj} {od : Option Obj} {a : Value}
/-- data == x: the built-in one declines, the own one is asked -/
theorem cmp_right {n id : String} {Q : Value → Shared → Prop} (hu : A.units < cLine) (Fm : Fr h₀ L s.heap m) (X₀ : K.In h₀) (I : PySem.W.InstAt s.heap x ox C od) (ha : s.TypeIs a n) (sl : Slot n (cmpInfo .Eq).2.1 id) (hr : PySem.W.subIn K (.ref C) (.type n) = some false)
    (dec : ∀ Q' : Value → Shared → Prop, Q' .notImplemented s → wpAny (model prog w) A (call (.builtin id) [a, .ref x]) Q' E s) (hs : PySem.W.findIn K (.ref C) "__eq__" = some (some (.ref f))) (hf : PySem.W.isFn K (.ref f) = true)
    (h : wpAny (model prog w) A (call (.ref f) [.ref x, a]) (PySem.W.CmpBack Q) E s) : wpAny (model prog w) A (richCompare .Eq a (.ref x)) Q E s := by
  have X := X₀.keeps Fm.keep
  have two : wpAny (model prog w) A (tryCompare (.ref x) (cmpInfo .Eq).2.2 a) (fun r s' => ∃ v, r = some v ∧ Q v s') E s := by
    unfold tryCompare
    refine wpAny_bind (PySem.W.ifBound_K X I hs hf (wpAny_mono h (fun v s' hv => ?_) fun _ _ e => e))
    cases v <;> first | exact hv.elim | exact wpAny_pure ⟨_, rfl, hv⟩
  rcases hi : cmpInfo CmpOp.Eq with ⟨sym, f1, r1⟩
  rw [hi] at sl two
  simp only [richCompare, hi, ha.oneThing_none]
  refine wpAny_holding (wpAny_bind (wpAny_cRoomFor hu ?_))
  refine wpAny_bind (wpAny_typeOf ha (wpAny_bind (I.type.here ?_)))
  have ne : (Value.type n != Value.ref C) = true := by simp
  simp only [ne, if_true]
  refine wpAny_bind ((PySem.W.looks_subIn X hr).here ?_)
  simp only [Bool.false_eq_true, if_false, Bool.not_false, if_true]
  refine wpAny_bind (m := tryCompare a _ _) (wpAny_tryCompare_declines ha sl (dec _ ⟨rfl, ?_⟩))
  refine wpAny_bind (m := tryCompare (.ref x) _ _) (wpAny_mono two (fun r s' z => ?_) fun _ _ e => e)
  obtain ⟨v, rfl, hq⟩ := z
  exact wpAny_pure hq
end
/-- y beside an instance of C: data, or an instance that C's own look is asked of first -/
def Beside (K : PySem.W.Frag) (C : Addr) (H : Hp) (y : V) : Prop := (∃ d, Dt K H y d) ∨ ∃ b C2 dy gs, y = .ref b ∧ H b = some (.ins C2 dy gs) ∧ (C2 = C ∨ PySem.W.subIn K (.ref C2) (.ref C) = some false)
/-- a place where the defs may be called -/
structure Plc (X : Cx) (k : Nat) (A : Around) : Prop where
  room : Room k A
  env : ∀ {pins : List (Addr × Obj)} {σ : L2.St} {H : Hp} {s : Shared}, Inv X pins σ H s → Env0 X.prog X.w X.K X.mg X.base A X.stack s H
theorem Plc.own {X : Cx} {k : Nat} (h : Room k X.A) : Plc X k X.A := ⟨h, fun J => J.env0⟩
theorem Plc.in1 {X : Cx} {k : Nat} {A : Around} (h : Plc X (k + 1) A) : Plc X k A.in1 := ⟨h.room.in1, fun J => (h.env J).in1⟩
/-- what a rule of == says at a place -/
def EqP (X : Cx) (A : Around) (r : R2) : Prop := ∀ (pins : List (Addr × Obj)) (s : Shared) (σ : L2.St) (H : Hp) (x y : V) (v u : Value) (Q : VK), Inv X pins σ H s → RelV x v → RelV y u → r x y H Q → wpAny (model X.prog X.w) A (richCompare .Eq v u) (EP X pins σ Q) X.xe s
theorem EqP.or {X : Cx} {A : Around} {r r' : R2} (a : EqP X A r) (b : EqP X A r') : EqP X A (fun x y H Q => r x y H Q ∨ r' x y H Q) := fun pins s σ H x y v u Q J rx ry h => h.elim (a pins s σ H x y v u Q J rx ry) (b pins s σ H x y v u Q J rx ry)
theorem EqP.op {X : Cx} {r : R2} (h : EqP X X.A r) : OpR X (compareOp .Eq) r := fun {pins s σ H x y v u Q} J rx ry rd => h pins s σ H x y v u Q J rx ry rd
def rEqL (K : PySem.W.Frag) (C : Addr) (sp : Sp) : R2 := fun x y H Q => ∃ a dx fs, x = .ref a ∧ H a = some (.ins C dx fs) ∧ Beside K C H y ∧ sp [.ref a, y] H (fun v G => ∃ c, v = .bl c ∧ Q (.bl c) G) E0
def rEqR (K : PySem.W.Frag) (C : Addr) (sp : Sp) : R2 := fun x y H Q => ∃ d a dx fs, Dt K H x d ∧ y = .ref a ∧ H a = some (.ins C dx fs) ∧ sp [.ref a, x] H (fun v G => ∃ c, v = .bl c ∧ Q (.bl c) G) E0
def rNeL (K : PySem.W.Frag) (C : Addr) (sp : Sp) : R2 := fun x y H Q => ∃ a dx fs, x = .ref a ∧ H a = some (.ins C dx fs) ∧ Beside K C H y ∧ sp [.ref a, y] H (fun v G => ∃ c, v = .bl c ∧ Q (.bl (!c)) G) E0
section
variable {X : Cx} {A : Around} {k : Nat} {C f : Addr} {ps : List Str} {sp : Sp}
theorem Beside.looks {pins : List (Addr × Obj)} {σ : L2.St} {H : Hp} {s : Shared} {y : V} {u : Value} (ap : ApK X.K C) (J : Inv X pins σ H s) (h : Beside X.K C H y) (r : RelV y u) : ∃ tb, PySem.W.Looks (model X.prog X.w) s.heap (typeOf u) tb ∧ PySem.W.notFirst X.K C tb = true := by
  rcases h with ⟨d, h⟩ | ⟨b, C2, dy, gs, rfl, e, h⟩
  · exact ⟨_, Dt.looks J h r, by unfold PySem.W.notFirst; rw [ap.l _ (tyN_mem d)]; simp⟩
  · cases r
    obtain ⟨mA, O, _⟩ := ins_get J.hok e
    obtain ⟨od, look, _⟩ := O.look
    refine ⟨_, look.type, ?_⟩
    unfold PySem.W.notFirst
    rcases h with rfl | h
    · simp
    · rw [h]; simp
theorem call_own2 {pins : List (Addr × Obj)} {σ : L2.St} {H : Hp} {s : Shared} {a : Addr} {y : V} {u : Value} {R : VK} (p : Plc X k A) (pr : PromA CX0 X.prog X.w X.K X.mg X.base k f ps sp) (J : Inv X pins σ H s) (ry : RelV y u) (q : sp [.ref a, y] H R E0) :
    wpAny (model X.prog X.w) A (call (.ref f) [.ref a, u]) (EP X pins σ R) X.xe s := by
  obtain ⟨fd, Fn, bn⟩ := pr
  have r2 : Vals [V.ref a, y] [Value.ref a, u] := .cons rfl (.cons ry .nil)
  have bd := bn s [.ref a, u] J.kIn (by rw [List.append_nil]; exact r2.length.symm.trans (Fn.len _ _ _ _ q))
  rw [List.append_nil] at bd
  refine wpAny_call (codeAny_mono (Fn.run A X.stack s H ⟨[.ref a, u], []⟩ [.ref a, u] [.ref a, y] _ E0 p.room (p.env J) bd r2 q) fun o t z => ?_)
  match o, z with
  | .error e, z => exact pass0 pins σ H s e t J z
  | .ok (.ret u), z => exact J.after z
theorem eq_left (M : Meth X.K C "__eq__" f) (ap : ApK X.K C) (pr : PromA CX0 X.prog X.w X.K X.mg X.base k f ps sp) (p : Plc X k A) : EqP X A (rEqL X.K C sp) := by
  intro pins s σ H x y v u Q J rx ry rd
  obtain ⟨a, dx, fs, rfl, ha, bs, q⟩ := rd
  cases rx
  obtain ⟨mA, O, _⟩ := ins_get J.hok ha
  obtain ⟨od, look, _⟩ := O.look
  obtain ⟨m, hF⟩ := J.fr
  obtain ⟨tb, lk, nf⟩ := bs.looks ap J ry
  refine PySem.W.cmp_K (op := .Eq) (tb := tb) p.room.units0 hF J.ok.mod.kin look lk nf M.at_ M.fn (wpAny_mono (call_own2 p pr J ry q) (fun v s' z => ?_) fun _ _ z => z)
  obtain ⟨y1, G, J2, rv, c, rfl, q2⟩ := z
  cases rv
  exact ⟨.bl c, G, J2, rfl, q2⟩
theorem eq_right (M : Meth X.K C "__eq__" f) (ap : ApK X.K C) (pr : PromA CX0 X.prog X.w X.K X.mg X.base k f ps sp) (p : Plc X k A) : EqP X A (rEqR X.K C sp) := by
  intro pins s σ H x y v u Q J rx ry rd
  obtain ⟨d, a, dx, fs, hd, rfl, ha, q⟩ := rd
  cases ry
  obtain ⟨mA, O, _⟩ := ins_get J.hok ha
  obtain ⟨od, look, _⟩ := O.look
  obtain ⟨m, hF⟩ := J.fr
  obtain ⟨id, sl, dec⟩ := Dt.declines J hd rx ha ap
  refine cmp_right p.room.units0 hF J.ok.mod.kin look (Dt.typ J hd rx) sl (ap.r _ (tyN_mem d)) (fun Q' q' => dec A _ Q' q') M.at_ M.fn (wpAny_mono (call_own2 p pr J rx q) (fun v s' z => ?_) fun _ _ z => z)
  obtain ⟨y1, G, J2, rv, c, rfl, q2⟩ := z
  cases rv
  exact ⟨.bl c, G, J2, rfl, q2⟩
theorem op_neL (M : Meth X.K C "__eq__" f) (N : NeC X.K C) (ap : ApK X.K C) (pr : PromA CX0 X.prog X.w X.K X.mg X.base k f ps sp) (hr : Room (k + 1) X.A) : OpR X (compareOp .NotEq) (rNeL X.K C sp) := by
  intro pins s σ H x y v u Q J rx ry rd
  obtain ⟨a, dx, fs, rfl, ha, bs, q⟩ := rd
  cases rx
  obtain ⟨mA, O, _⟩ := ins_get J.hok ha
  obtain ⟨od, look, _⟩ := O.look
  obtain ⟨m, hF⟩ := J.fr
  obtain ⟨tb, lk, nf⟩ := bs.looks ap J ry
  have hu := hr.units
  show wpAny (model X.prog X.w) X.A (richCompare .NotEq (.ref a) u) (EP X pins σ Q) X.xe s
  refine cmp_neK (tb := tb) (by omega) hF J.ok.mod.kin look lk nf N M.at_ M.fn (wpAny_mono (call_own2 (Plc.own hr).in1 pr J ry q) (fun v s' z => ?_) fun _ _ z => z)
  obtain ⟨y1, G, J2, rv, c, rfl, q2⟩ := z
  cases rv
  exact ⟨c, rfl, .bl (!c), G, J2, rfl, q2⟩
end
end TS

/-! ### 28. str(x), repr(x) by an own __str__, __repr__ -/
namespace TS
open PySem PySem.Spec PyProof.Rows L2
def rTxtOwn (C : Addr) (sp : Sp) : List V → Hp → VK → Prop := fun xs H Q => ∃ a dx fs, xs = [.ref a] ∧ H a = some (.ins C dx fs) ∧ sp [.ref a] H (fun v G => ∃ z, v = .str z ∧ Q (.str z) G) E0
section
variable {X : Cx} {A : Around} {k : Nat} {C f : Addr} {ps : List Str} {sp : Sp}
theorem call_own1 {pins : List (Addr × Obj)} {σ : L2.St} {H : Hp} {s : Shared} {a : Addr} {R : VK} (p : Plc X k A) (pr : PromA CX0 X.prog X.w X.K X.mg X.base k f ps sp) (J : Inv X pins σ H s) (q : sp [.ref a] H R E0) :
    wpAny (model X.prog X.w) A (call (.ref f) [.ref a]) (EP X pins σ R) X.xe s := by
  obtain ⟨fd, Fn, bn⟩ := pr
  have r2 : Vals [V.ref a] [Value.ref a] := .cons rfl .nil
  have bd := bn s [.ref a] J.kIn (by rw [List.append_nil]; exact r2.length.symm.trans (Fn.len _ _ _ _ q))
  rw [List.append_nil] at bd
  refine wpAny_call (codeAny_mono (Fn.run A X.stack s H ⟨[.ref a], []⟩ [.ref a] [.ref a] _ E0 p.room (p.env J) bd r2 q) fun o t z => ?_)
  match o, z with
  | .error e, z => exact pass0 pins σ H s e t J z
  | .ok (.ret u), z => exact J.after z
theorem str_own (M : Meth X.K C "__str__" f) (pr : PromA CX0 X.prog X.w X.K X.mg X.base k f ps sp) (hr : Room (k + 2) X.A) : CallR X (.type "str") (rTxtOwn C sp) := by
  intro pins s σ H xs us Q J r rd
  obtain ⟨a, dx, fs, rfl, ea, q⟩ := rd
  obtain ⟨u, rfl, ra⟩ := vals1 r
  cases ra
  obtain ⟨mA, O, _⟩ := ins_get J.hok ea
  obtain ⟨od, look, _⟩ := O.look
  have p2 : Plc X k X.A.in1.in1 := (Plc.own hr).in1.in1
  refine PySem.W.kso_call p2.room.units0 J.kIn look M.at_ M.fn (wpAny_mono (call_own1 p2 pr J q) (fun v s' z => ?_) fun _ _ z => z)
  obtain ⟨y1, G, J2, rv, z, rfl, q2⟩ := z
  obtain ⟨t, rfl⟩ := rv
  exact ⟨.str z, G, J2, ⟨t, rfl⟩, q2⟩
theorem repr_own (M : Meth X.K C "__repr__" f) (pr : PromA CX0 X.prog X.w X.K X.mg X.base k f ps sp) (hr : Room (k + 1) X.A) : CallR X (.builtin "repr") (rTxtOwn C sp) := by
  intro pins s σ H xs us Q J r rd
  obtain ⟨a, dx, fs, rfl, ea, q⟩ := rd
  obtain ⟨u, rfl, ra⟩ := vals1 r
  cases ra
  obtain ⟨mA, O, _⟩ := ins_get J.hok ea
  obtain ⟨od, look, _⟩ := O.look
  obtain ⟨m, hF⟩ := J.fr
  have p1 : Plc X k X.A.in1 := (Plc.own hr).in1
  refine PySem.W.repr_K p1.room.units0 hF J.ok.mod.kin look M.at_ M.fn (wpAny_mono (call_own1 p1 pr J q) (fun v s' z => ?_) fun _ _ z => z)
  obtain ⟨y1, G, J2, rv, z, rfl, q2⟩ := z
  obtain ⟨t, rfl⟩ := rv
  exact ⟨.str z, G, J2, ⟨t, rfl⟩, q2⟩
end
end TS

/-! ### 29. x in [..] by an own __eq__ -/
namespace TS
open PySem PySem.Spec PyProof.Rows L2
theorem eqBool_of {M : Model} {A : Around} {E : Value → Shared → Prop} {s : Shared} {a b : Value} {Q : Bool → Shared → Prop} (hne : a ≠ b) (nf : ∀ f t, a ≠ .float f t) (h : wpAny M A (richCompare .Eq a b) (fun v s' => ∃ c, v = .bool c ∧ Q c s') E s) :
    wpAny M A (eqBool a b) Q E s := by
  unfold eqBool
  refine wpAny_holding ?_
  refine wpAny_ite_split (fun hab => absurd (eq_of_beq hab) hne) (fun _ => ?_)
  have fin : wpAny M A (richCompare .Eq a b >>= truthOfDropped) Q E s := wpAny_bind (wpAny_mono h (fun v s' z => by obtain ⟨c, rfl, q⟩ := z; exact wpAny_truthy_bool q) fun _ _ z => z)
  cases a with
  | float f t => exact absurd rfl (nf f t)
  | _ => exact fin
section
variable {prog : Program} {w : World} {A : Around} {R : Result → Shared → Prop} {l : Addr} {x : Value} {N : Nat} {I : Nat → Shared → Prop}
open SeqAt AutoSeq1 MeetsSeq in
theorem contains_goes (turn : ∀ i t, I i t → ∃ (items : Array Value) (n : Nat) (dd : Option Addr) (sl : Array (Option Value)), t.heap.get? l = some { cls := .type "list", dict := dd, data := .seq items n, slots := sl } ∧ items.size = N ∧
      ∀ h : i < items.size, wpAny (model prog w) A.in1 (eqBool items[i] x) (fun b s' => if b = true then R (.ok (.ret (.bool true))) s' else I (i + 1) s') (fun e s' => R (.error e) s') t)
    (fin : ∀ t, I N t → R (.ok (.ret (.bool false))) t) (k : Nat) : ∀ i : Nat, N - i = k → i ≤ N → ∀ t, I i t →
      wpAny (model prog w) A.in1 (Builtin.«list.__contains__.loop» ⟨[.ref l, x, rawInt i], []⟩) (fun fin s' => match fin with | .done f => R (.ok f) s' | .again c' => c'.quiet = true ∧ codeAny (model prog w) A c' R s') (fun e s' => R (.error e) s') t := by
  induction k with
  | zero =>
    intro i hk hiN t hI
    obtain rfl : i = N := by omega
    have done := fin t hI
    obtain ⟨items, n, dd, sl, hl, hsz, _⟩ := turn i t hI
    obtain ⟨h0, g, d, tk, os⟩ := t
    wp_walk using wpAny_loadPart' hl
    have hi : items[((i : Nat) : Int).toNat]? = none := by simp; omega
    rw [hi]
    wp_walk
    exact done
  | succ k ih =>
    intro i hk hiN t hI
    obtain ⟨items, n, dd, sl, hl, hsz, step⟩ := turn i t hI
    obtain ⟨h0, g, d, tk, os⟩ := t
    wp_walk using wpAny_loadPart' hl
    have hlt : i < items.size := by omega
    have hi : items[((i : Nat) : Int).toNat]? = some items[i] := by simp [hlt]
    rw [hi]
    refine wpAny_bind (wpAny_mono (step hlt) (fun b s' z => ?_) fun _ _ z => z)
    cases b with
    | true =>
      obtain ⟨h1, g1, d1, t1, o1⟩ := s'
      wp_walk
      exact z
    | false =>
      have hc : ((i : Int) + 1) = ((i + 1 : Nat) : Int) := by push_cast; rfl
      obtain ⟨h1, g1, d1, t1, o1⟩ := s'
      wp_walk
      rw [hc]
      refine ⟨plainId_quiet plain_contains_loop _, codeAny_builtin entry_contains_loop ?_⟩
      rw [Around.under_plainId plain_contains_loop _]
      exact ih (i + 1) (by omega) (by omega) _ z
end
/-- x in the list all at p: t is what is left -/
def InR (r : R2) (p : Addr) (all : List V) (x : V) : List V → Hp → VK → Prop
  | [], H, Q => Q (.bl false) H
  | y :: t, H, Q => y ≠ x ∧ r y x H fun v G => ∃ c, v = .bl c ∧ if c = true then Q (.bl true) G else G p = some (.lst all) ∧ InR r p all x t G Q
def rInO (r : R2) : R2 := fun x y H Q => ∃ p xs, y = .ref p ∧ H p = some (.lst xs) ∧ (∃ a, x = .ref a) ∧ (∀ v ∈ xs, ∀ b, v ≠ .flt b) ∧ InR r p xs x xs H Q
open SeqAt AutoSeq1 MeetsSeq in
theorem op_inO {X : Cx} {r : R2} (e : EqP X X.A.in1 r) : OpR X (compareOp .In) (rInO r) := by
  intro pins s σ H x y v u Q J rx ry rd
  obtain ⟨p, xs, rfl, hp, ⟨a, rfl⟩, nf, q⟩ := rd
  cases ry
  cases rx
  have at_ : ∀ {G : Hp} {t : Shared}, Inv X pins σ G t → G p = some (.lst xs) → ∃ its n, Vals xs its ∧ t.heap.get? p = some { cls := .type "list", data := .seq its.toArray n } := fun {G t} J e => (show ObjOk X.prog X.w G t.heap p (.lst xs) from J.hok p _ e).2
  obtain ⟨its, n, rv, ho⟩ := at_ J hp
  have hT : s.TypeIs (.ref p) "list" := ⟨_, ho, rfl⟩
  show wpAny (model X.prog X.w) X.A (do return .bool (← contains (.ref p) (.ref a))) (EP X pins σ Q) X.xe s
  refine wpAny_bind (wpAny_contains_slot hT F.slot_list_contains (wpAny_mono (call_meetsIn (E := X.xe) (Q := fun v t => ∃ c, v = .bool c ∧ EP X pins σ Q (.bool c) t) (S := fun A R t => A = X.A ∧ t = s ∧ (∀ c t', EP X pins σ Q (.bool c) t' → R (.ok (.ret (.bool c))) t') ∧ ∀ e t', X.xe e t' → R (.error e) t')
    F.slot_list_contains hT F.entry_list_contains (F.args_list_contains_2 _ _) (fun A R t z => ?_) ⟨rfl, rfl, fun c t' z => ⟨c, rfl, z⟩, fun e t' z => z⟩) (fun v t hv => ?_) fun _ _ z => z))
  · obtain ⟨rfl, rfl, k1, k2⟩ := z
    have go := contains_goes (prog := X.prog) (w := X.w) (A := X.A) (R := R) (l := p) (x := .ref a) (N := xs.length) (I := fun i t => ∃ G, Inv X pins σ G t ∧ G p = some (.lst xs) ∧ InR r p xs (.ref a) (xs.drop i) G Q) (fun i t hI => by
      obtain ⟨G, JG, eG, hR⟩ := hI
      obtain ⟨iz, n2, rz, hz⟩ := at_ JG eG
      refine ⟨iz.toArray, n2, none, #[], hz, by simpa using rz.length.symm, fun hi => ?_⟩
      have hx : i < xs.length := by
        have := rz.length
        simp at hi
        omega
      obtain ⟨u, hu, ru⟩ := rz.get (List.getElem?_eq_getElem hx)
      have eu : iz.toArray[i] = u := by
        simp
        rw [List.getElem?_eq_getElem (by simpa using hi)] at hu
        exact Option.some.inj hu
      rw [eu]
      rw [List.drop_eq_getElem_cons hx] at hR
      obtain ⟨ne, rr⟩ := hR
      refine eqBool_of ?_ ?_ (wpAny_mono (wpAny_mono (e pins t σ G _ (.ref a) u (.ref a) _ JG ru rfl rr) (fun _ _ z => z) k2) (fun v t' z => ?_) fun _ _ z => z)
      · intro z
        subst z
        cases hv : xs[i] <;> rw [hv] at ru ne <;> first | (obtain ⟨_, z⟩ := ru; cases z) | (cases ru; exact ne rfl) | cases ru
      · intro f tk z
        subst z
        have nn := nf _ (List.getElem_mem hx)
        cases hv : xs[i] <;> rw [hv] at ru nn <;> first | exact nn _ rfl | (obtain ⟨_, z⟩ := ru; cases z) | cases ru
      · obtain ⟨v2, G2, J2, rv2, c, rfl, q2⟩ := z
        cases rv2
        refine ⟨c, rfl, ?_⟩
        cases c with
        | true => exact k1 true t' ⟨.bl true, G2, J2, rfl, q2⟩
        | false => exact ⟨G2, J2, q2.1, q2.2⟩) (fun t hI => by
      obtain ⟨G, JG, eG, hR⟩ := hI
      rw [List.drop_length] at hR
      exact k1 false t ⟨.bl false, G, JG, rfl, hR⟩) xs.length 0 (by omega) (Nat.zero_le _) t ⟨H, J, hp, q⟩
    obtain ⟨h0, g, d, tk, os⟩ := t
    wp_walk using wpAny_loadPart' ho
    refine ⟨plainId_quiet plain_contains_loop _, codeAny_builtin entry_contains_loop ?_⟩
    rw [Around.under_plainId plain_contains_loop _]
    exact go
  · obtain ⟨c, rfl, z⟩ := hv
    exact wpAny_truthy_bool (wpAny_pure z)
end TS

/-! ### 30. texts: plain signs, lengths of what is split, joined, cut -/
namespace TS
open PySem PySem.Spec PyProof.Rows L2 TL
def Plain (z : Str) : Prop := ∀ c ∈ tl z, c < 256
theorem Plain.app {x y : Str} (hx : Plain x) (hy : Plain y) : Plain (x ++ y) := fun c hc => by
  rw [tl_append] at hc
  exact (List.mem_append.mp hc).elim (hx c) (hy c)
theorem Plain.cut {z : Str} (h : Plain z) (lo hi : Option Int) : Plain (cutS z lo hi) := fun c hc => h c (List.mem_of_mem_drop (List.mem_of_mem_take (show c ∈ ((tl z).drop _).take _ from hc)))
theorem joined_mem {S : List Nat} {c : Nat} : ∀ {ps : List (List Nat)}, c ∈ joinL S ps → c ∈ S ∨ ∃ p ∈ ps, c ∈ p
  | [], h => absurd h (by simp [joinL])
  | [p], h => .inr ⟨p, by simp, h⟩
  | p :: q :: r, h => by
    rcases List.mem_append.mp (show c ∈ p ++ (S ++ joinL S (q :: r)) from h) with h | h
    · exact .inr ⟨p, by simp, h⟩
    · rcases List.mem_append.mp h with h | h
      · exact .inl h
      · rcases joined_mem h with h | ⟨x, hx, hc⟩
        · exact .inl h
        · exact .inr ⟨x, List.mem_cons_of_mem _ hx, hc⟩
theorem Plain.join {y : Str} {ws : List Str} (hy : Plain y) (h : ∀ z ∈ ws, Plain z) : Plain (Txt.join y ws) := fun c hc => by
  rw [join_eq, tl_join] at hc
  rcases joined_mem hc with hc | ⟨p, hp, hc⟩
  · exact hy c hc
  · obtain ⟨z, hz, rfl⟩ := List.mem_map.mp hp
    exact h z hz c hc
theorem plainB {z : Str} (h : (tl z).all (fun c => decide (c < 256)) = true) : Plain z := fun c hc => of_decide_eq_true (List.all_eq_true.mp h c hc)
theorem cut_le {z : Str} {lo hi : Option Int} {n : Nat} (h : z.length ≤ n) : (cutS z lo hi).length ≤ n := Nat.le_trans (cutS_length z lo hi) h
theorem add_len (x y : Str) : (x ++ y).length = x.length + y.length := by
  rw [len_tl, tl_append, List.length_append, ← len_tl, ← len_tl]
theorem join_sum (y : Str) : ∀ ws : List Str, (Txt.join y ws).length ≤ (ws.map (·.length)).sum + ws.length * y.length
  | [] => by
    rw [join_eq, len_tl, tl_join]
    exact Nat.zero_le _
  | [w] => by
    rw [join_eq, len_tl, tl_join]
    show (tl w).length ≤ _
    rw [← len_tl]
    simp
  | w :: v :: r => by
    have ih := join_sum y (v :: r)
    rw [join_eq, len_tl, tl_join] at ih ⊢
    show (tl w ++ (tl y ++ joinL (tl y) ((v :: r).map tl))).length ≤ _
    rw [List.length_append, List.length_append, ← len_tl, ← len_tl]
    have e : (w :: v :: r).length = (v :: r).length + 1 := rfl
    have e2 : ((w :: v :: r).map (fun x : Str => x.length)).sum = w.length + ((v :: r).map (fun x : Str => x.length)).sum := by simp only [List.map_cons, List.sum_cons]
    rw [e, Nat.succ_mul, e2]
    have ih' : (joinL (tl y) (tl v :: List.map tl r)).length ≤ ((v :: r).map (fun x : Str => x.length)).sum + (v :: r).length * y.length := ih
    omega
theorem pre_is (m c : Nat) (r : List Nat) : pre [m] (c :: r) = decide (c = m) := by
  by_cases h : c = m
  · subst h; simp [pre]
  · simp [pre, h]
/-- what a text is split into -/
theorem spl_facts (m : Nat) : ∀ (l acc : List Nat), 1 ≤ (spl [m] 0 acc l).length ∧ (spl [m] 0 acc l).length ≤ 1 + l.length ∧ ((spl [m] 0 acc l).map List.length).sum ≤ acc.length + l.length ∧ (∀ p ∈ spl [m] 0 acc l, ∀ c ∈ p, c ∈ acc ∨ (c ∈ l ∧ c ≠ m))
  | [], acc => by
    rw [spl_nil]
    exact ⟨by simp, by simp, by simp, fun p hp c hc => .inl (by rw [List.mem_singleton.mp hp] at hc; exact hc)⟩
  | c :: r, acc => by
    by_cases h : c = m
    · rw [spl_hit (by rw [pre_is, decide_eq_true h])]
      obtain ⟨a1, a2, a3, a4⟩ := spl_facts m r []
      show 1 ≤ (acc :: spl [m] 0 [] r).length ∧ (acc :: spl [m] 0 [] r).length ≤ _ ∧ ((acc :: spl [m] 0 [] r).map List.length).sum ≤ _ ∧ ∀ p ∈ acc :: spl [m] 0 [] r, _
      refine ⟨by simp, ?_, ?_, fun p hp d hd => ?_⟩
      · simp only [List.length_cons]; omega
      · simp only [List.map_cons, List.sum_cons, List.length_cons, List.length_nil] at a3 ⊢; omega
      · rcases List.mem_cons.mp hp with rfl | hp
        · exact .inl hd
        · rcases a4 p hp d hd with z | ⟨z, n⟩
          · cases z
          · exact .inr ⟨List.mem_cons_of_mem _ z, n⟩
    · rw [spl_miss (by rw [pre_is, decide_eq_false h])]
      obtain ⟨a1, a2, a3, a4⟩ := spl_facts m r (acc ++ [c])
      refine ⟨a1, ?_, ?_, fun p hp d hd => ?_⟩
      · simp only [List.length_cons]; omega
      · simp only [List.length_append, List.length_cons, List.length_nil] at a3 ⊢; omega
      · rcases a4 p hp d hd with z | ⟨z, n⟩
        · rcases List.mem_append.mp z with z | z
          · exact .inl z
          · rw [List.mem_singleton.mp z]; exact .inr ⟨List.mem_cons_self .., h⟩
        · exact .inr ⟨List.mem_cons_of_mem _ z, n⟩
theorem split_tl (z : Str) {m : Nat} (hm : m < 256) : (Txt.split z ⟨#[m]⟩).map tl = spl [m] 0 [] (tl z) := by
  rw [split_spl z ⟨#[m]⟩ (by show [m] ≠ []; simp) (kind_ok (by simp [hm]))]
theorem blank_is : (" " : Str) = ⟨#[32]⟩ := by decide +kernel
structure Splits (z : Str) (ws : List Str) : Prop where
  some_ : 1 ≤ ws.length
  few : ws.length ≤ 1 + z.length
  sum : (ws.map (·.length)).sum ≤ z.length
  mem : ∀ y ∈ ws, ∀ c ∈ tl y, c ∈ tl z ∧ c ≠ 32
theorem splits (z : Str) : Splits z (Txt.split z " ") := by
  have e := split_tl z (m := 32) (by decide)
  rw [← blank_is] at e
  obtain ⟨a1, a2, a3, a4⟩ := spl_facts 32 (tl z) []
  rw [← e] at a1 a2 a3 a4
  rw [List.length_map] at a1 a2
  refine ⟨a1, by rw [len_tl]; exact a2, ?_, fun y hy c hc => ?_⟩
  · have q : (Txt.split z " ").map (·.length) = ((Txt.split z " ").map tl).map List.length := by rw [List.map_map]; exact List.map_congr_left fun y _ => len_tl y
    rw [q, len_tl]
    simpa using a3
  · rcases a4 (tl y) (List.mem_map_of_mem hy) c hc with h | h
    · cases h
    · exact h
theorem mem_sum : ∀ {l : List Nat} {n : Nat}, n ∈ l → n ≤ l.sum
  | x :: r, n, h => by
    rw [List.sum_cons]
    rcases List.mem_cons.mp h with rfl | m
    · omega
    · have := mem_sum m; omega
theorem Splits.le {z : Str} {ws : List Str} (h : Splits z ws) {y : Str} (m : y ∈ ws) : y.length ≤ z.length := Nat.le_trans (mem_sum (List.mem_map_of_mem m)) h.sum
theorem Splits.plain {z : Str} {ws : List Str} (h : Splits z ws) (p : Plain z) {y : Str} (m : y ∈ ws) : Plain y := fun c hc => p c (h.mem y m c hc).1
/-- a joined line of words without blanks, split -/
theorem split_line {ws : List Str} (h1 : 1 ≤ ws.length) (h : ∀ y ∈ ws, 32 ∉ tl y) : Txt.split (Txt.join " " ws) " " = ws :=
  split_join (s := 32) (S := []) (by decide +kernel) (by decide +kernel) (fun e => by rw [e] at h1; simp at h1) h
end TS

/-! ### 31. a def that may raise, called by the names of its parameters -/
namespace TS
open PySem PySem.Spec PyProof.Rows L2
/-- a def and its promise, however it is called -/
def FnX (P : Program) (w : World) (K : PySem.W.Frag) (mg : Str → Option Value) (base : Heap) (k : Nat) (x : Str) (st : Stmt) (ps : List Str) (sp : Sp) : Prop :=
  ∃ f fd, FunD K x x (defArgs st) (defBody st) (defScope st) [] [] f fd ∧ mg x = some (.ref f) ∧ FnOk P w K mg base (L2.CX P w) k f fd ps sp
def PromXN (P : Program) (w : World) (K : PySem.W.Frag) (mg : Str → Option Value) (base : Heap) (k : Nat) (x : Str) (ps : List Str) (sp : Sp) (n : Nat) (ks : List Str) (gV : List V → List V → List V) : Prop :=
  ∃ f fd g, FnOk P w K mg base (L2.CX P w) k f fd ps sp ∧ mg x = some (.ref f) ∧ PySem.W.keepIn K (.ref f) = true ∧ KBn K fd ps n ks g gV
section
variable {P : Program} {w : World} {K : PySem.W.Frag} {mg : Str → Option Value} {base : Heap} {N ps ks : List Str} {k n : Nat} {sp : Sp} {x : Str} {st : Stmt}
theorem fnX_mk (D : Def K mg x st) (S : FnScope N ps (defScope st)) (len : ∀ vs H Q E, sp vs H Q E → vs.length = ps.length)
    (body : ∀ (f : Addr) (cdv : Value) (A : Around) (outer : List Env) (s : Shared) (H : Hp) (vs : List V) (Q : VK) (E : XK), Room k (A.deeper (envOfC x (defScope st) s.heap.objs.size f cdv)) → sp vs H Q E →
      ∃ t, PSs (cxOf (L2.CX P w) P w K mg base N x (defScope st) f cdv A outer s H E) (defBody st) t ∧ t { nx := fun _ G => Q .non G, rt := Q } (start N vs) H) : FnX P w K mg base (k + 1) x st ps sp := by
  obtain ⟨f, fd, F, m⟩ := D
  exact ⟨f, fd, F, m, F.ok S len (body f)⟩
theorem FnX.pos (h : FnX P w K mg base k x st ps sp)
    (hb : ∀ (kV doc pm : Value) (an : Option Addr) (cdv ct : Value) (us : List Value), us.length = ps.length → bindArgs (PySem.W.fnOf x x (defArgs st) (defBody st) (defScope st) .none kV doc pm an cdv ct) ⟨us, []⟩ = pure (ps.zip us)) : PromX P w K mg base k x ps sp := by
  obtain ⟨f, fd, F, m, o⟩ := h
  exact ⟨f, ⟨fd, o, F.bindsN hb⟩, m, F.kp⟩
theorem FnX.names (h : FnX P w K mg base k x st ps sp) (n : Nat) (ks : List Str) (g : {α : Type} → List α → List α → List α) (hrel : ∀ {vs zs : List V} {us ws : List Value}, Vals vs us → Vals zs ws → Vals (g vs zs) (g us ws))
    (hb : ∀ (kV doc pm : Value) (an : Option Addr) (cdv ct : Value) (us ws : List Value), us.length = n → ws.length = ks.length → bindArgs (PySem.W.fnOf x x (defArgs st) (defBody st) (defScope st) .none kV doc pm an cdv ct) ⟨us, ks.zip ws⟩ = pure (ps.zip (g us ws))) :
    PromXN P w K mg base k x ps sp n ks (fun vs zs => g vs zs) := by
  obtain ⟨f, fd, F, m, o⟩ := h
  refine ⟨f, fd, fun us ws => g us ws, o, m, F.kp, ?_, fun r1 r2 => hrel r1 r2⟩
  obtain ⟨oc, od, dV, kV, doc, pm, an, cdv, ct, osl, rfl, lk, hcd, hD, hK⟩ := F.ex
  rcases hD with ⟨_, rfl⟩ | ⟨e, _⟩
  · exact fun s us ws X l1 l2 => BindsTo.of_looks fun M => by rw [hb kV doc pm an cdv ct us ws l1 l2]; exact .now
  · exact absurd rfl e
end
section
variable {X : Cx} {k : Nat} {ps ks : List Str} {sp : Sp} {W : WX} {x : Str} {p pos : Pos} {kws : List Keyword} {tk : TA} {gV : List V → List V → List V}
theorem pe_pcXN (pr : PromXN X.prog X.w X.K X.mg X.base k x ps sp 0 ks gV) (tkn : Takes X W) (hr : Room k X.A) (hg : Gl X x) (hkw : PK X kws tk)
    (hall : (backToKw pos (keywordEach kws X.env)).all (·.1.isSome) = true := by rfl) (hks : (backToKw pos (keywordEach kws X.env)).filterMap (·.1) = ks := by rfl) (hdb : (x == ("__debug__" : Str)) = false := by decide)
    (hpl : ((backTo pos (starEach [] X.env)).any (·.1) || (backToKw pos (keywordEach kws X.env)).any (·.1.isNone)) = false := by rfl) :
    PE X (.Call (.Name x p) [] kws pos) (fun σ H Q => tk σ H fun zs H1 => zs.length = ks.length ∧ sp (gV [] zs) H1 Q (WE W σ)) := by
  obtain ⟨f, fd, g, F, hm, kp, b⟩ := pr
  refine ⟨fun pins s σ H Q J h => wpAny_Call_Name_kw (ld_glob J hg hm ?_ hdb)⟩
  refine PySem.W.callWith_KW0 (h₀ := X.base) J.ok.mod.kin kp hall ?_ hpl
  refine thn (hkw.run pos pins s σ H _ J h) fun ws s2 ⟨zs, H2, J2, rz, l2, q2⟩ => ⟨J2.kIn, ?_⟩
  rw [hks]
  refine wpAny_call (codeAny_mono (F.run X.A X.stack s2 H2 ⟨[], ks.zip ws⟩ (g [] ws) (gV [] zs) Q (WE W σ) hr J2.env0 (b.to s2 [] ws J2.kIn rfl (rz.length.symm.trans l2)) (b.rel .nil rz) q2) fun o t z => ?_)
  match o, z with
  | .error e, z => exact passAt tkn σ pins _ _ e t J2 z
  | .ok (.ret u), z => exact J2.after z
end
end TS

/-! ### 32. data that may be compared -/
namespace TS
open PySem PySem.Spec PyProof.Rows L2 TL
mutual
theorem Dt.dp {K : PySem.W.Frag} {H : Hp} : ∀ {v : V} {d : PyData}, Dt K H v d → d.canLay0 = true → Dp K H v d
  | _, _, .non, _ => .non
  | _, _, .bl b, _ => .bl b
  | _, _, .int i, _ => .int i
  | _, _, .str x, _ => .str x
  | _, _, .lst h a, c => .lst h (DtAll.dp a (by simpa [PyData.canLay0] using c))
  | _, _, .tup h a, c => .tup h (DtAll.dp a (by simpa [PyData.canLay0] using c))
  | _, _, .dct _ _ _, c => by simp [PyData.canLay0] at c
theorem DtAll.dp {K : PySem.W.Frag} {H : Hp} : ∀ {v : List V} {d : List PyData}, DtAll K H v d → PyData.canLayAll0 d = true → DpAll K H v d
  | _, _, .nil, _ => .nil
  | _, _, .cons a b, c => by
    unfold PyData.canLayAll0 at c
    obtain ⟨c1, c2⟩ := Bool.and_eq_true_iff.mp c
    exact .cons (Dt.dp a c1) (DtAll.dp b c2)
end
theorem lay_all : ∀ {ds : List PyData}, (∀ e ∈ ds, e.canLay0 = true) → PyData.canLayAll0 ds = true
  | [], _ => rfl
  | e :: r, h => by unfold PyData.canLayAll0; rw [h e (by simp), lay_all fun x m => h x (List.mem_cons_of_mem _ m)]; rfl
theorem shaped_list {ds : List PyData} (h : ∀ e ∈ ds, e.canLay0 = true ∧ e.depth ≤ 30) : SeqAt.shaped (.list ds) = true := by
  unfold SeqAt.shaped
  rw [show (PyData.list ds).canLay0 = true by unfold PyData.canLay0; exact lay_all fun e m => (h e m).1, Bool.true_and]
  refine decide_eq_true ?_
  unfold PyData.depth
  have := all_deep fun e m => (h e m).2
  omega
theorem eqvAll_nil (l : List PyData) : PyData.eqv (.list l) (.list []) = l.isEmpty := by
  unfold PyData.eqv
  cases l <;> rfl
theorem dt_strs {K : PySem.W.Frag} {G : Hp} : ∀ zs : List Str, DtAll K G (zs.map V.str) (zs.map PyData.str)
  | [] => .nil
  | z :: r => .cons (.str z) (dt_strs r)
theorem eqv_strs2 : ∀ zs ys : List Str, PyData.eqvAll (zs.map PyData.str) (ys.map PyData.str) = decide (zs = ys)
  | [], [] => rfl
  | [], y :: r => rfl
  | z :: r, [] => rfl
  | z :: r, y :: t => by
    show ((z == y) && PyData.eqvAll (r.map PyData.str) (t.map PyData.str)) = _
    rw [eqv_strs2 r t]
    by_cases h : z = y
    · subst h; simp
    · have e : (z == y) = false := by simpa using h
      rw [e]; simp [h]
def Lays (zs : List Str) : Prop := ∀ z ∈ zs, (PyData.str z).canLay0 = true
theorem Lays.all {zs : List Str} (h : Lays zs) : ∀ e ∈ zs.map PyData.str, e.canLay0 = true ∧ e.depth ≤ 30 := fun e he => by
  obtain ⟨z, hz, rfl⟩ := List.mem_map.mp he
  exact ⟨h z hz, Nat.zero_le _⟩
theorem Lays.of_plain {zs : List Str} (h : ∀ z ∈ zs, Plain z) : Lays zs := fun z hz => by
  show z.cps.all (· < 0x110000) = true
  rw [← Array.all_toList, List.all_eq_true]
  exact fun c m => decide_eq_true (Nat.lt_of_lt_of_le (h z hz c m) (by decide))
/-- two lists of texts, compared -/
theorem strs_eq {K : PySem.W.Frag} {G : Hp} {a b : Addr} {zs ys : List Str} {Q : VK} (ha : SqL K G a (zs.map V.str)) (hb : SqL K G b (ys.map V.str)) (lz : Lays zs) (ly : Lays ys) (q : Q (.bl (decide (zs = ys))) G) : rEqD K (.ref a) (.ref b) G Q := by
  refine ⟨.list (zs.map .str), .list (ys.map .str), Dp.lst ha ((dt_strs zs).dp (lay_all fun e he => (lz.all e he).1)), Dp.lst hb ((dt_strs ys).dp (lay_all fun e he => (ly.all e he).1)), shaped_list lz.all, shaped_list ly.all, ?_⟩
  have e : PyData.eqv (.list (zs.map PyData.str)) (.list (ys.map PyData.str)) = decide (zs = ys) := by
    unfold PyData.eqv
    exact eqv_strs2 zs ys
  rw [e]
  exact q
theorem strs_ne {K : PySem.W.Frag} {G : Hp} {a b : Addr} {zs ys : List Str} {Q : VK} (ha : SqL K G a (zs.map V.str)) (hb : SqL K G b (ys.map V.str)) (lz : Lays zs) (ly : Lays ys) (q : Q (.bl (!decide (zs = ys))) G) : rNeD K (.ref a) (.ref b) G Q := by
  refine ⟨.list (zs.map .str), .list (ys.map .str), Dp.lst ha ((dt_strs zs).dp (lay_all fun e he => (lz.all e he).1)), Dp.lst hb ((dt_strs ys).dp (lay_all fun e he => (ly.all e he).1)), shaped_list lz.all, shaped_list ly.all, ?_⟩
  have e : PyData.eqv (.list (zs.map PyData.str)) (.list (ys.map PyData.str)) = decide (zs = ys) := by
    unfold PyData.eqv
    exact eqv_strs2 zs ys
  rw [e]
  exact q
end TS

/-! ### 33. own ==, !=, in: K named -/
namespace TS
open PySem PySem.Spec PyProof.Rows L2
/-- an instance with anything, or data with an instance -/
def rEqLR (K : PySem.W.Frag) (C : Addr) (sp : Sp) : R2 := fun x y H Q => rEqL K C sp x y H Q ∨ rEqR K C sp x y H Q
/-- data with an instance of C, or an instance of C2 with anything -/
def rEqRW (K : PySem.W.Frag) (C C2 : Addr) (sp sp2 : Sp) : R2 := fun x y H Q => rEqR K C sp x y H Q ∨ rEqL K C2 sp2 x y H Q
section
variable {X : Cx} {K : PySem.W.Frag} {k k2 : Nat} {C C2 f f2 : Addr} {ps ps2 : List Str} {sp sp2 : Sp}
theorem op_eqLR (M : Meth K C "__eq__" f) (ap : ApK K C) (pr : PromA CX0 X.prog X.w K X.mg X.base k f ps sp) (hr : Room k X.A) (hK : X.K = K := by rfl) : OpR X (compareOp .Eq) (rEqLR K C sp) := by
  subst hK
  exact EqP.op (EqP.or (eq_left M ap pr (Plc.own hr)) (eq_right M ap pr (Plc.own hr)))
theorem op_eqRW (M : Meth K C "__eq__" f) (ap : ApK K C) (pr : PromA CX0 X.prog X.w K X.mg X.base k f ps sp) (hr : Room k X.A) (M2 : Meth K C2 "__eq__" f2) (ap2 : ApK K C2) (pr2 : PromA CX0 X.prog X.w K X.mg X.base k2 f2 ps2 sp2) (hr2 : Room k2 X.A) (hK : X.K = K := by rfl) :
    OpR X (compareOp .Eq) (rEqRW K C C2 sp sp2) := by
  subst hK
  exact EqP.op (EqP.or (eq_right M ap pr (Plc.own hr)) (eq_left M2 ap2 pr2 (Plc.own hr2)))
theorem op_neLK (M : Meth K C "__eq__" f) (N : NeC K C) (ap : ApK K C) (pr : PromA CX0 X.prog X.w K X.mg X.base k f ps sp) (hr : Room (k + 1) X.A) (hK : X.K = K := by rfl) : OpR X (compareOp .NotEq) (rNeL K C sp) := by
  subst hK
  exact op_neL M N ap pr hr
theorem op_inLR (M : Meth K C "__eq__" f) (ap : ApK K C) (pr : PromA CX0 X.prog X.w K X.mg X.base k f ps sp) (hr : Room (k + 1) X.A) (hK : X.K = K := by rfl) : OpR X (compareOp .In) (rInO (rEqLR K C sp)) := by
  subst hK
  exact op_inO (EqP.or (eq_left M ap pr (Plc.own hr).in1) (eq_right M ap pr (Plc.own hr).in1))
end
end TS

/-! ### 34. a text many times -/
namespace TS
open PySem PySem.Spec PyProof.Rows L2 TL
theorem rep_size (z : Array Nat) : ∀ (n : Nat) (acc : Array Nat), ((List.replicate n z).foldl (· ++ ·) acc).size = acc.size + z.size * n
  | 0, acc => by simp
  | n + 1, acc => by
    rw [List.replicate_succ, List.foldl_cons, rep_size z n, Array.size_append, Nat.mul_succ]
    omega
section
variable {X : Cx}
/-- a text many times -/
def rRepS : R2 := fun x y H Q => ∃ (z : Str) (n : Nat), x = .str z ∧ y = .int n ∧ 2 ≤ n ∧ z.length ≠ 0 ∧ z.length * n ≤ 100000 ∧ Q (.str ⟨(List.replicate n z.cps).foldl (· ++ ·) #[]⟩) H
theorem op_repS : OpR X (binaryOp .Mult) rRepS := by
  intro pins s σ H x y v u Q I rx ry h
  obtain ⟨z, n, rfl, rfl, hn, hz, hl, q⟩ := h
  obtain ⟨t, rfl⟩ := rx
  obtain ⟨t', rfl⟩ := ry
  have hn1 : n ≤ z.length * n := Nat.le_mul_of_pos_left _ (by omega)
  have e1 : ((n : Int) == 1 || z.length == 0) = false := by
    have h1 : ((n : Int) == 1) = false := beq_eq_false_iff_ne.mpr (by omega)
    have h2 : (z.length == 0) = false := beq_eq_false_iff_ne.mpr hz
    rw [h1, h2]; rfl
  have hnn : ¬ (n : Int) < 1 := by omega
  refine PySem.P.mul_str ?_ (fun _ _ => ?_) (fun _ _ => ?_) ?_
  · rw [decide_eq_false (by omega), decide_eq_false (by omega)]; rfl
  · have h3 : (1 : Int) ≤ n := by omega
    have h4 : (z.length : Int) ≤ 100000 := by
      have := Nat.le_mul_of_pos_right z.length (show 0 < n by omega)
      omega
    have h5 : (n : Int) ≤ 100000 := by omega
    have h6 : (2 ^ 63 - 1 : Int) / 100000 ≤ (2 ^ 63 - 1) / n := by
      rw [Int.le_ediv_iff_mul_le (by omega)]
      have h7 : (2 ^ 63 - 1 : Int) / 100000 * n ≤ (2 ^ 63 - 1 : Int) / 100000 * 100000 := Int.mul_le_mul_of_nonneg_left h5 (by decide)
      have h8 : (2 ^ 63 - 1 : Int) / 100000 * 100000 ≤ 2 ^ 63 - 1 := by decide
      omega
    have h9 : (100000 : Int) ≤ (2 ^ 63 - 1 : Int) / 100000 := by decide
    omega
  · unfold PySem.Builtin.Str.tooLong
    rw [Int.toNat_natCast]
    exact decide_eq_false (by have := Nat.le_trans hl (show 100000 ≤ sizeLine by decide); omega)
  · rw [if_neg hnn, e1, if_neg Bool.false_ne_true]
    refine ⟨?_, ⟨.str _, H, I.tok _, ⟨_, by rw [Int.toNat_natCast]⟩, q⟩⟩
    rw [Int.toNat_natCast]
    refine Nat.le_trans (Nat.le_trans (Nat.le_of_eq ?_) hl) (show 100000 ≤ sizeLine by decide)
    show ((List.replicate n z.cps).foldl (· ++ ·) #[]).size = z.length * n
    rw [rep_size]
    simp
    rfl
end

end TS

set_option maxHeartbeats 2000000
/-! ### 35. own exceptions with one field over any of Python's plain error classes -/
namespace TS
open PySem PySem.Spec PyProof.Rows L2
open Builtin Builtin.ObjectAttr in
/-- what Python's own class B gives; it is made by nw, which may be another class's -/
structure Bas (B nw ini : String) (tl : List Value) : Prop where
  by_ : ∃ L iniL tlL, ExcBaseFacts L nw iniL tlL ∧ tl.contains (.type L) = true
  slot : Slot B "__init__" ini
  entry : entryFor table ini = some Builtin.«BaseException.__init__»
  split : splitId ini = some (B, "__init__")
  kind : builtinKind ini = some .slot
  row : Manifest.signature? ini = some ⟨.positional, "*", B, .self, [⟨"args", .varPos, false⟩]⟩
  star : (B != "*") = true
  hasB : tl.contains (.type B) = true
  noA : tl.contains (.type "AttributeError") = false
  noN : tl.contains (.type "NameError") = false
  pass : ∀ x : Value, refuseLoop x "__setattr__" tl = pure ()
  ob : tl.contains (.type "object") = true
  no : tl.isEmpty = false
  handed : PySem.W.handedIn (.builtin ini) = true
def keyT : List Value := [.type "KeyError", .type "LookupError", .type "Exception", .type "BaseException", .type "object"]
theorem bas_Key : Bas "KeyError" "LookupError.__new__" "KeyError.__init__" keyT where
  by_ := ⟨_, _, _, F.excBase_LookupError, by decide +kernel⟩
  slot := by
    refine .of (owner := "KeyError") (n := "__init__") ?_ ?_ ?_ ?_ ?_ ?_
    · rw [typeLookup_type, builtinLookup_eq_fast]; kernel_rfl
    · decide +kernel
    · decide +kernel
    · decide +kernel
    · first | exact .inl (by decide +kernel) | exact .inr (by decide +kernel)
    · rw [isSubtype_type]; kernel_rfl
  entry := by
    refine entryFor_alias (id' := "BaseException.__init__") ?_ ?_ ?_ ?_
    · rw [fastTable_eq_tree]; kernel_rfl
    · first | rfl | decide +kernel
    · decide +kernel
    · rw [fastTable_eq_tree]; kernel_rfl
  split := by kernel_rfl
  kind := by kernel_rfl
  row := by kernel_rfl
  star := by decide +kernel
  hasB := by decide +kernel
  noA := by decide +kernel
  noN := by decide +kernel
  pass := fun _ => by kernel_rfl
  ob := by decide +kernel
  no := by decide +kernel
  handed := by decide +kernel
/-! making one: BaseException.__new__, then the own __init__ -/
section
variable {M : Model} {A : Around} {E : Value → Shared → Prop} {hh : Heap} {gg : Array GenState} {dr : Drawn} {tn : Nat} {os : OsState}
variable {nm q : Str} {C N : Addr} {bs bm tlL : List Value} {hdct : Bool} {sn : List Str} {sub : List Value} {ab : Bool} {col : Option Bool} {dd : Option Addr} {k0 k1 k2 k3 k5 : Option Value} {L nw iniL B ini : String} {tl : List Value}
theorem check_newT (Fx : ExcBaseFacts L nw iniL tlL) (has : bm.contains (.type L) = true) {rest : List Value} {Q : Unit → Shared → Prop}
    (ec : hh.get? C = some (excClassObj nm q C N bs bm hdct sn sub ab col dd k0 k1 k2 k3 k5 nw)) (fin : Q () ⟨hh, gg, dr, tn, os⟩) : wpAny M A (checkBuiltinCall nw ⟨.ref C :: rest, []⟩) Q E ⟨hh, gg, dr, tn, os⟩ := by
  have has' : (Value.ref C :: bm).contains (.type L) = true := by rw [List.contains_cons, has, Bool.or_true]
  have st := Fx.noStar
  simp only [checkBuiltinCall, Fx.newKind, Fx.newSplit, Fx.newRow]
  repeat (first | refine wpAny_loadPart_at ec ?_ | (refine wpAny_isSubtype_exc ec ?_; rw [has']) | refine wpAny_staticBase_exc ec ?_ | refine wpAny_madeBy_exc ec ?_ | simp only [bne_self_eq_false, Bool.false_eq_true, if_false] | wp_step)
  exact fin
theorem check_initT (kind : builtinKind ini = some .slot) (split : splitId ini = some (B, "__init__")) (row : Manifest.signature? ini = some ⟨.positional, "*", B, .self, [⟨"args", .varPos, false⟩]⟩) (star : (B != "*") = true) (has : bm.contains (.type B) = true)
    {e : Addr} {oe : Obj} {rest : List Value} {Q : Unit → Shared → Prop}
    (ec : hh.get? C = some (excClassObj nm q C N bs bm hdct sn sub ab col dd k0 k1 k2 k3 k5 nw)) (he : hh.get? e = some oe) (hcls : oe.cls = .ref C) (fin : Q () ⟨hh, gg, dr, tn, os⟩) :
    wpAny M A (checkBuiltinCall ini ⟨.ref e :: rest, []⟩) Q E ⟨hh, gg, dr, tn, os⟩ := by
  have has' : (Value.ref C :: bm).contains (.type B) = true := by rw [List.contains_cons, has, Bool.or_true]
  have st := star
  simp only [checkBuiltinCall, kind, split, row]
  repeat (first | (with_reducible refine wpAny_loadPart_at he ?_; rw [hcls]) | with_reducible refine wpAny_loadPart_at ec ?_ | (with_reducible refine wpAny_isSubtype_exc ec ?_; rw [has']) | wp_step)
  refine wpAny_onRaise ?_
  have none_ : ∀ (a b : String) (n : Nat), Bind.check ⟨.positional, "*", B, .self, [⟨"args", .varPos, false⟩]⟩ a b n (List.map (fun x => x.fst) ({ pos := Value.ref e :: rest } : Args).kw) = pure () := fun a b n => check_star_args _ _ _ _ _ _
  rw [none_]
  exact wpAny_pure fin
end
section
variable {prog : Program} {w : World} {A : Around} {E : Value → Shared → Prop} {R : Result → Shared → Prop} {hh : Heap} {gg : Array GenState} {dr : Drawn} {tn : Nat} {os : OsState}
variable {nm q : Str} {C N : Addr} {bs bm tlL : List Value} {hdct : Bool} {sn : List Str} {sub : List Value} {ab : Bool} {col : Option Bool} {dd : Option Addr} {k0 k1 k2 k3 k5 : Option Value} {L nw iniL : String}
theorem newT (Fx : ExcBaseFacts L nw iniL tlL) (has : bm.contains (.type L) = true) (noA : bm.contains (.type "AttributeError") = false) (noN : bm.contains (.type "NameError") = false) {rest : List Value}
    (ec : hh.get? C = some (excClassObj nm q C N bs bm hdct sn sub ab col dd k0 k1 k2 k3 k5 nw))
    (fin : R (.ok (.ret (.ref (hh.objs.size + 1)))) ⟨(hh.push { cls := .type "tuple", data := .seq rest.toArray }).push
      { cls := .ref C, data := .fields #[.ref hh.objs.size, .none, .none, .none, .bool false, .none] }, gg, dr, tn, os⟩) (few : rest.length ≤ sizeLine) :
    codeAny (model prog w) A (.builtin nw ⟨.ref C :: rest, []⟩) R ⟨hh, gg, dr, tn, os⟩ := by
  have hends := Fx.ends
  have hasL : (Value.ref C :: bm).contains (.type L) = true := by rw [List.contains_cons, has, Bool.or_true]
  have hasA : (Value.ref C :: bm).contains (.type "AttributeError") = false := by rw [List.contains_cons, noA]; rfl
  have hasN : (Value.ref C :: bm).contains (.type "NameError") = false := by rw [List.contains_cons, noN]; rfl
  refine codeAny_builtinAt Fx.entry ?_
  unfold Builtin.«BaseException.__new__»
  refine PySem.wpAt_bind ?_
  show PySem.wpAt _ _ _ (stack >>= _) _ _ _
  refine PySem.wpAt_bind (PySem.wpAt_stack fun p below => PySem.wpAt_of_wpAny ?_)
  wp_walk
  refine PySem.wpAt_of_wpAny ?_
  rw [Fx.owner]
  repeat (first | with_reducible refine wpAny_madeHere_exc Fx.canon ec ?_ | with_reducible refine wpAny_loadPart_at ec ?_ | (with_reducible refine wpAny_isSubtype_exc ec ?_; first | rw [hasL] | rw [hasA] | rw [hasN]) | wp_step)
  show R _ _
  rw [Heap.size_push]
  exact fin
open HandSPX in
theorem type_callT (Fx : ExcBaseFacts L nw iniL tlL) (has : bm.contains (.type L) = true) (noA : bm.contains (.type "AttributeError") = false) (noN : bm.contains (.type "NameError") = false) {rest : List Value} {fI : Addr} {Q : Fin → Shared → Prop}
    (ec : hh.get? C = some (excClassObj nm q C N bs bm hdct sn sub ab col dd k0 k1 k2 k3 k5 nw))
    (li : PySem.W.Looks (model prog w) hh (typeLookup (.ref C) "__init__") (some (.ref fI))) (lb : ∀ self, PySem.W.Looks (model prog w) hh (bindSpecial (.ref fI) self) (.ref fI, [self])) (few : rest.length ≤ sizeLine)
    (k : codeAny (model prog w) A (.call (.ref fI) ⟨.ref (hh.objs.size + 1) :: rest, []⟩)
      (fun r s' => match r with | .ok (.ret v) => v = .none ∧ Q (.done (.ret (.ref (hh.objs.size + 1)))) s' | .ok _ => False | .error e => E e s')
      ⟨(hh.push (PySem.W.kdv_tup rest)).push (excO C hh.objs.size), gg, dr, tn, os⟩) :
    wpAny (model prog w) A (Builtin.«type.__call__» ⟨.ref C :: rest, []⟩) Q E ⟨hh, gg, dr, tn, os⟩ := by
  repeat (first | with_reducible refine wpAny_loadPart_at ec ?_ | with_reducible refine wpAny_madeBy_exc ec ?_ | wp_step)
  refine codeAny_call_builtin_code (Code.quiet_builtin _ Fx.quiet) (check_newT Fx has ec ?_)
  refine newT Fx has noA noN ec ?_ few
  show wpAny _ _ _ _ _ _
  have kk : ∀ b o, hh.get? b = some o → ((hh.push (PySem.W.kdv_tup rest)).push (excO C hh.objs.size)).get? b = some o := fun b o z => Heap.get?_push_of_some _ (Heap.get?_push_of_some _ z)
  have ec' := kk _ _ ec
  have got : ((hh.push (PySem.W.kdv_tup rest)).push (excO C hh.objs.size)).get? (hh.objs.size + 1) = some (excO C hh.objs.size) := by heap_get
  have own : (Value.ref C :: bm).contains (.ref C) = true := by simp
  have li' := li.keeps kk
  have lb' := (lb (.ref (hh.objs.size + 1))).keeps kk
  unfold isInstance
  repeat (first | with_reducible refine wpAny_loadPart_at got ?_ | (with_reducible refine wpAny_isSubtype_exc ec' ?_; rw [own]) | wp_step)
  show wpAny _ _ (typeLookup (.ref C) _) _ _ _
  refine li'.at ?_
  refine wpAny_holding (wpAny_bind (lb'.at ?_))
  refine wpAny_bind (wpAny_call (codeAny_mono k fun r s' z => ?_))
  rcases r with e | (v | _ | _ | _) <;> first | exact z | exact z.elim | skip
  obtain ⟨rfl, z⟩ := z
  first
    | exact wpAny_pure (wpAny_pure z)
    | (wp_walk; exact z)
open HandSPX in
theorem call_ownT (Fx : ExcBaseFacts L nw iniL tlL) (has : bm.contains (.type L) = true) (noA : bm.contains (.type "AttributeError") = false) (noN : bm.contains (.type "NameError") = false) {rest : List Value} {fI : Addr}
    (ec : hh.get? C = some (excClassObj nm q C N bs bm hdct sn sub ab col dd k0 k1 k2 k3 k5 nw))
    (li : PySem.W.Looks (model prog w) hh (typeLookup (.ref C) "__init__") (some (.ref fI))) (lb : ∀ self, PySem.W.Looks (model prog w) hh (bindSpecial (.ref fI) self) (.ref fI, [self])) (few : rest.length ≤ sizeLine)
    (k : codeAny (model prog w) (A.under (.builtin "type.__call__" ⟨.ref C :: rest, []⟩)) (.call (.ref fI) ⟨.ref (hh.objs.size + 1) :: rest, []⟩) (PySem.W.InitBack (hh.objs.size + 1) R)
      ⟨(hh.push (PySem.W.kdv_tup rest)).push (excO C hh.objs.size), gg, dr, tn, os⟩) :
    codeAny (model prog w) A (.call (.ref C) ⟨rest, []⟩) R ⟨hh, gg, dr, tn, os⟩ := by
  have f1 := tc_lookup
  have f2 := tc_bind (.ref C)
  have isT : (⟨hh, gg, dr, tn, os⟩ : Shared).TypeIs (.ref C) "type" := ⟨_, ec, rfl⟩
  refine codeAny_of_tree ?_
  show wpAny _ _ (callAny (.ref C) _) _ _ _
  repeat (any_goals (first | assumption | with_reducible refine wpAny_loadPart_at ec ?_ | wp_step))
  refine ⟨rfl, ?_⟩
  refine codeAny_call_builtin_at (Code.quiet_builtin _ (by decide +kernel)) entry_typeCall (wpAny_check_type_call_sub ec (type_callT Fx has noA noN ec li lb few ?_))
  refine codeAny_mono k fun r s' z => ?_
  rcases r with e | (v | _ | _ | _) <;> exact z
open HandSPX in
/-- B.__init__(e, ..): the values are laid anew -/
theorem init_baseT {B ini : String} {tl : List Value} (Fb : Bas B nw ini tl) (has : bm.contains (.type B) = true) {e t0 : Addr} {rest : List Value}
    (ec : hh.get? C = some (excClassObj nm q C N bs bm hdct sn sub ab col dd k0 k1 k2 k3 k5 nw)) (he : hh.get? e = some (excO C t0)) (few : rest.length ≤ sizeLine)
    (k : ∀ h' t1, (∀ b o, b ≠ e → hh.get? b = some o → h'.get? b = some o) → h'.get? e = some (excO C t1) → R (.ok (.ret .none)) ⟨h', gg, dr, tn, os⟩) :
    codeAny (model prog w) A (.call (.builtin ini) ⟨.ref e :: rest, []⟩) R ⟨hh, gg, dr, tn, os⟩ := by
  refine codeAny_call_builtin Fb.slot.plain Fb.entry (check_initT Fb.kind Fb.split Fb.row Fb.star has ec he rfl ?_)
  wp_walk
  refine k _ hh.objs.size (fun b o hb ho => ?_) ?_
  · rw [Heap.get?_update_other _ _ (Ne.symm hb)]
    exact Heap.get?_push_of_some _ ho
  · rw [Heap.get?_update_self _ (Heap.get?_push_of_some _ he) rfl]
    rfl
end
/-- own classes, then B's row -/
def refsT (tl : List Value) : List Value → Bool
  | .ref _ :: r => refsT tl r
  | l => l == tl
theorem refsT_or {tl : List Value} (l : List Value) (h : refsT tl l = true) : (∃ c r, l = .ref c :: r ∧ refsT tl r = true) ∨ l = tl := by
  unfold refsT at h
  split at h
  · rename_i c r
    exact .inl ⟨c, r, rfl, h⟩
  · exact .inr (beq_iff_eq.mp h)
section
variable {B nw ini : String} {tl : List Value}
open Builtin Builtin.ObjectAttr in
theorem refsT_pass (F : Bas B nw ini tl) (x : Value) : ∀ l : List Value, refsT tl l = true → refuseLoop x "__setattr__" l = pure ()
  | [], h => by
    rcases refsT_or [] h with ⟨_, _, z, _⟩ | z
    · cases z
    · rw [z]; exact F.pass x
  | a :: r, h => by
    rcases refsT_or (a :: r) h with ⟨c, r', z, h'⟩ | z
    · obtain ⟨rfl, rfl⟩ := List.cons.inj z
      rw [refuseLoop_ref]
      exact refsT_pass F x r h'
    · rw [z]; exact F.pass x
theorem refsT_has (X : String) : ∀ l : List Value, refsT tl l = true → l.contains (.type X) = tl.contains (.type X)
  | [], h => by
    rcases refsT_or [] h with ⟨_, _, z, _⟩ | z
    · cases z
    · rw [← z]
  | a :: r, h => by
    rcases refsT_or (a :: r) h with ⟨c, r', z, h'⟩ | z
    · obtain ⟨rfl, rfl⟩ := List.cons.inj z
      rw [List.contains_cons, refsT_has X r h']
      rfl
    · rw [z]
theorem refsT_some (F : Bas B nw ini tl) {l : List Value} (h : refsT tl l = true) : l.isEmpty = false := by
  cases l with
  | nil =>
    rcases refsT_or [] h with ⟨_, _, z, _⟩ | z
    · cases z
    · rw [z]; exact F.no
  | cons _ _ => rfl
end
/-- what the written part says of the class C over B -/
structure OexT (K : PySem.W.Frag) (C : Addr) (nw : String) (tl : List Value) : Prop where
  cls : ∃ nm q N bs bm sn sub ab col dd k0 k1 k2 k3 k5, K.lookup C = some (excClassObj nm q C N bs bm true sn sub ab col dd k0 k1 k2 k3 k5 nw) ∧ refsT tl bm = true
  sa : PySem.W.findIn K (.ref C) "__setattr__" = some (some (.builtin "object.__setattr__"))
  exC : PySem.W.subIn K (.ref C) (.type "BaseException") = some true
  tyC : PySem.W.typeIn K (.ref C) = some (.type "type")
  kC : PySem.W.keepIn K (.ref C) = true
section
variable {prog : Program} {w : World} {A : Around} {E : Value → Shared → Prop} {R : Result → Shared → Prop} {hh : Heap} {gg : Array GenState} {dr : Drawn} {tn : Nat} {os : OsState} {B nw ini : String} {tl : List Value}
open Builtin Builtin.ObjectAttr HandSPX in
/-- x.name = v, x an exception that has no dict yet -/
theorem osa_first {K : PySem.W.Frag} {name : Str} {tk : Tok} {v : Value} {x C : Addr} {fv : Array Value} {cd : ClassData} (Fb : Bas B nw ini tl)
    (KI : K.In hh) (ex : hh.get? x = some { cls := .ref C, data := .fields fv }) (ec : PySem.W.clsIn K C = some cd) (rf : refsT tl cd.mro = true) (hd : cd.hasDict = true) (no : PySem.W.findIn K (.ref C) name = some none)
    (k : ∀ h' tk' dx, (∀ b o, b ≠ x → hh.get? b = some o → h'.get? b = some o) → hh.objs.size ≤ dx → dx ≠ x → h'.get? x = some { cls := .ref C, dict := some dx, data := .fields fv } →
      h'.Ns1 dx (fun y => if y = name then some v else none) → R (.ok (.ret .none)) ⟨h', gg, dr, tk', os⟩) :
    codeAny (model prog w) A (.call (.builtin "object.__setattr__") ⟨[.ref x, .str name tk, v], []⟩) R ⟨hh, gg, dr, tn, os⟩ := by
  have at_ : PySem.W.InstAt hh x { cls := .ref C, data := .fields fv } C none := ⟨ex, rfl, rfl, trivial⟩
  have St := F.store_object
  have some_ := refsT_some Fb rf
  have hasO : cd.mro.contains (.type "object") = true := (refsT_has "object" _ rf).trans Fb.ob
  have apart : x ≠ hh.objs.size := Nat.ne_of_lt (Heap.lt_size ex)
  have isO : PySem.W.Looks (model prog w) hh (isInstance (.ref x) (.type "object")) true := at_.type.andThen (PySem.W.looks_mroIn KI (by unfold PySem.W.mroIn; rw [ec, Option.bind_some, if_neg (by rw [some_]; decide), hasO]))
  refine codeAny_call_builtin St.slot.plain St.entry (@PySem.W.check_slot (model prog w) _ _ ⟨hh, gg, dr, tn, os⟩ "object.__setattr__" "object" "__setattr__" (.ref x) [.str name tk, v] [] _ St.kind St.split isO (St.args (.ref x) (.str name tk) v) ?_)
  have mroL : PySem.W.Looks (model prog w) hh (mroOf (.ref C)) cd.mro := (PySem.W.looks_clsIn KI ec).andThen .now
  have taker : PySem.W.Looks (model prog w) hh (storeTaker? none) none := .now
  have clsL : PySem.W.Looks (model prog w) hh (classData C) cd := PySem.W.looks_clsIn KI ec
  rw [PySem.W.osa_eq, refuse_eq]
  refine wpAny_bind (wpAny_bind (at_.type.at (wpAny_bind (mroL.at ?_))))
  rw [refsT_pass Fb _ _ rf]
  refine wpAny_pure (wpAny_bind (at_.type.at (wpAny_bind ((PySem.W.looks_findIn KI no).at (wpAny_bind (taker.at ?_))))))
  show wpAny _ _ (storeInOwnDict (.ref x) (.ref C) (.str name tk) name v false) _ _ _
  obtain ⟨nm, bs, mro, ns, qn, hd', sn, sb, ab, col, del⟩ := cd
  dsimp only at hd
  subst hd
  unfold storeInOwnDict ownDictForStores
  repeat (first | with_reducible refine HandSPX.store_in_new ?_ ?_ | with_reducible refine wpAny_loadPart_at ex ?_ | with_reducible refine clsL.at ?_ | wp_step)
  · exact ⟨_, #[], _, (Heap.get?_update_ne _ _ _ _ apart.symm).trans (Heap.get?_push_at rfl rfl), rfl, fun e he => absurd he (by simp), fun _ => rfl⟩
  · intro h' tk' nsd sb'
    have ex1 : (hh.push { cls := .type "dict", data := .dict #[] }).get? x = some { cls := .ref C, data := .fields fv } := Heap.get?_push_of_some _ ex
    refine k h' tk' hh.objs.size (fun b o hb ho => ?_) (Nat.le_refl _) apart.symm ?_ nsd
    · exact (sb'.2 b (Nat.ne_of_lt (Heap.lt_size ho))).trans ((Heap.get?_update_ne _ _ _ _ hb).trans (Heap.get?_push_of_some _ ho))
    · exact (sb'.2 x apart).trans (Heap.get?_update_self _ ex1 rfl)
end
section
variable {X : Cx} {pins : List (Addr × Obj)} {σ : L2.St} {H : Hp} {s : Shared} {a C : Addr} {f : Str} {y : V} {u : Value} {E : Value → Shared → Prop} {A : Around} {B nw ini : String} {tl : List Value}
theorem ostT {Q : Unit → Shared → Prop} (Fb : Bas B nw ini tl) (T : OexT X.K C nw tl) (J : Inv X pins σ H s) (ea : H a = some (exo a C none)) (no : PySem.W.findIn X.K (.ref C) f = some none) (ry : RelV y u)
    (h : ∀ dx s', H dx = none → dx ≠ a → Inv X pins σ (upd (upd H dx (exd dx [(f, y)])) a (exo a C (some dx))) s' → Q () s') : wpAny (model X.prog X.w) A (setAttr (.ref a) f u) Q E s := by
  obtain ⟨nm, q, N, bs, bm, sn, sub, ab, col, dd, k0, k1, k2, k3, k5, kc, rf⟩ := T.cls
  have ec : PySem.W.clsIn X.K C = some { name := nm, bases := bs, mro := .ref C :: bm, ns := N, qualname := q, hasDict := true, slotNames := sn, subclasses := sub, abstract := ab, collection := col, hasDel := false } := by
    unfold PySem.W.clsIn
    rw [kc] <;> rfl
  obtain ⟨t1, ob⟩ := exo_at J.hok ea
  obtain ⟨hh, gg, dr, tn, os⟩ := s
  refine PySem.W.set_plain J.kIn (ox := { cls := .ref C, dict := none, data := .fields #[.ref t1, .none, .none, .none, .bool false, .none] }) (od := none) ⟨ob, rfl, rfl, trivial⟩ T.sa ?_
  refine osa_first Fb J.kIn ob ec (show refsT tl (.ref C :: bm) = true from rf) rfl no (fun h' tk' dx kp new apart xd nsd => ?_)
  have fr : H dx = none := J.hok.fresh new
  have nd : ∀ {b : Addr} {o : Obj}, hh.get? b = some o → b ≠ dx := fun {b o} z => Nat.ne_of_lt (Nat.lt_of_lt_of_le (Heap.lt_size z) new)
  have na : ∀ {b : Addr}, H b = none → b ≠ a := fun {b} n z => by
    rw [z, ea] at n
    cases n
  have un : Un X.fs [] H (upd (upd H dx (exd dx [(f, y)])) a (exo a C (some dx))) hh h' := {
    keep := fun b o z n _ _ => kp b o (na n) z
    slot := fun b o z n _ _ => ⟨o.slots, kp b o (na n) z⟩
    free := fun b o z n _ => by rw [upd_ne (na n), upd_ne (nd z)]; exact n
    there := fun b o z _ => by
      by_cases hb : b = a
      · exact ⟨_, by rw [hb]; exact xd⟩
      · exact ⟨o, kp b o hb z⟩
    tups := fun b xs z => by rw [upd_ne (at_ne ea z exo_tup), upd_ne (ne_of_none z fr)]; exact z
    frzs := fun b o v z => by rw [upd_ne (at_ne ea z exo_frz), upd_ne (ne_of_none z fr)]; exact z
    tbls := fun b ps z => ⟨#[], by rw [upd_ne (at_ne ea z exo_tbl), upd_ne (ne_of_none z fr), z]; simp⟩ }
  refine h dx _ fr apart (J.un (t' := tk') un fun b o z => ?_)
  by_cases hb : b = a
  · subst hb
    rw [upd_same] at z
    cases z
    exact exo_ok xd
  · rw [upd_ne hb] at z
    by_cases hd : b = dx
    · subst hd
      rw [upd_same] at z
      cases z
      exact exd_ok nsd (relO_put (fs := []) ry fun _ => True.intro)
    · rw [upd_ne hd] at z
      refine (J.hok b o z).stay (fun c v hc y => kp c v ?_ y) (fun c hc => by rw [upd_ne (at_ne ea hc exo_own), upd_ne (ne_of_none hc fr)]; exact hc) (fun c xs hc => by rw [upd_ne (at_ne ea hc exo_tup), upd_ne (ne_of_none hc fr)]; exact hc)
      rcases hc with hc | hc
      · rw [hc]; exact hb
      · exact at_ne ea hc exo_own
/-- B.__init__(x, ..) -/
theorem oinitT {us : List Value} {Q : Value → Shared → Prop} (Fb : Bas B nw ini tl) (T : OexT X.K C nw tl) (J : Inv X pins σ H s) (ea : H a = some (exo a C none)) (hl : us.length ≤ sizeLine) (h : ∀ s', Inv X pins σ H s' → Q .none s') :
    wpAny (model X.prog X.w) A (call (.builtin ini) (.ref a :: us)) Q E s := by
  obtain ⟨nm, q, N, bs, bm, sn, sub, ab, col, dd, k0, k1, k2, k3, k5, kc, rf⟩ := T.cls
  obtain ⟨t1, ob⟩ := exo_at J.hok ea
  obtain ⟨hh, gg, dr, tn, os⟩ := s
  refine wpAny_call (init_baseT Fb ((refsT_has _ _ rf).trans Fb.hasB) (J.kIn _ _ kc) ob hl fun h' t2 kp xd => ?_)
  have J2 := J.write (t' := tn) (x := a) (e := a) (o := exo a C none) (by rw [ea]; exact True.intro) (.inl rfl) kp ⟨_, xd⟩ (exo_ok xd)
  have same : upd H a (exo a C none) = H := by
    funext b
    by_cases hb : b = a
    · rw [hb, upd_same, ea]
    · rw [upd_ne hb]
  rw [same] at J2
  exact h _ J2
end
/-! readings and rules -/
def tInitT (K : PySem.W.Frag) (nw : String) (tl : List Value) (ta : TA) : TE := fun σ H Q => ta σ H fun vs H1 => ∃ (a C : Addr) (ws : List V), vs = .ref a :: ws ∧ ws.length ≤ 1000 ∧ OexT K C nw tl ∧ H1 a = some (exo a C none) ∧ Q .non H1
def tOstT (K : PySem.W.Frag) (nw : String) (tl : List Value) (f : Str) (to te : TE) : TS := fun D σ H => te σ H fun y H1 => to σ H1 fun x H2 => ∃ a C : Addr, x = .ref a ∧ OexT K C nw tl ∧ PySem.W.findIn K (.ref C) f = some none ∧
  H2 a = some (exo a C none) ∧ ∀ dx, H2 dx = none → dx ≠ a → D.nx σ (upd (upd H2 dx (exd dx [(f, y)])) a (exo a C (some dx)))
/-- B' is an own class over B without an __init__ of its own -/
structure FamT (K : PySem.W.Frag) (B' : Addr) (ini : String) : Prop where
  rd : ClX.CRead K B' (.type "type")
  ini : PySem.W.findCls K (.ref B') (.type "type") "__init__" = some (.val (.builtin ini))
structure OwnT (K : PySem.W.Frag) (C : Addr) (f : Str) (nw : String) (tl : List Value) : Prop where
  ox : OexT K C nw tl
  xf : XfC K C
  ini : PySem.W.findIn K (.ref C) "__init__" = some (some (.ref (He.ma K C "__init__")))
  fn : PySem.W.typeIn K (.ref (He.ma K C "__init__")) = some (.type "function")
  no : PySem.W.findIn K (.ref C) f = some none
section
variable {X : Cx} {K : PySem.W.Frag} {B nw ini : String} {tl : List Value} {o e : Expr} {es : List Expr} {to te : TE} {ta : TA} {f x : Str} {p p' p1 p2 pos pos2 : Pos} {W : WX} {k : Nat} {ps : List Str} {C B' : Addr}
theorem pe_famInitT {pl : Sem Bool} (Fb : Bas B nw ini tl) (T : FamT X.K B' ini) (hg : Gl X x) (hm : X.mg x = some (.ref B')) (ha : PA X (e :: es) ta) (hdb : (x == ("__debug__" : Str)) = false := by decide)
    (hc : eval (.Call (.Attribute (.Name x p1) "__init__" p2) (e :: es) [] pos) X.env = (do
      let ov ← eval (.Name x p1) X.env
      standAt p2.atName
      let (f, first) ← holding [ov] (getMethod ov "__init__" pl)
      callWith pos f first (backTo pos (starEach (e :: es) X.env)) (backToKw pos (keywordEach [] X.env))) := by rfl)
    (he : starEach (e :: es) X.env = (false, eval e X.env) :: starEach es X.env := by rfl) (hpl : (backTo pos (starEach es X.env)).any (·.1) = false := by rfl) :
    PE X (.Call (.Attribute (.Name x p1) "__init__" p2) (e :: es) [] pos) (tInitT X.K nw tl ta) := by
  refine ⟨fun pins s σ H Q J h => ?_⟩
  refine PySem.W.methodCall_KW (ld_glob J hg hm ?_ hdb) hc
  refine PySem.W.method_cls J.kIn T.rd.ga (PySem.W.cls_value J.kIn T.rd.rd T.ini Fb.handed ?_)
  show wpAny _ _ (callWith pos (Value.builtin ini) [] (backTo pos (starEach (e :: es) X.env)) []) _ _ _
  refine PyProof.Rows.callWith_method1 (thn (ha.run pos pins _ σ H _ (J.tok _) h) fun us t ⟨vs, H1, J1, r1, a, C, ws, ev, hl, O, ea, q⟩ => ?_) he hpl
  subst ev
  cases r1 with
  | @cons _ u0 _ ur ra rw' =>
    obtain rfl : u0 = Value.ref a := ra
    exact oinitT Fb O J1 ea (by rw [← Paired.length rw', sizeLine_eq]; omega) fun t' J2 => ⟨.non, H1, J2, rfl, q⟩
theorem ps_ostT (Fb : Bas B nw ini tl) (ho : PE X o to) (he : PE X e te) (hs : swapsWith e (some (.Attribute o f p')) pos.line X.env = pure false := by rfl) : PS X (.Assign [.Attribute o f p'] e pos) (tOstT X.K nw tl f to te) := by
  refine ⟨fun pins s σ H D J h => ?_⟩
  refine plainObj_wpAny_Assign_Attribute (thn (he.run pins s σ H _ J h) fun v t1 ⟨y, H1, J1, r1, q1⟩ => thn (ho.run pins t1 σ H1 _ J1 q1) fun u t2 ⟨z, H2, J2, r2, a, C, ez, O, no, ea, q⟩ => ?_) hs
  subst ez
  obtain rfl : u = Value.ref a := r2
  exact ostT Fb O J2 ea no r1 fun dx s' n ne J3 => ⟨σ, _, J3, q dx n ne⟩
/-- C(e) as a value: a new exception, not raised -/
def tExV (C : Addr) (sp : Sp) (ta : TA) : TE := fun σ H Q => ta σ H fun vs H1 => vs.length ≤ 1000 ∧ ∀ a, H1 a = none → sp (.ref a :: vs) (upd H1 a (exo a C none)) (fun v H2 => v = .non ∧ Q (.ref a) H2) E0
theorem make_exT {fd : FuncData} {sp : Sp} {pins : List (Addr × Obj)} {σ : L2.St} {H : Hp} {s : Shared} {us : List Value} {vs : List V} {Rr : Value → Shared → Prop} (Fb : Bas B nw ini tl) (T : OwnT X.K C f nw tl)
    (Fn : FnOk X.prog X.w X.K X.mg X.base CX0 k (He.ma X.K C "__init__") fd ps sp) (hr : Room (k + 1) X.A) (hb : Binds X.K fd ps []) (J : Inv X pins σ H s) (r : Vals vs us) (hl : vs.length ≤ 1000) (R : VK)
    (q : ∀ a, H a = none → sp (.ref a :: vs) (upd H a (exo a C none)) (fun v H2 => v = .non ∧ R (.ref a) H2) E0)
    (fin : ∀ (a : Addr) (G : Hp) (hp2 : Heap) (t : Shared), s.heap.objs.size ≤ a → (∀ b o, s.heap.get? b = some o → hp2.get? b = some o) → Un (frs X.stack) [] (upd H a (exo a C none)) G hp2 t.heap → HOk X.prog X.w G t.heap → t.os = s.os → AllBare t.gens → Inv X pins σ G t → R (.ref a) G → Rr (.ref a) t) :
    wpAny (model X.prog X.w) X.A (call (.ref C) us) Rr X.xe s := by
  obtain ⟨nm, qn, N, bs, bm, sn, sub, ab, col, dd, k0, k1, k2, k3, k5, kc, rf⟩ := T.ox.cls
  obtain ⟨hh, gg, dr, tn, os⟩ := s
  have new : hh.objs.size ≤ hh.objs.size + 1 := Nat.le_succ _
  have fr : H (hh.objs.size + 1) = none := J.hok.fresh new
  have hq := q (hh.objs.size + 1) fr
  have kk : ∀ b o, hh.get? b = some o → ((hh.push (PySem.W.kdv_tup us)).push (PySem.HandSPX.excO C hh.objs.size)).get? b = some o := fun b o z => Heap.get?_push_of_some _ (Heap.get?_push_of_some _ z)
  have got : ((hh.push (PySem.W.kdv_tup us)).push (PySem.HandSPX.excO C hh.objs.size)).get? (hh.objs.size + 1) = some (PySem.HandSPX.excO C hh.objs.size) := by heap_get
  have J2 : Inv X pins σ (upd H (hh.objs.size + 1) (exo (hh.objs.size + 1) C none)) ⟨(hh.push (PySem.W.kdv_tup us)).push (PySem.HandSPX.excO C hh.objs.size), gg, dr, tn, os⟩ :=
    J.laid (t' := tn) (a := hh.objs.size + 1) (o := exo (hh.objs.size + 1) C none) (h' := (hh.push (PySem.W.kdv_tup us)).push (PySem.HandSPX.excO C hh.objs.size)) kk new (exo_ok got)
  have r2 : Vals (V.ref (hh.objs.size + 1) :: vs) (Value.ref (hh.objs.size + 1) :: us) := .cons rfl r
  have ln : (Value.ref (hh.objs.size + 1) :: us).length = ps.length := by rw [← r2.length]; exact Fn.len _ _ _ _ hq
  have b := hb ⟨_, gg, dr, tn, os⟩ (Value.ref (hh.objs.size + 1) :: us) J2.kIn (by rw [List.append_nil]; exact ln)
  rw [List.append_nil] at b
  have lu : us.length ≤ sizeLine := by
    rw [← Paired.length r, sizeLine_eq]
    omega
  obtain ⟨L, iniL, tlL, Fx, hasL⟩ := Fb.by_
  refine wpAny_call (call_ownT Fx ((refsT_has _ _ rf).trans hasL) ((refsT_has _ _ rf).trans Fb.noA) ((refsT_has _ _ rf).trans Fb.noN) (J.kIn _ _ kc) (PySem.W.looks_findIn J.kIn T.ini) (fun self => PySem.W.bind_fn J.kIn self T.fn) lu
    (codeAny_mono (Fn.run _ X.stack _ _ ⟨Value.ref (hh.objs.size + 1) :: us, []⟩ (Value.ref (hh.objs.size + 1) :: us) _ _ E0 (hr.make C us []) (J2.env0.make C us []) b r2 hq) fun o t z => ?_))
  match o, z with
  | .error er, z => exact pass0 pins σ _ _ er t J2 z
  | .ok (.ret u), z =>
    obtain ⟨v, G, o2, bare2, un2, hok2, rv, ev, q2⟩ := z
    subst ev
    obtain ⟨h2, g2, d2, t2, os2⟩ := t
    exact ⟨rv, fin _ G _ _ new kk un2 hok2 o2 bare2 (J2.call' (ch := []) o2 un2 hok2 bare2 (fun b z => absurd z (by simp))) q2⟩
end
end TS

set_option maxHeartbeats 2000000
/-! ### 36. such exceptions raised, held as values; what the head tells of them -/
namespace TS
open PySem PySem.Spec PyProof.Rows L2
section
variable {X : Cx} {B nw ini : String} {tl : List Value} {e : Expr} {es : List Expr} {te : TE} {ta : TA} {f x : Str} {p pos pos2 : Pos} {W : WX} {k : Nat} {ps : List Str} {C : Addr} {sp : Sp}
theorem pe_exV (Fb : Bas B nw ini tl) (T : OwnT X.K C f nw tl) (pr : PromA CX0 X.prog X.w X.K X.mg X.base k (He.ma X.K C "__init__") ps sp) (hr : Room (k + 1) X.A) (hg : Gl X x) (hm : X.mg x = some (.ref C)) (ha : PA X (e :: es) ta)
    (hdb : (x == ("__debug__" : Str)) = false := by decide) (he : starEach (e :: es) X.env = (false, eval e X.env) :: starEach es X.env := by rfl) (hpl : (backTo pos (starEach es X.env)).any (·.1) = false := by rfl) :
    PE X (.Call (.Name x p) (e :: es) [] pos) (tExV C sp ta) := by
  obtain ⟨fd, Fn, b⟩ := pr
  refine ⟨fun pins s σ H Q J h => wpAny_Call_Name_kw (ld_glob J hg hm ?_ hdb)⟩
  refine PySem.W.callWith_K (h₀ := X.base) J.ok.mod.kin T.ox.kC (thn (ha.run pos pins s σ H _ J h) fun us t ⟨vs, H1, J1, r, hl, q⟩ => ⟨J1.kIn, ?_⟩) he hpl
  exact make_exT Fb T Fn hr b J1 r hl Q q fun a G hp2 t2 _ _ _ _ _ _ J2 q2 => ⟨.ref a, G, J2, rfl, q2⟩
theorem ps_raise1T (Fb : Bas B nw ini tl) (T : OwnT X.K C f nw tl) (pr : PromA CX0 X.prog X.w X.K X.mg X.base k (He.ma X.K C "__init__") ps (spIni C f)) (hc : X.calm = true) (tk : Takes X W) (hr : Room (k + 1) X.A) (hg : Gl X x) (hm : X.mg x = some (.ref C)) (he : PE X e te)
    (hdb : (x == ("__debug__" : Str)) = false := by decide) (hs : starEach [e] X.env = (false, eval e X.env) :: starEach [] X.env := by rfl) (hpl : (backTo pos (starEach [] X.env)).any (·.1) = false := by rfl) :
    PS X (.Raise (some (.Call (.Name x p) [e] [] pos)) none pos2) (tRaise1 C f te W) := by
  obtain ⟨fd, Fn, b⟩ := pr
  have mk : PMk X (.Call (.Name x p) [e] [] pos) (fun σ H Q => tMono te σ H fun v H1 => ∀ d, H1 d = none → Q (.ref C) (some d) (upd H1 d (.xd [(f, v)]))) := by
    intro pins s σ H Q J h
    refine wpAny_Call_Name_kw (ld_glob J hg hm ?_ hdb)
    have ha : PA X [e] (tCons (tMono te) tNil) := pa_cons (pe_mono he) pa_nil hs
    refine PySem.W.callWith_K (h₀ := X.base) J.ok.mod.kin T.ox.kC (thn (ha.run pos pins s σ H (fun vs H1 => ∃ v, vs = [v] ∧ ∀ d, H1 d = none → Q (.ref C) (some d) (upd H1 d (.xd [(f, v)]))) J ?_) fun us t ⟨vs, H1, J1, r, v, ev, q⟩ => ⟨J1.kIn, ?_⟩) hs hpl
    · obtain ⟨R, h1, h2⟩ := h
      exact ⟨R, h1, fun v G r => ⟨v, rfl, h2 v G r⟩⟩
    subst ev
    refine make_exT Fb T Fn hr b J1 r (by simp) (fun z G => ∃ a d, z = .ref a ∧ G a = some (exo a C (some d)) ∧ G d = some (exd d [(f, v)]) ∧ H1 d = none ∧ Q (.ref C) (some d) (upd (del G a) d (.xd [(f, v)]))) ?_ ?_
    · refine fun a na => ⟨a, v, rfl, upd_same .., fun dx nd ne => ⟨rfl, a, dx, rfl, upd_same .., ?_, ?_, ?_⟩⟩
      · rw [upd_ne ne, upd_same]
      · rw [upd_ne ne] at nd; exact nd
      · rw [upd_ne ne] at nd
        rw [upd_swap ne na]
        exact q dx nd
    · rintro a G hp2 ⟨h2, g2, d2, t2, os2⟩ new kk un hok os_ bare _ ⟨a', d, ez, ea, ed, fd', q2⟩
      cases ez
      obtain ⟨hh, gg, dr, tn, os⟩ := t
      exact mk_end (raises_own T.ox.exC T.ox.tyC) J1 new kk un hok os_ bare ea ed fd' q2
  refine ⟨fun pins s σ H D J h => (ps_raise hc tk mk).run pins s σ H D J ?_⟩
  exact ⟨_, h, fun v H1 q d nd => q d nd⟩
end
def famTB (K : PySem.W.Frag) (x : Str) (ini : String) : Bool := (PySem.W.readsIn K (He.ga K x) (.type "type") && He.eqO (PySem.W.specialIn K (.ref (He.ga K x)) "__getattribute__") (some (some (.builtin "type.__getattribute__")))) &&
  (match PySem.W.findCls K (.ref (He.ga K x)) (.type "type") "__init__" with
    | some (.val (.builtin s)) => decide (s = ini)
    | _ => false)
theorem famTB_ok {K : PySem.W.Frag} {x : Str} {ini : String} (h : famTB K x ini = true) : FamT K (He.ga K x) ini := by
  obtain ⟨h1, h2⟩ := He.ba h
  obtain ⟨h3, h4⟩ := He.ba h1
  refine ⟨⟨h3, He.eqO_ok h4⟩, ?_⟩
  split at h2
  · rename_i s e
    rw [e, of_decide_eq_true h2]
  · cases h2
def oexTB (K : PySem.W.Frag) (C : Addr) (nw : String) (tl : List Value) : Bool := match K.lookup C with
  | some ⟨c, dd, .cls cd, sl⟩ => (match cd.mro, sl.toList with
    | .ref C' :: bm, [k0, k1, k2, k3, some (.builtin n), k5] => decide (c = .type "type") && (decide (C' = C) && (decide (n = nw) && (cd.hasDict && (!cd.hasDel && refsT tl bm))))
    | _, _ => false)
  | _ => false
theorem oexTB_ok {K : PySem.W.Frag} {C : Addr} {nw : String} {tl : List Value} (h : oexTB K C nw tl = true) : ∃ nm q N bs bm sn sub ab col dd k0 k1 k2 k3 k5, K.lookup C = some (excClassObj nm q C N bs bm true sn sub ab col dd k0 k1 k2 k3 k5 nw) ∧ refsT tl bm = true := by
  unfold oexTB at h
  split at h
  · rename_i c dd cd sl ho
    split at h
    · rename_i C' bm k0 k1 k2 k3 n k5 hm hs
      obtain ⟨a1, h⟩ := He.ba h
      obtain ⟨a2, h⟩ := He.ba h
      obtain ⟨a3, h⟩ := He.ba h
      obtain ⟨a4, h⟩ := He.ba h
      obtain ⟨a5, a6⟩ := He.ba h
      have a1 := of_decide_eq_true a1
      have a2 := of_decide_eq_true a2
      have a3 := of_decide_eq_true a3
      obtain ⟨nm, bs, mro, ns, qn, hd, sn, sb, ab, col, del⟩ := cd
      dsimp only at hm a4 a5
      have a5 : del = false := by simpa using a5
      subst a1 a2 hm a4 a5
      rw [a3] at hs
      have hsl : sl = #[k0, k1, k2, k3, some (.builtin nw), k5] := by
        obtain ⟨l⟩ := sl
        simp only at hs
        rw [hs]
      subst hsl
      exact ⟨nm, qn, ns, bs, bm, sn, sb, ab, col, dd, k0, k1, k2, k3, k5, ho, a6⟩
    · cases h
  · cases h
def ownTB (K : PySem.W.Frag) (x f : Str) (nw : String) (tl : List Value) : Bool := (oexTB K (He.ga K x) nw tl && (He.eqO (PySem.W.findIn K (.ref (He.ga K x)) "__setattr__") (some (some (.builtin "object.__setattr__"))) && (decide (PySem.W.subIn K (.ref (He.ga K x)) (.type "BaseException") = some true) &&
  (decide (PySem.W.typeIn K (.ref (He.ga K x)) = some (.type "type")) && PySem.W.keepIn K (.ref (He.ga K x)))))) && ((xfB K (He.ga K x) && He.eqO (PySem.W.findIn K (.ref (He.ga K x)) "__init__") (some (some (.ref (He.ma K (He.ga K x) "__init__"))))) &&
  (decide (PySem.W.typeIn K (.ref (He.ma K (He.ga K x) "__init__")) = some (.type "function")) && He.eqO (PySem.W.findIn K (.ref (He.ga K x)) f) (some none)))
theorem ownTB_ok {K : PySem.W.Frag} {x f : Str} {nw : String} {tl : List Value} (h : ownTB K x f nw tl = true) : OwnT K (He.ga K x) f nw tl := by
  obtain ⟨h1, h⟩ := He.ba h
  obtain ⟨a1, h1⟩ := He.ba h1
  obtain ⟨a2, h1⟩ := He.ba h1
  obtain ⟨a3, h1⟩ := He.ba h1
  obtain ⟨a4, a5⟩ := He.ba h1
  obtain ⟨h2, h⟩ := He.ba h
  obtain ⟨b1, b2⟩ := He.ba h2
  obtain ⟨b3, b4⟩ := He.ba h
  exact ⟨⟨oexTB_ok a1, He.eqO_ok a2, of_decide_eq_true a3, of_decide_eq_true a4, a5⟩, xfB_ok b1, He.eqO_ok b2, of_decide_eq_true b3, He.eqO_ok b4⟩

end TS

set_option maxHeartbeats 2000000
/-! ### 11. try with a clause of two classes; the exception caught may be handed on to a def -/
namespace TS
open PySem PySem.Spec PyProof.Rows L2
abbrev Clause2 := List Value × Option Nat × (Addr → Value → Option Addr → TS)
/-- one class: its own answer; two: either -/
def exmL (K : PySem.W.Frag) (cls : Value) : List Value → Option Bool
  | [c] => PySem.W.exmOne K cls c
  | l => PySem.W.exmAny K cls l
def wClauses2 (K : PySem.W.Frag) (D : Ends) : List Clause2 → WX
  | [] => fun _ _ _ _ => False
  | (cs, some i, ts) :: r => fun cls d σ H => ∃ b, exmL K cls cs = some b ∧ (b = true → ∀ a, H a = none → ts a cls d (Ends.drop D i) (σ.set i (some (.ref a))) H) ∧ (b = false → wClauses2 K D r cls d σ H)
  | (cs, none, ts) :: r => fun cls d σ H => ∃ b, exmL K cls cs = some b ∧ (b = true → ∀ a, H a = none → ts a cls d D σ H) ∧ (b = false → wClauses2 K D r cls d σ H)
/-- in the suite the exception lies outside the base, too -/
abbrev SuiteOk2 (X : Cx) (st : List Stmt) (ts : Addr → Value → Option Addr → TS) : Prop :=
  ∀ (a : Addr) (oe : Obj) (cls : Value) (d : Option Addr) (pn : List (Addr × Obj)), X.base.get? a = none → Zc cls d oe → (∃ vs, oe.data = .fields vs) → PSs (X.suite a ((a, oe) :: pn)) st (ts a cls d)
/-- the test of a clause -/
inductive TestOk (X : Cx) : Expr → List Value → Prop
  | one {x : Str} {c : Value} {np : Pos} (hc : Names X x c) : TestOk X (.Name x np) [c]
  | two {x y : Str} {c e : Value} {np mp tp : Pos} {kk : Nat} (hc : Names X x c) (he : Names X y e) : TestOk X (.Tuple [.Name x np, .Name y mp] kk tp) [c, e]
inductive ClausesOk2 (X : Cx) : List ExceptHandler → List Clause2 → Prop
  | stop {l : List ExceptHandler} : ClausesOk2 X l []
  | as_ {t : Expr} {n : Str} {i : Nat} {cs : List Value} {ts : Addr → Value → Option Addr → TS} {b₀ : Stmt} {suite : List Stmt} {pp : Pos} {l : List ExceptHandler} {r : List Clause2} (hi : X.N[i]? = some n) (hln : X.env.kindOf n = some .local) (hc : TestOk X t cs)
      (hsu : SuiteOk2 X (b₀ :: suite) ts) (tl : ClausesOk2 X l r) : ClausesOk2 X (.ExceptHandler (some t) (some n) (b₀ :: suite) pp :: l) ((cs, some i, ts) :: r)
  | only {t : Expr} {cs : List Value} {ts : Addr → Value → Option Addr → TS} {b₀ : Stmt} {suite : List Stmt} {pp : Pos} {l : List ExceptHandler} {r : List Clause2} (hc : TestOk X t cs)
      (hsu : SuiteOk2 X (b₀ :: suite) ts) (tl : ClausesOk2 X l r) : ClausesOk2 X (.ExceptHandler (some t) none (b₀ :: suite) pp :: l) ((cs, none, ts) :: r)
theorem flying_push {B : Heap} {l : List Env} {a : Addr} {Z : Obj → Prop} {h h' : Heap} (k : ∀ b o, h.get? b = some o → h'.get? b = some o) (f : HandSPX.FlyingZ B l a Z h) : HandSPX.FlyingZ B l a Z h' := by
  obtain ⟨k1, k2, k3, oe, vs, T, oT, ts, e1, z, d1, t1, bT, nT, e2, d2, q⟩ := f
  exact ⟨fun b o e => k b o (k1 b o e), k2, Heap.FunFrames.of_keeps (fun b o e _ => ⟨o, k b o e, rfl⟩) k3, oe, vs, T, oT, ts, k _ _ e1, z, d1, t1, bT, nT, k _ _ e2, d2, q⟩
section
variable {X : Cx} {body : List Stmt} {h₀ : ExceptHandler} {hs' : List ExceptHandler} {cl : List Clause2} {pos : Pos} {tb : WX → TS}
theorem ps_try2 (stk : X.stack = X.env :: X.outer) (frm : X.env.frame = some X.env.locals) (nod : X.N.Nodup)
    (bod : ∀ (W : WX) (pn : List (Addr × Obj)) (xe : Value → Shared → Prop), Takes (X.tr pn xe) W → PassesOwn (model X.prog X.w) X.A X.env xe → PSs (X.tr pn xe) body (tb W))
    (cls' : ClausesOk2 X (h₀ :: hs') cl) : PS X (.Try body (h₀ :: hs') [] [] pos) (fun D σ H => tb (wClauses2 X.K D cl) D σ H) := by
  refine ⟨fun pins s σ H D J rd => ?_⟩
  have xok := J.ok
  have afr : X.A.frames = some (X.env :: X.outer) := by rw [xok.frames, stk]
  refine wpAny_Try_except ?_
  refine wpAny_mono ((bod (wClauses2 X.K D cl) (X.pn ++ pins) (fun u t1 => wpAny (model X.prog X.w) X.A (noteFrame u X.env) (fun _ t2 => wpAny (model X.prog X.w) X.A (setFlight u none) (fun _ t3 =>
    wpAny (model X.prog X.w) X.A (handleBy u X.env (h₀ :: hs')) (SP X pins D) X.xe t3) X.xe t2) X.xe t1) (fun u t air => ?_) PassesOwn.looking).run [] s σ H D (J.toTry _) rd) (fun fl t1 sp => ?_) (fun u t1 z => z)
  · obtain ⟨a, gr, sA, pins', σ', H', cls, d, rfl, J', ngr, up, sky, na, os, ag, wish⟩ := air
    have J1 : Inv X pins σ' H' sA := J'.ofTry xok
    have sky1 : Sky gr (X.env :: X.outer) a (Zc cls d) X.env.locals t.heap := by rw [← stk]; exact sky
    show wpAny (model X.prog X.w) X.A (noteFrame (.ref a) X.env) _ _ _
    refine Sky.land Zc.steady afr frm sky1 fun h3 fl3 up3 => ?_
    have bna : X.base.get? a = none := by
      cases e : X.base.get? a with
      | none => rfl
      | some o =>
        have g0 := J1.bk a o e
        have nf : a ∉ frs X.stack := fun m => by
          have := (J1.stack.mem m).1
          rw [e] at this; cases this
        have g1 := ngr a o g0 nf
        rw [fl3.2.1] at g1; cases g1
    have go : ∀ {l : List ExceptHandler} {r : List Clause2}, ClausesOk2 X l r → wClauses2 X.K D r cls d σ' H' → ∀ h3 : Heap, HandSPX.FlyingZ gr (X.env :: X.outer) a (Zc cls d) h3 → sA.heap.UpToSlots h3 →
        wpAny (model X.prog X.w) X.A (handleBy (.ref a) X.env l) (SP X pins D) X.xe { t with heap := h3 } := by
      intro l r ck
      induction ck with
      | stop => intro w; exact False.elim w
      | @as_ te n i cs ts b₀ suite pp l r hi hln hc hsu t2 ih =>
        intro w h3 fl3 up3
        obtain ⟨b, eb, yes, no⟩ := w
        have J3 : Inv X pins σ' H' { t with heap := h3 } := J1.landed ngr fl3.1 up3 os ag
        obtain ⟨oe3, vs3, get3, zc3, dat3⟩ := fl3.there
        have offA : a ∉ frs (X.env :: X.outer) := fun m => by
          obtain ⟨_, o', g', nf⟩ := fl3.2.2.1.mem m
          rw [get3] at g'; cases g'
          exact nf _ dat3
        have neL : a ≠ X.env.locals := fun z => offA (List.mem_filterMap.mpr ⟨X.env, List.mem_cons_self, by rw [frm, z]⟩)
        have neF : a ∉ X.fs := fun m => by
          obtain ⟨en, me, q⟩ := List.mem_filterMap.mp m
          exact offA (List.mem_filterMap.mpr ⟨en, List.mem_cons_of_mem _ me, q⟩)
        have S3 := J3.suite get3 dat3 na neL neF
        have ld : ∀ {x : Str} {c : Value} {np : Pos}, Names X x c → ∀ {Q : Value → Shared → Prop} {E : Value → Shared → Prop}, Q c { t with heap := h3 } → wpAny (model X.prog X.w) (X.A.mark (some (.ref a))) (eval (.Name x np) X.env) Q E { t with heap := h3 } := fun {x c np} nm {Q E} q => by
          obtain ⟨g, db, m | ⟨m, v, nn⟩⟩ := nm
          · exact ld_glob (X := X.suite a ((a, oe3) :: (X.pn ++ pins))) S3 g m q db
          · exact ld_blt (X := X.suite a ((a, oe3) :: (X.pn ++ pins))) S3 g m v q nn db
        have LT : PySem.W.Looks (model X.prog X.w) h3 (typeOf (.ref a)) cls := fun A Q E s k q => wpAny_typeOf_ref (k _ _ get3) (by rw [zc3.1]; exact q)
        refine wpAny_handleBy_cons (codeAny_handlers_test ?_) (by intro q; cases q)
        have test : ∀ {Q : Bool → Shared → Prop} {E : Value → Shared → Prop}, (∀ h4 : Heap, HandSPX.FlyingZ gr (X.env :: X.outer) a (Zc cls d) h4 → sA.heap.UpToSlots h4 → Q b { t with heap := h4 }) →
            wpAny (model X.prog X.w) (X.A.mark (some (.ref a))) (eval te X.env) (fun c s1 => wpAny (model X.prog X.w) (X.A.mark (some (.ref a))) (excMatches (.ref a) c) Q E s1) E { t with heap := h3 } := by
          intro Q E q
          cases hc with
          | one hc => exact ld hc ((PySem.W.exm_one (M := model X.prog X.w) J3.kIn LT eb).here (q h3 fl3 up3))
          | @two x y c e np mp tp kk hc he =>
            refine wpAny_Tuple (wpAny_items_cons (ld hc (wpAny_items_cons (ld he (wpAny_items_nil ⟨by show 2 ≤ sizeLine; decide, ?_⟩)))))
            have kp : ∀ q o, h3.get? q = some o → (h3.push { cls := .type "tuple", data := .seq [c, e].toArray }).get? q = some o := fun _ _ z => Heap.get?_push_of_some _ z
            refine (PySem.W.exm_tup2 (M := model X.prog X.w) (J3.kIn.keeps kp) (LT.keeps kp) (Heap.get?_push_size h3 rfl) eb).here (q _ (flying_push kp fl3) (up3.trans fun b o g _ => ⟨o.slots, kp b o g⟩))
        refine test fun h5 fl5 up5 => ?_
        cases b with
        | false =>
          show wpAny _ X.A (handleBy (.ref a) X.env l) _ _ _
          exact ih (no rfl) h5 fl5 up5
        | true =>
          refine codeAny_handlers_suite_as ?_
          refine HandSPX.lands_againZ fl5 fun h4 fl4 up4 => ?_
          have J4 : Inv X pins σ' H' { t with heap := h4 } := J1.landed ngr fl4.1 (up5.trans up4) os ag
          obtain ⟨oe4, vs4, get4, zc4, dat4⟩ := fl4.there
          have S4 := J4.suite get4 dat4 na neL neF
          refine store_ok (X := X.suite a ((a, oe4) :: (X.pn ++ pins))) (v := .ref a) S4 nod hi (.inl hln) rfl (fun t5 S5 => ?_) (.inr hln)
          refine wpAny_mono ((hsu a oe4 cls d (X.pn ++ pins) bna zc4 ⟨_, dat4⟩).run [] t5 _ H' _ S5 (yes rfl a na)) (fun fl t6 sp => ?_) (fun _ _ z => False.elim z)
          have un : ∀ {σ6 : L2.St} {H6 : Hp} {Q : Shared → Prop}, Inv (X.suite a ((a, oe4) :: (X.pn ++ pins))) [] σ6 H6 t6 → (∀ t7, Inv X pins (σ6.set i none) H6 t7 → Q t7) →
              wpAny (model X.prog X.w) X.A (do bindName X.env n .none; unbindBehindTheSuite X.env n pp) (fun _ t7 => Q t7) X.xe t6 := fun {σ6 H6 Q} S6 q => gone_ok (S6.unsuite xok) nod hi hln q
          cases fl with
          | next => exact let ⟨_, _, S6, q6⟩ := sp; un S6 fun t7 J7 => ⟨_, _, J7, q6⟩
          | brk => exact let ⟨_, _, S6, q6⟩ := sp; un S6 fun t7 J7 => ⟨_, _, J7, q6⟩
          | cont => exact let ⟨_, _, S6, q6⟩ := sp; un S6 fun t7 J7 => ⟨_, _, J7, q6⟩
          | ret u => exact let ⟨_, _, _, S6, r6, q6⟩ := sp; un S6 fun t7 J7 => ⟨_, _, _, J7, r6, q6⟩
      | @only te cs ts b₀ suite pp l r hc hsu t2 ih =>
        intro w h3 fl3 up3
        obtain ⟨b, eb, yes, no⟩ := w
        have J3 : Inv X pins σ' H' { t with heap := h3 } := J1.landed ngr fl3.1 up3 os ag
        obtain ⟨oe3, vs3, get3, zc3, dat3⟩ := fl3.there
        have offA : a ∉ frs (X.env :: X.outer) := fun m => by
          obtain ⟨_, o', g', nf⟩ := fl3.2.2.1.mem m
          rw [get3] at g'; cases g'
          exact nf _ dat3
        have neL : a ≠ X.env.locals := fun z => offA (List.mem_filterMap.mpr ⟨X.env, List.mem_cons_self, by rw [frm, z]⟩)
        have neF : a ∉ X.fs := fun m => by
          obtain ⟨en, me, q⟩ := List.mem_filterMap.mp m
          exact offA (List.mem_filterMap.mpr ⟨en, List.mem_cons_of_mem _ me, q⟩)
        have S3 := J3.suite get3 dat3 na neL neF
        have ld : ∀ {x : Str} {c : Value} {np : Pos}, Names X x c → ∀ {Q : Value → Shared → Prop} {E : Value → Shared → Prop}, Q c { t with heap := h3 } → wpAny (model X.prog X.w) (X.A.mark (some (.ref a))) (eval (.Name x np) X.env) Q E { t with heap := h3 } := fun {x c np} nm {Q E} q => by
          obtain ⟨g, db, m | ⟨m, v, nn⟩⟩ := nm
          · exact ld_glob (X := X.suite a ((a, oe3) :: (X.pn ++ pins))) S3 g m q db
          · exact ld_blt (X := X.suite a ((a, oe3) :: (X.pn ++ pins))) S3 g m v q nn db
        have LT : PySem.W.Looks (model X.prog X.w) h3 (typeOf (.ref a)) cls := fun A Q E s k q => wpAny_typeOf_ref (k _ _ get3) (by rw [zc3.1]; exact q)
        refine wpAny_handleBy_cons (codeAny_handlers_test ?_) (by intro q; cases q)
        have test : ∀ {Q : Bool → Shared → Prop} {E : Value → Shared → Prop}, (∀ h4 : Heap, HandSPX.FlyingZ gr (X.env :: X.outer) a (Zc cls d) h4 → sA.heap.UpToSlots h4 → Q b { t with heap := h4 }) →
            wpAny (model X.prog X.w) (X.A.mark (some (.ref a))) (eval te X.env) (fun c s1 => wpAny (model X.prog X.w) (X.A.mark (some (.ref a))) (excMatches (.ref a) c) Q E s1) E { t with heap := h3 } := by
          intro Q E q
          cases hc with
          | one hc => exact ld hc ((PySem.W.exm_one (M := model X.prog X.w) J3.kIn LT eb).here (q h3 fl3 up3))
          | @two x y c e np mp tp kk hc he =>
            refine wpAny_Tuple (wpAny_items_cons (ld hc (wpAny_items_cons (ld he (wpAny_items_nil ⟨by show 2 ≤ sizeLine; decide, ?_⟩)))))
            have kp : ∀ q o, h3.get? q = some o → (h3.push { cls := .type "tuple", data := .seq [c, e].toArray }).get? q = some o := fun _ _ z => Heap.get?_push_of_some _ z
            refine (PySem.W.exm_tup2 (M := model X.prog X.w) (J3.kIn.keeps kp) (LT.keeps kp) (Heap.get?_push_size h3 rfl) eb).here (q _ (flying_push kp fl3) (up3.trans fun b o g _ => ⟨o.slots, kp b o g⟩))
        refine test fun h5 fl5 up5 => ?_
        cases b with
        | false =>
          show wpAny _ X.A (handleBy (.ref a) X.env l) _ _ _
          exact ih (no rfl) h5 fl5 up5
        | true =>
          refine codeAny_handlers_suite ?_
          refine HandSPX.lands_againZ fl5 fun h4 fl4 up4 => ?_
          have J4 : Inv X pins σ' H' { t with heap := h4 } := J1.landed ngr fl4.1 (up5.trans up4) os ag
          obtain ⟨oe4, vs4, get4, zc4, dat4⟩ := fl4.there
          have S4 := J4.suite get4 dat4 na neL neF
          refine wpAny_mono ((hsu a oe4 cls d (X.pn ++ pins) bna zc4 ⟨_, dat4⟩).run [] _ _ H' _ S4 (yes rfl a na)) (fun fl t6 sp => ?_) (fun _ _ z => False.elim z)
          cases fl with
          | next => exact let ⟨_, _, S6, q6⟩ := sp; ⟨_, _, S6.unsuite xok, q6⟩
          | brk => exact let ⟨_, _, S6, q6⟩ := sp; ⟨_, _, S6.unsuite xok, q6⟩
          | cont => exact let ⟨_, _, S6, q6⟩ := sp; ⟨_, _, S6.unsuite xok, q6⟩
          | ret u => exact let ⟨_, _, _, S6, r6, q6⟩ := sp; ⟨_, _, _, S6.unsuite xok, r6, q6⟩
    exact go cls' wish h3 fl3 (up.trans up3)
  · cases fl with
    | next => exact let ⟨σ', H', J', q⟩ := sp; wpAny_execs_nil ⟨σ', H', J'.ofTry xok, q⟩
    | brk => exact let ⟨σ', H', J', q⟩ := sp; ⟨σ', H', J'.ofTry xok, q⟩
    | cont => exact let ⟨σ', H', J', q⟩ := sp; ⟨σ', H', J'.ofTry xok, q⟩
    | ret u => exact let ⟨v, σ', H', J', r, q⟩ := sp; ⟨v, σ', H', J'.ofTry xok, r, q⟩
end
/-! the exception handed to a def -/
def exE (a : Addr) (oe : Obj) : HO := .ext fun h => h.get? a = some oe
/-- C's instances, asked by isinstance -/
def exI (K : PySem.W.Frag) (C : Addr) : Bool := (PySem.W.clsIn K C).isSome && (PySem.W.findIn K (.ref C) "__getattribute__" == some (some (.builtin "BaseException.__getattribute__")) && (PySem.W.findIn K (.ref C) "__getattr__" == some none && (PySem.W.subIn K (.ref C) (.type "BaseException") == some true &&
  (PySem.W.findIn K (.ref C) "__class__" == some (some (.builtin "object.__class__")) && (PySem.W.specialIn K (.builtin "object.__class__") "__get__" == some (some (.builtin "getset_descriptor.__get__")) && (PySem.W.takesIn K (.builtin "object.__class__") == some true && PySem.W.mroIn K C (.type "object") == some true))))))
/-- isinstance(e, c), e handed on -/
def rIsX (K : PySem.W.Frag) : List V → Hp → VK → Prop := fun xs H Q => ∃ (a D dx : Addr) (oe : Obj) (fs : List (Str × V)) (c : V) (cv : Value) (b : Bool), xs = [.ref a, c] ∧ H a = some (exE a oe) ∧ Zc (.ref D) (some dx) oe ∧ (∃ vs, oe.data = .fields vs) ∧ H dx = some (.xd fs) ∧ exI K D = true ∧ (∀ u, RelV c u → u = cv) ∧ PySem.W.kitOne K (.ref D) cv = some b ∧ Q (.bl b) H
theorem call_isX {X : Cx} {K : PySem.W.Frag} (hK : X.K = K) : CallR X (.builtin "isinstance") (rIsX K) := by
  subst hK
  intro pins s σ H xs us Q I r h
  obtain ⟨a, D, dx, oe, fs, c, cv, b, rfl, he, hz, hf, hdx, hi, hcv, e, q⟩ := h
  cases r with
  | cons rx rr =>
    cases rr with
    | cons rt rr =>
      cases rr
      cases rx
      have ec := hcv _ rt
      subst ec
      obtain ⟨hget, _⟩ := (show ObjOk X.prog X.w H s.heap a (.ext fun h => h.get? a = some oe) from I.hok a _ he)
      obtain ⟨vs, hv⟩ := hf
      obtain ⟨od, hod⟩ : ∃ od, s.heap.get? dx = some od := by
        cases g : s.heap.get? dx with
        | some o => exact ⟨o, rfl⟩
        | none =>
          have := I.hok.gone g
          rw [hdx] at this; cases this
      have J : PySem.W.InstAt s.heap a oe D (some od) := by
        obtain ⟨oc, odi, oda, osl⟩ := oe
        obtain ⟨h1, h2⟩ := hz
        dsimp only at h1 h2 hv
        subst h1 h2 hv
        exact ⟨hget, rfl, rfl, hod⟩
      simp only [exI, Bool.and_eq_true, beq_iff_eq] at hi
      obtain ⟨i1, i2, i3, i4, i5, i6, i7, i8⟩ := hi
      exact PySem.W.kia_one (PySem.W.kitx_exc i1 i2 i3 i4 i5 i6 i7 i8) I.kIn J e (fun z => nomatch z) fun tk => ⟨.bl b, H, I.kept (t' := tk) fun _ _ z => z, rfl, q⟩
/-- f(e), e the exception of the suite: the def sees its object -/
theorem un_back {fs : List Addr} {H H' : Hp} {h h' : Heap} {a : Addr} {oe : Obj} (hn : H a = none) (ha : H' a = some (exE a oe)) (g : h.get? a = some oe) (g' : h'.get? a = some oe) (u : Un fs [] (upd H a (exE a oe)) H' h h') : Un fs [] H (ItX.dropH H' a) h h' where
  keep := fun b o e n hb hx => by
    by_cases z : b = a
    · rw [z] at e ⊢; rw [g] at e; cases e; exact g'
    · exact u.keep b o e (by rw [upd_ne z]; exact n) hb hx
  slot := fun b o e n hb hx => by
    by_cases z : b = a
    · rw [z] at e ⊢; rw [g] at e; cases e; exact ⟨oe.slots, g'⟩
    · exact u.slot b o e (by rw [upd_ne z]; exact n) hb hx
  free := fun b o e n hx => by
    by_cases z : b = a
    · rw [z, ItX.dropH_same]
    · rw [ItX.dropH_ne z]; exact u.free b o e (by rw [upd_ne z]; exact n) hx
  there := fun b o e hx => u.there b o e hx
  tups := fun b xs e => by
    have z : b ≠ a := ne_of_none e hn
    rw [ItX.dropH_ne z]; exact u.tups b xs (by rw [upd_ne z]; exact e)
  frzs := fun b o xs e => by
    have z : b ≠ a := ne_of_none e hn
    rw [ItX.dropH_ne z]; exact u.frzs b o xs (by rw [upd_ne z]; exact e)
  tbls := fun b ps e => by
    have z : b ≠ a := ne_of_none e hn
    rw [ItX.dropH_ne z]; exact u.tbls b ps (by rw [upd_ne z]; exact e)
theorem hok_drop {P : Program} {w : World} {H : Hp} {h : Heap} {a : Addr} {oe : Obj} (ha : H a = some (exE a oe)) (x : HOk P w H h) : HOk P w (ItX.dropH H a) h := fun b u e => by
  have hb : b ≠ a := fun z => by
    rw [z, ItX.dropH_same] at e
    cases e
  rw [ItX.dropH_ne hb] at e
  have other : ∀ c u, H c = some u → (∀ ψ, u ≠ .ext ψ) → ItX.dropH H a c = some u := fun c u e n => by
    have hc : c ≠ a := fun z => by
      rw [z, ha] at e
      exact n _ (Option.some.inj e).symm
    rw [ItX.dropH_ne hc]
    exact e
  exact (x b u e).stay (fun _ _ _ z => z) (fun c z => other c _ z fun _ w => (nomatch w)) fun c xs z => other c _ z fun _ w => (nomatch w)
def tGive (sp : Sp) (a : Addr) (oe : Obj) (t : TA) : TE := fun σ H Q => t σ H fun vs H1 => H1 a = none ∧ sp vs (upd H1 a (exE a oe)) (fun v H' => H' a = some (exE a oe) ∧ Q v (ItX.dropH H' a)) fun _ _ _ => False
section
variable {X : Cx} {k : Nat} {ps : List Str} {sp : Sp} {x : Str} {p pos : Pos} {e : Expr} {es : List Expr} {t : TA} {a : Addr} {oe : Obj}
theorem env_give {pins : List (Addr × Obj)} {σ : L2.St} {H : Hp} {s : Shared} (I : Inv X pins σ H s) (mem : (a, oe) ∈ X.pn) (bna : X.base.get? a = none) : Env0 X.prog X.w X.K X.mg X.base X.A X.stack s (upd H a (exE a oe)) := by
  obtain ⟨g, n, nL, nF, _⟩ := I.pin (a, oe) (List.mem_append_left _ mem)
  have e0 := I.env0
  refine ⟨e0.frames, e0.mod, fun b o q => ⟨(e0.bs b o q).1, ?_⟩, e0.bsz, e0.funs, fun b hb => ?_, ?_, e0.bare⟩
  · rw [upd_ne (fun z => by rw [z, bna] at q; cases q)]
    exact (e0.bs b o q).2
  · have hne : b ≠ a := fun z => by
      rcases List.mem_cons.mp (I.stkSub b hb) with q | q
      · exact nL (z ▸ q)
      · exact nF (z ▸ q)
    rw [upd_ne hne]
    exact e0.frf b hb
  · exact e0.hok.laidN (fun _ _ z => z) n ⟨g, ⟨oe, g⟩, fun h1 h2 q k => k _ q⟩
theorem pe_give (mem : (a, oe) ∈ X.pn) (bna : X.base.get? a = none) (pr : Prom X.prog X.w X.K X.mg X.base k x ps sp) (hr : Room k X.A) (hg : Gl X x) (ha : PA X (e :: es) t) (hdb : (x == ("__debug__" : Str)) = false := by decide)
    (he : starEach (e :: es) X.env = (false, eval e X.env) :: starEach es X.env := by rfl) (hpl : (backTo pos (starEach es X.env)).any (·.1) = false := by rfl) :
    PE X (.Call (.Name x p) (e :: es) [] pos) (tGive sp a oe t) := by
  obtain ⟨f, fd, F, hm, hk, hb⟩ := pr
  refine ⟨fun pins s σ H Q I h => ?_⟩
  refine wpAny_Call_Name_kw (ld_glob I hg hm ?_ hdb)
  refine PySem.W.callWith_K (h₀ := X.base) I.ok.mod.kin hk (thn (ha.run pos pins s σ H _ I h) fun us s1 ⟨vs, H1, I1, r, n1, q⟩ => ⟨I1.kIn, ?_⟩) he hpl
  have hl : us.length = ps.length := by rw [← r.length]; exact F.len _ _ _ _ q
  have b := hb s1 us I1.kIn (by rw [List.append_nil]; exact hl)
  rw [List.append_nil] at b
  obtain ⟨g, n, _, _, _⟩ := I1.pin (a, oe) (List.mem_append_left _ mem)
  refine wpAny_call (codeAny_mono (F.run X.A X.stack s1 _ ⟨us, []⟩ us vs _ _ hr (env_give I1 mem bna) b r q) fun o t z => ?_)
  match o, z with
  | .error e, z => exact False.elim z
  | .ok (.ret u), z =>
    obtain ⟨v, H', os, bare, un, hok, rv, ea, q2⟩ := z
    obtain ⟨g', _⟩ := (show ObjOk X.prog X.w H' t.heap a (.ext fun h => h.get? a = some oe) from hok a _ ea)
    exact I1.after ⟨v, _, os, bare, un_back n ea g g' un, hok_drop ea hok, rv, q2⟩
end
end TS

set_option maxHeartbeats 800000
/-! ### 45. methods that may raise; == between an instance and an exception; the looks of such exceptions -/
namespace TS
open PySem PySem.Spec PyProof.Rows L2
/-! methods that may raise -/
def tMethX (C : Addr) (m : Str) (sp : Sp) (W : WX) (ta : TE) (t : TA) : TE := fun σ H Q => ta σ H fun x H1 => ∃ a dx fs, x = .ref a ∧ H1 a = some (.ins C dx fs) ∧ fs.lookup m = none ∧ t σ H1 fun vs H2 => sp (.ref a :: vs) H2 Q (WE W σ)
section
variable {X : Cx} {k : Nat} {f C : Addr} {ps : List Str} {sp : Sp} {W : WX} {m : Str} {pos apos : Pos} {e o : Expr} {es : List Expr} {ta : TE} {t : TA}
theorem pe_pmX {pl : Sem Bool} (c : Cls X.K C) (hm : Meth X.K C m f) (pr : PromA (L2.CX X.prog X.w) X.prog X.w X.K X.mg X.base k f ps sp) (tk : Takes X W) (hr : Room k X.A) (he : PE X o ta) (ha : PA X (e :: es) t)
    (hst : starEach (e :: es) X.env = (false, eval e X.env) :: starEach es X.env := by rfl) (hpl : (backTo pos (starEach es X.env)).any (·.1) = false := by rfl)
    (ht : eval (.Call (.Attribute o m apos) (e :: es) [] pos) X.env = (do
      let ov ← eval o X.env
      standAt apos.atName
      let (f, first) ← holding [ov] (getMethod ov m pl)
      callWith pos f first (backTo pos (starEach (e :: es) X.env)) (backToKw pos (keywordEach [] X.env))) := by rfl) : PE X (.Call (.Attribute o m apos) (e :: es) [] pos) (tMethX C m sp W ta t) := by
  obtain ⟨fd, F, b⟩ := pr
  refine ⟨fun pins s σ H Q I h => ?_⟩
  refine PySem.W.methodCall_KW (pl := pl) (thn (he.run pins s σ H _ I h) fun u s1 ⟨x, H1, I1, rx, a, dx, fs, ex, ea, l, q⟩ => ?_) ht
  subst ex
  obtain rfl : u = Value.ref a := rx
  refine getmeth_ok I1 ea c hm l ?_
  refine PySem.W.callWith_K (first := [.ref a]) (h₀ := X.base) I.ok.mod.kin hm.kp (thn (ha.run pos pins s1 σ H1 _ I1 q) fun us s2 ⟨vs, H2, I2, r, q2⟩ => ⟨I2.kIn, ?_⟩) hst hpl
  exact run_fnS (us := .ref a :: us) (vs := .ref a :: vs) F hr b (passAt tk σ) I2 (.cons rfl r) q2
theorem pe_pmX0 {pl : Sem Bool} (c : Cls X.K C) (hm : Meth X.K C m f) (pr : PromA (L2.CX X.prog X.w) X.prog X.w X.K X.mg X.base k f ps sp) (tk : Takes X W) (hr : Room k X.A) (he : PE X o ta)
    (ht : eval (.Call (.Attribute o m apos) [] [] pos) X.env = (do
      let ov ← eval o X.env
      standAt apos.atName
      let (f, first) ← holding [ov] (getMethod ov m pl)
      callWith pos f first (backTo pos (starEach [] X.env)) (backToKw pos (keywordEach [] X.env))) := by rfl) : PE X (.Call (.Attribute o m apos) [] [] pos) (tMethX C m sp W ta tNil) := by
  obtain ⟨fd, F, b⟩ := pr
  refine ⟨fun pins s σ H Q I h => ?_⟩
  refine PySem.W.methodCall_KW (pl := pl) (thn (he.run pins s σ H _ I h) fun u s1 ⟨x, H1, I1, rx, a, dx, fs, ex, ea, l, q⟩ => ?_) ht
  subst ex
  obtain rfl : u = Value.ref a := rx
  refine getmeth_ok I1 ea c hm l ?_
  exact PySem.W.callWith_K0 (first := [.ref a]) I1.kIn hm.kp (run_fnS (us := [.ref a]) (vs := [.ref a]) F hr b (passAt tk σ) I1 (.cons rfl .nil) q)
end
/-! an exception that is held, beside an instance -/
structure ExcC (K : PySem.W.Frag) (C2 C : Addr) : Prop where
  cls : ∃ nm q N bs bm sn sub ab col dd k0 k1 k2 k3 k5 nw, K.lookup C2 = some (excClassObj nm q C2 N bs bm true sn sub ab col dd k0 k1 k2 k3 k5 nw) ∧ bm.contains (.type "object") = true
  eq : PySem.W.findIn K (.ref C2) "__eq__" = some (some (.builtin "object.__eq__"))
  a : PySem.W.subIn K (.ref C2) (.ref C) = some false
  b : PySem.W.subIn K (.ref C) (.ref C2) = some false
section
variable {M : Model} {A : Around} {E : Value → Shared → Prop} {s : Shared} {K : PySem.W.Frag} {e C2 : Addr} {oe : Obj}
theorem ifBound_obj {args : List Value} {Q : Option Value → Shared → Prop} (X : K.In s.heap) (he : s.heap.get? e = some oe) (hc : oe.cls = .ref C2) (hs : PySem.W.findIn K (.ref C2) "__eq__" = some (some (.builtin "object.__eq__")))
    (h : wpAny M A (call (.builtin "object.__eq__") (.ref e :: args)) (fun v => Q (some v)) E s) : wpAny M A (callSpecialIfBound? (.ref e) "__eq__" args) Q E s := by
  simp only [callSpecialIfBound?, bindSpecialIfBound?]
  refine wpAny_holding (wpAny_bind (wpAny_bind (wpAny_bind (wpAny_typeOf_ref he ?_))))
  rw [hc]
  refine (PySem.W.looks_findIn X hs).here ?_
  simp only [F.cmp_object.eq.bind]
  refine wpAny_bind (wpAny_askSetting (wpAny_ite ?_))
  have fin : wpAny M A (call (.builtin "object.__eq__") ([.ref e] ++ args) >>= fun v => pure (some v)) Q E s :=
    wpAny_bind (wpAny_mono h (fun v s' h' => wpAny_pure h') fun _ _ h' => h')
  split
  · exact wpAny_bind (wpAny_pure (wpAny_pure fin))
  · exact wpAny_tryCatch (wpAny_bind (wpAny_pure (wpAny_pure fin)))
end
section
variable {prog : Program} {w : World} {A : Around} {E : Value → Shared → Prop} {s : Shared} {K : PySem.W.Frag} {e x C2 C : Addr} {oe ox : Obj} {h₀ : Heap} {m : Str → Option Value}
theorem call_obj_other {Q : Value → Shared → Prop} (KI : K.In s.heap) (T : ExcC K C2 C) (he : s.heap.get? e = some oe) (hc : oe.cls = .ref C2) (hx : s.heap.get? x = some ox) (ne : e ≠ x) (hq : Q .notImplemented s) :
    wpAny (model prog w) A (call (.builtin "object.__eq__") [.ref e, .ref x]) Q E s := by
  obtain ⟨nm, q, N, bs, bm, sn, sub, ab, col, dd, k0, k1, k2, k3, k5, nw, kc, ob⟩ := T.cls
  obtain ⟨hh, gg, dr, tn, os⟩ := s
  exact wpAny_call (codeAny_call_builtin F.cmp_object.eq.plain F.cmpEntry_eq (wpAny_check_slot_inst F.cmpKind_eq F.cmpSplit_eq (F.cmpArgs_eq _ _) ob he hc (KI _ _ kc) (objEq_entry_other ne he hx (by rw [hc]; intro z; cases z) hq)))
/-- e == x, e an exception, x an instance with an own __eq__: the built-in one declines -/
theorem cmp_exc {f L : Addr} {od : Option Obj} {Q : Value → Shared → Prop} (hu : A.units < cLine) (Fm : Fr h₀ L s.heap m) (X₀ : K.In h₀) (T : ExcC K C2 C) (he : s.heap.get? e = some oe) (hc : oe.cls = .ref C2) (I : PySem.W.InstAt s.heap x ox C od) (nC : C2 ≠ C) (ne : e ≠ x)
    (hs : PySem.W.findIn K (.ref C) "__eq__" = some (some (.ref f))) (hf : PySem.W.isFn K (.ref f) = true)
    (h : wpAny (model prog w) A (call (.ref f) [.ref x, .ref e]) (PySem.W.CmpBack Q) E s) : wpAny (model prog w) A (richCompare .Eq (.ref e) (.ref x)) Q E s := by
  have X := X₀.keeps Fm.keep
  have two : wpAny (model prog w) A (tryCompare (.ref x) (cmpInfo .Eq).2.2 (.ref e)) (fun r s' => ∃ v, r = some v ∧ Q v s') E s := by
    unfold tryCompare
    refine wpAny_bind (PySem.W.ifBound_K X I hs hf (wpAny_mono h (fun v s' hv => ?_) fun _ _ e => e))
    cases v <;> first | exact hv.elim | exact wpAny_pure ⟨_, rfl, hv⟩
  have one : ∀ Q' : Option Value → Shared → Prop, Q' none s → wpAny (model prog w) A (tryCompare (.ref e) (cmpInfo .Eq).2.1 (.ref x)) Q' E s := fun Q' q' => by
    unfold tryCompare
    exact wpAny_bind (ifBound_obj X he hc T.eq (call_obj_other X T he hc I.1 ne (wpAny_pure q')))
  rcases hi : cmpInfo CmpOp.Eq with ⟨sym, f1, r1⟩
  rw [hi] at one two
  have tx : ∀ {α : Type} {k : Value → Sem α} {R : α → Shared → Prop}, wpAny (model prog w) A (k (.ref C2)) R E s → wpAny (model prog w) A (typeOf (.ref e) >>= k) R E s := fun z => wpAny_bind (wpAny_typeOf_ref he (by rw [hc]; exact z))
  simp only [richCompare, hi, oneThing_ref]
  refine wpAny_holding (wpAny_bind (wpAny_cRoomFor hu ?_))
  refine tx (wpAny_bind (I.type.here ?_))
  have nv : (Value.ref C2 != Value.ref C) = true := by simp [nC]
  simp only [nv, if_true]
  refine wpAny_bind ((PySem.W.looks_subIn X T.b).here ?_)
  simp only [Bool.false_eq_true, if_false, Bool.not_false, if_true]
  refine wpAny_bind (m := tryCompare (.ref e) _ _) (one _ ?_)
  refine wpAny_bind (m := tryCompare (.ref x) _ _) (wpAny_mono two (fun r s' z => ?_) fun _ _ e => e)
  obtain ⟨v, rfl, hq⟩ := z
  exact wpAny_pure hq
end
/-- an instance of C with data, an instance, or a held exception of C2 -/
def rEqLE (C C2 : Addr) (sp : Sp) : R2 := fun x y H Q => ∃ a dx fs b db, x = .ref a ∧ H a = some (.ins C dx fs) ∧ y = .ref b ∧ H b = some (exo b C2 (some db)) ∧ sp [.ref a, y] H (fun v G => ∃ c, v = .bl c ∧ Q (.bl c) G) E0
def rEqRE (C C2 : Addr) (sp : Sp) : R2 := fun x y H Q => ∃ a dx fs b db, x = .ref b ∧ H b = some (exo b C2 (some db)) ∧ y = .ref a ∧ H a = some (.ins C dx fs) ∧ b ≠ a ∧ sp [.ref a, x] H (fun v G => ∃ c, v = .bl c ∧ Q (.bl c) G) E0
section
variable {X : Cx} {K : PySem.W.Frag} {A : Around} {k : Nat} {C C2 f : Addr} {ps : List Str} {sp : Sp}
theorem eq_leftE (M : Meth X.K C "__eq__" f) (T : ExcC X.K C2 C) (pr : PromA CX0 X.prog X.w X.K X.mg X.base k f ps sp) (p : Plc X k A) : EqP X A (rEqLE C C2 sp) := by
  intro pins s σ H x y v u Q J rx ry rd
  obtain ⟨a, dx, fs, b, db, rfl, ha, rfl, hb, q⟩ := rd
  cases rx
  cases ry
  obtain ⟨mA, O, _⟩ := ins_get J.hok ha
  obtain ⟨od, look, _⟩ := O.look
  obtain ⟨m, hF⟩ := J.fr
  obtain ⟨t1, ob⟩ := exo_at J.hok hb
  refine PySem.W.cmp_K (op := .Eq) (tb := .ref C2) p.room.units0 hF J.ok.mod.kin look (fun A Q E s k q => wpAny_typeOf_ref (k _ _ ob) q) (by unfold PySem.W.notFirst; rw [T.a]; simp) M.at_ M.fn (wpAny_mono (call_own2 (y := .ref b) p pr J rfl q) (fun v s' z => ?_) fun _ _ z => z)
  obtain ⟨y1, G, J2, rv, c, rfl, q2⟩ := z
  cases rv
  exact ⟨.bl c, G, J2, rfl, q2⟩
theorem eq_rightE (M : Meth X.K C "__eq__" f) (T : ExcC X.K C2 C) (nC : C2 ≠ C) (pr : PromA CX0 X.prog X.w X.K X.mg X.base k f ps sp) (p : Plc X k A) : EqP X A (rEqRE C C2 sp) := by
  intro pins s σ H x y v u Q J rx ry rd
  obtain ⟨a, dx, fs, b, db, rfl, hb, rfl, ha, ne, q⟩ := rd
  cases rx
  cases ry
  obtain ⟨mA, O, _⟩ := ins_get J.hok ha
  obtain ⟨od, look, _⟩ := O.look
  obtain ⟨m, hF⟩ := J.fr
  obtain ⟨t1, ob⟩ := exo_at J.hok hb
  refine cmp_exc p.room.units0 hF J.ok.mod.kin T ob rfl look nC ne M.at_ M.fn (wpAny_mono (call_own2 (y := .ref b) p pr J rfl q) (fun v s' z => ?_) fun _ _ z => z)
  obtain ⟨y1, G, J2, rv, c, rfl, q2⟩ := z
  cases rv
  exact ⟨.bl c, G, J2, rfl, q2⟩
theorem op_eqLX (M : Meth K C "__eq__" f) (ap : ApK K C) (T : ExcC K C2 C) (pr : PromA CX0 X.prog X.w K X.mg X.base k f ps sp) (hr : Room k X.A) (hK : X.K = K := by rfl) : OpR X (compareOp .Eq) (fun x y H Q => rEqL K C sp x y H Q ∨ rEqLE C C2 sp x y H Q) := by
  subst hK
  exact EqP.op (EqP.or (eq_left M ap pr (Plc.own hr)) (eq_leftE M T pr (Plc.own hr)))
theorem op_eqRX (M : Meth K C "__eq__" f) (ap : ApK K C) (T : ExcC K C2 C) (nC : C2 ≠ C) (pr : PromA CX0 X.prog X.w K X.mg X.base k f ps sp) (hr : Room k X.A) (hK : X.K = K := by rfl) : OpR X (compareOp .Eq) (fun x y H Q => rEqR K C sp x y H Q ∨ rEqRE C C2 sp x y H Q) := by
  subst hK
  exact EqP.op (EqP.or (eq_right M ap pr (Plc.own hr)) (eq_rightE M T nC pr (Plc.own hr)))
end
/-! isinstance of a held exception -/
def rIsO (K : PySem.W.Frag) : List V → Hp → VK → Prop := fun xs H Q => ∃ (b C2 db : Addr) (fs : List (Str × V)) (c : V) (cv : Value) (r : Bool), xs = [.ref b, c] ∧ H b = some (exo b C2 (some db)) ∧ H db = some (exd db fs) ∧ exI K C2 = true ∧ (∀ u, RelV c u → u = cv) ∧ PySem.W.kitOne K (.ref C2) cv = some r ∧ Q (.bl r) H
theorem call_isO {X : Cx} {K : PySem.W.Frag} (hK : X.K = K) : CallR X (.builtin "isinstance") (rIsO K) := by
  subst hK
  intro pins s σ H xs us Q I r h
  obtain ⟨a, D, dx, fs, c, cv, b, rfl, he, hdx, hi, hcv, e, q⟩ := h
  cases r with
  | cons rx rr =>
    cases rr with
    | cons rt rr =>
      cases rr
      cases rx
      have ec := hcv _ rt
      subst ec
      obtain ⟨t1, hget⟩ := exo_at I.hok he
      obtain ⟨mA, ⟨od, es, ep, hod, _⟩, _⟩ := exd_at I.hok hdx
      have J : PySem.W.InstAt s.heap a _ D (some od) := ⟨hget, rfl, rfl, hod⟩
      simp only [exI, Bool.and_eq_true, beq_iff_eq] at hi
      obtain ⟨i1, i2, i3, i4, i5, i6, i7, i8⟩ := hi
      exact PySem.W.kia_one (PySem.W.kitx_exc i1 i2 i3 i4 i5 i6 i7 i8) I.kIn J e (fun z => nomatch z) fun tk => ⟨.bl b, H, I.kept (t' := tk) fun _ _ z => z, rfl, q⟩
theorem isiKE {X : Cx} {K : PySem.W.Frag} (hK : X.K = K := by rfl) : CallR X (.builtin "isinstance") (fun xs H Q => rIsi K xs H Q ∨ rIsO K xs H Q) := CallR.or (isiK hK) (call_isO hK)
/-- what the head tells of C2 beside C -/
def excB (K : PySem.W.Frag) (C2 C : Addr) (nw : String) (tl : List Value) : Bool := (oexTB K C2 nw tl && (decide (PySem.W.findIn K (.ref C2) "__eq__" = some (some (.builtin "object.__eq__"))) && exI K C2)) && (decide (PySem.W.subIn K (.ref C2) (.ref C) = some false) && (decide (PySem.W.subIn K (.ref C) (.ref C2) = some false) &&
  (decide (PySem.W.kitOne K (.ref C2) (.ref C) = some false) && decide (C2 ≠ C))))
theorem excB_ok {K : PySem.W.Frag} {C2 C : Addr} {B nw ini : String} {tl : List Value} (Fb : Bas B nw ini tl) (h : excB K C2 C nw tl = true) : ExcC K C2 C ∧ exI K C2 = true ∧ PySem.W.kitOne K (.ref C2) (.ref C) = some false ∧ C2 ≠ C := by
  obtain ⟨h1, h⟩ := He.ba h
  obtain ⟨a1, h1⟩ := He.ba h1
  obtain ⟨a2, a3⟩ := He.ba h1
  obtain ⟨b1, h⟩ := He.ba h
  obtain ⟨b2, h⟩ := He.ba h
  obtain ⟨b3, b4⟩ := He.ba h
  obtain ⟨nm, q, N, bs, bm, sn, sub, ab, col, dd, k0, k1, k2, k3, k5, kc, rf⟩ := oexTB_ok a1
  exact ⟨⟨⟨nm, q, N, bs, bm, sn, sub, ab, col, dd, k0, k1, k2, k3, k5, nw, kc, (refsT_has _ _ rf).trans Fb.ob⟩, of_decide_eq_true a2, of_decide_eq_true b1, of_decide_eq_true b2⟩, a3, of_decide_eq_true b3, of_decide_eq_true b4⟩
end TS

set_option maxHeartbeats 800000
/-! ### 46. x not in a list of texts, x any data -/
namespace TS
open PySem PySem.Spec PyProof.Rows L2
section
variable {A : Around} {s : Shared}
open SeqAt AutoSeq1 MeetsSeq in
theorem decs_dict {prog : Program} {w : World} {E : Value → Shared → Prop} {l : Addr} {dd : Option Addr} {es : Array DictEntry} {ep : Nat} {sl : Array (Option Value)} (b : Str) (u : Tok) {Q : Value → Shared → Prop} (e : s.heap.get? l = some ⟨.type "dict", dd, .dict es ep, sl⟩) (q : Q .notImplemented s) :
    wpAny (model prog w) A (call (.builtin "str.__eq__") [.str b u, .ref l]) Q E s := by
  have m : Meets (Builtin.«str.__eq__» ⟨[.str b u, .ref l], []⟩) (fun _ R s => s.heap.get? l = some ⟨.type "dict", dd, .dict es ep, sl⟩ ∧ R (.ok (.ret .notImplemented)) s) :=
    .of_wp fun prog w A R t z => by obtain ⟨h0, g, d, k, os⟩ := t; obtain ⟨hl, z⟩ := z; wp_walk using wpAny_loadPart' hl, wpAny_load hl; exact ⟨_, rfl, z⟩
  exact call_meets F.slot_str_eq rfl F.entry_str_eq (F.args_str_eq_2 _ _) m ⟨e, q⟩
open SeqAt in
theorem decd_str {prog : Program} {w : World} {E : Value → Shared → Prop} {l : Addr} (b : Str) (u : Tok) {Q : Value → Shared → Prop} (hT : s.TypeIs (.ref l) "dict") (q : Q .notImplemented s) : wpAny (model prog w) A (call (.builtin "dict.__eq__") [.ref l, .str b u]) Q E s := by
  refine call_meetsIn (S := fun _ R t => t = s ∧ R (.ok (.ret .notImplemented)) t) F.slot_dict_eq hT F.entry_dict_eq (F.args_dict_eq_2 _ _) (fun A R t z => ?_) ⟨rfl, q⟩
  obtain ⟨rfl, z⟩ := z
  refine wpAny_bind (wpAny_of_eq rfl ?_)
  refine wpAny_bind (wpAny_isInstance (T := "str") (b := false) (typeIs_str _ _ _) (by rw [isSubtype_type]; kernel_rfl) ?_)
  exact wpAny_bind (wpAny_rule (wpAny_pure z))
open SeqAt in
theorem rc_str_dict {l : Addr} {o : Obj} {es : Array DictEntry} {ep : Nat} (b : Str) (u : Tok) (ho : s.heap.get? l = some o) (hc : o.cls = .type "dict") (hd : o.data = .dict es ep) (hu : A.units < cLine) : RcAt A s (.str b u) (.ref l) false := fun prog w E Q h => by
  obtain ⟨cls, dd, data, sl⟩ := o
  simp only at hc hd
  subst hc hd
  exact rc_eq_decline_or (k := false) (typeIs_str _ _ _) ⟨_, ho, rfl⟩ (by decide) (by rw [isSubtype_type]; kernel_rfl) F.slot_str_eq F.slot_dict_eq
    (fun _ hq => decs_dict b u ho hq) (fun _ hq => decd_str b u ⟨_, ho, rfl⟩ hq) (fun _ hq => wpAny_of_eq (rfl : isSame (.str b u) (.ref l) = pure false) hq) (.inr hu) h
open SeqAt in
theorem eq_str_dict {l : Addr} {o : Obj} {es : Array DictEntry} {ep : Nat} (b : Str) (u : Tok) (ho : s.heap.get? l = some o) (hc : o.cls = .type "dict") (hd : o.data = .dict es ep) (hu : A.units < cLine) : EqAt A s (.str b u) (.ref l) false := fun prog w E Q h => by
  unfold eqBool
  refine wpAny_holding ?_
  refine wpAny_ite_split (fun hab => absurd (eq_of_beq hab) nofun) (fun _ => ?_)
  exact wpAny_bind (rc_str_dict b u ho hc hd hu prog w E _ (wpAny_truthy_bool h))
end
def inTx (zs : List Str) : PyData → Bool
  | .str z => decide (z ∈ zs)
  | _ => false
def rNotInT (K : PySem.W.Frag) : R2 := fun x y H Q => ∃ d p zs, Dt K H x d ∧ y = .ref p ∧ SqL K H p (zs.map V.str) ∧ Q (.bl (!inTx zs d)) H
theorem op_notInT {X : Cx} {K : PySem.W.Frag} (hu : X.A.units + 64 < cLine) (hK : X.K = K := by rfl) : OpR X (compareOp .NotIn) (rNotInT K) := by
  subst hK
  intro pins s σ H x y v u Q J rx ry h
  obtain ⟨d, p, zs, hd, rfl, hp, q⟩ := h
  cases ry
  obtain ⟨its, rv, l1, _⟩ := J.list hp
  have hu1 : X.A.in1.units < cLine := by show X.A.units + 1 < cLine; omega
  have all : ∀ {l : List Str} {us : List Value}, Vals (l.map V.str) us → ∀ w ∈ us, ∃ z t, w = .str z t ∧ z ∈ l := by
    intro l
    induction l with
    | nil => intro us h w hw; cases h; cases hw
    | cons z r ih =>
      intro us h w hw
      cases h with
      | cons r1 r2 =>
        obtain ⟨t, rfl⟩ := r1
        rcases List.mem_cons.mp hw with rfl | hw
        · exact ⟨z, t, rfl, by simp⟩
        · obtain ⟨z2, t2, e, m⟩ := ih r2 w hw
          exact ⟨z2, t2, e, List.mem_cons_of_mem _ m⟩
  have any_ : ∀ (c : Str) {l : List Str} {us : List Value}, Vals (l.map V.str) us → us.any (fun w => match w with | .str z _ => z == c | _ => false) = decide (c ∈ l) := by
    intro c l
    induction l with
    | nil => intro us h; cases h; rfl
    | cons z r ih =>
      intro us h
      cases h with
      | cons r1 r2 =>
        obtain ⟨t, rfl⟩ := r1
        rw [List.any_cons, ih r2]
        by_cases e : c = z
        · subst e; simp
        · have e1 : (z == c) = false := beq_eq_false_iff_ne.mpr (Ne.symm e)
          simp only [e1, Bool.false_or]
          simp [e]
  have none_ : ∀ {us : List Value}, us.any (fun _ => false) = false := fun {us} => by simp
  have isL := l1.isList
  have memA : ∀ {w : Value}, w ∈ its.toArray → w ∈ its := fun h => by simpa using h
  have no : (∀ z t, SeqAt.EqAt X.A.in1 s (.str z t) v false) → inTx zs d = false → wpAny (model X.prog X.w) X.A (compareOp .NotIn v (.ref p)) (EP X pins σ Q) X.xe s := fun h e => by
    rw [e] at q
    refine SeqAt.notIn_listAt (fun _ => false) isL (fun y hy => ?_) ?_
    · obtain ⟨z, t, rfl, _⟩ := all rv y (memA hy)
      exact h z t
    · rw [show its.toArray.any (fun _ => false) = false by simp]
      exact ⟨.bl true, H, J, rfl, q⟩
  cases hd with
  | non => cases rx; exact no (fun z t => SeqAt.EqAt.str_none z t) rfl
  | bl b => cases rx; exact no (fun z t => SeqAt.EqAt.str_bool z t b) rfl
  | int i => obtain ⟨t2, rfl⟩ := rx; exact no (fun z t => SeqAt.EqAt.str_int z t i t2) rfl
  | str c =>
    obtain ⟨t2, rfl⟩ := rx
    refine SeqAt.notIn_listAt (fun w => match w with | .str z _ => z == c | _ => false) isL (fun y hy => ?_) ?_
    · obtain ⟨z, t, rfl, _⟩ := all rv y (memA hy)
      exact SeqAt.EqAt.str_str z t c t2
    · rw [List.any_toArray, any_ c rv]
      exact ⟨.bl _, H, J, rfl, q⟩
  | lst a b =>
    cases rx
    obtain ⟨its2, _, l2, _⟩ := J.list a
    exact no (fun z t => SeqAt.EqAt.str_list z t l2.isList hu1) rfl
  | tup a b =>
    cases rx
    obtain ⟨its2, _, l2, _⟩ := J.tuple a
    exact no (fun z t => SeqAt.EqAt.str_tuple z t l2 hu1) rfl
  | @dct a ks xs ds h l ha =>
    cases rx
    obtain ⟨hz, hS, vs, rk, o, es, ep, ho, hx, hd, _⟩ := (show ObjOk X.prog X.w H s.heap a (.dK (ks.zip xs)) from J.hok a _ h)
    exact no (fun z t => eq_str_dict z t ho hx.1 hd hu1) rfl
end TS

/-! ### 47. is, is not between truths -/
namespace TS
open PySem PySem.Spec PyProof.Rows L2
section
variable {X : Cx}
theorem op_notBl : OpR X (compareOp .IsNot) (fun x y H Q => ∃ a b, x = .bl a ∧ y = .bl b ∧ Q (.bl (!decide (a = b))) H) := by
  intro pins s σ H x y v u Q I rx ry h
  obtain ⟨a, b, rfl, rfl, q⟩ := h
  cases rx
  cases ry
  show wpAny _ _ ((isSame (.bool a) (.bool b)) >>= fun z => pure (Value.bool (!z))) _ _ s
  refine wpAny_bind (wpAny_of_eq (a := decide (a = b)) (by cases a <;> cases b <;> rfl) (wpAny_pure ⟨.bl _, H, I, rfl, q⟩))
theorem op_isBl : OpR X (compareOp .Is) (fun x y H Q => ∃ a b, x = .bl a ∧ y = .bl b ∧ Q (.bl (decide (a = b))) H) := by
  intro pins s σ H x y v u Q I rx ry h
  obtain ⟨a, b, rfl, rfl, q⟩ := h
  cases rx
  cases ry
  show wpAny _ _ ((isSame (.bool a) (.bool b)) >>= fun z => pure (Value.bool z)) _ _ s
  refine wpAny_bind (wpAny_of_eq (a := decide (a = b)) (by cases a <;> cases b <;> rfl) (wpAny_pure ⟨.bl _, H, I, rfl, q⟩))
end
end TS

/-! ### 48. a comprehension within a comprehension -/
namespace TS
open PySem PySem.Spec PyProof.Rows L2
theorem relabel_look {env : Env} : ∀ {names : List (Str × NameKind)} {x : Str}, names.lookup x = some .cell ∨ names.lookup x = some .free →
    (names.map fun (n, k) => if (k == NameKind.free && env.scope.kind == .function && env.kindOf n == some .cell) then (n, NameKind.cell) else (n, k)).lookup x = some .cell ∨
    (names.map fun (n, k) => if (k == NameKind.free && env.scope.kind == .function && env.kindOf n == some .cell) then (n, NameKind.cell) else (n, k)).lookup x = some .free
  | [], x, h => by simp at h
  | (n, k) :: r, x, h => by
    have ih := @relabel_look env r x
    show List.lookup x ((if (k == NameKind.free && env.scope.kind == .function && env.kindOf n == some .cell) = true then (n, NameKind.cell) else (n, k)) :: _) = _ ∨ List.lookup x ((if (k == NameKind.free && env.scope.kind == .function && env.kindOf n == some .cell) = true then (n, NameKind.cell) else (n, k)) :: _) = _
    cases hx : x == n with
    | true =>
      simp only [List.lookup_cons, hx] at h
      by_cases hc : (k == NameKind.free && env.scope.kind == .function && env.kindOf n == some .cell) = true
      · rw [if_pos hc]; simp [List.lookup_cons, hx]
      · rw [if_neg hc]; simpa [List.lookup_cons, hx] using h
    | false =>
      simp only [List.lookup_cons, hx] at h
      by_cases hc : (k == NameKind.free && env.scope.kind == .function && env.kindOf n == some .cell) = true
      · rw [if_pos hc]; simp only [List.lookup_cons, hx]; exact ih h
      · rw [if_neg hc]; simp only [List.lookup_cons, hx]; exact ih h
theorem blk_nest {N : List Str} {sc scope : Scope} {own : List (Str × Nat)} {env : Env} (h : BlkOk N sc scope own) : BlkOk N (relabel sc env) scope own :=
  ⟨h.kind, h.uniq, h.ix, fun y hy e => relabel_look (h.free y hy e), h.own⟩
end TS

namespace TS
open PySem PySem.Spec PyProof.Rows L2 TL
def top (i : Nat) : Stmt := PySem.Challenge.pw_termshelf_k05_words_told.main.body.getD i (.Pass ⟨0, 0, 0, 0⟩)

/-! ### marks: whole numbers, names -/
def wholeD (lo hi : Int) : PyData → Bool
  | .int i => decide (lo ≤ i) && decide (i ≤ hi)
  | _ => false
def smallS (z : Str) : Bool := z.cps.toList.all fun c => decide (97 ≤ c) && decide (c ≤ 122)
def nameS (z : Str) : Bool := decide (1 ≤ z.length) && decide (z.length ≤ 8) && smallS z
def nameD : PyData → Bool
  | .str z => nameS z
  | _ => false
def SMALLs : Str := "abcdefghijklmnopqrstuvwxyz"
theorem in_small (c : Nat) : decide (c ∈ SMALLs.cps.toList) = (decide (97 ≤ c) && decide (c ≤ 122)) := by
  have e : SMALLs.cps.toList = (List.range 26).map (· + 97) := by decide +kernel
  rw [e]
  by_cases h : 97 ≤ c ∧ c ≤ 122
  · rw [decide_eq_true h.1, decide_eq_true h.2]
    exact decide_eq_true (List.mem_map.mpr ⟨c - 97, List.mem_range.mpr (by omega), by omega⟩)
  · have n : c ∉ (List.range 26).map (· + 97) := fun m => by
      obtain ⟨k, hk, rfl⟩ := List.mem_map.mp m
      have := List.mem_range.mp hk
      omega
    rw [decide_eq_false n]
    by_cases h1 : 97 ≤ c
    · rw [decide_eq_true h1, decide_eq_false (fun h2 => h ⟨h1, h2⟩)]; rfl
    · rw [decide_eq_false h1]; rfl
theorem sz5' {n : Nat} (h : n ≤ 100000) : n < sizeLine := Nat.lt_of_le_of_lt h (by decide)
theorem sz5 {n : Nat} (h : n ≤ 100000) : n ≤ sizeLine := Nat.le_trans h (by decide)
theorem take_map {α β : Type} (f : α → β) {l : List α} {i : Nat} {c : α} (h : l[i]? = some c) : (l.take (i + 1)).map f = (l.take i).map f ++ [f c] := by
  rw [List.take_add_one, h, List.map_append]
  rfl
/-- a comprehension over a text's signs, one value a sign -/
theorem lc_signs {z : Str} {g : TG} {te : TE} {vs : List Nat} {σ : L2.St} {H1 : Hp} {D : Addr} {Qd : Hp → Prop} (f : Nat → V) (hz : z.length ≤ 100000) (hs : ∀ c H' (C : VK), C (f c) H' → g (.str ⟨#[c]⟩) (wipe σ vs) H' fun σ2 H2 => wipe σ2 vs = wipe σ vs ∧ te σ2 H2 C)
    (hd : Qd (L2.upd H1 D (.lst ((tl z).map f)))) (hg : ∀ x σ H C C', (∀ s h, C s h → C' s h) → g x σ H C → g x σ H C') :
    ∃ W : Nat → Nat → Hp → Prop, (∃ m, W 0 m (L2.upd H1 D (.lst []))) ∧ ∀ i m H, W i m H →
      ((Its z).stop i H ∧ Qd H) ∨ ((Its z).go i H ∧ ∃ Nx : Hp → Prop, (∀ H', Nx H' → ∃ m', m' < m ∧ W (i + 1) m' H') ∧ ∀ x H', (Its z).yld i H x H' → g x (wipe σ vs) H' fun σ2 H2 => wipe σ2 vs = wipe σ vs ∧ tYes σ2 H2 fun b H3 =>
        if b = true then te σ2 H3 fun y H4 => ∃ acc, H4 D = some (.lst acc) ∧ acc.length < sizeLine ∧ Nx (L2.upd H4 D (.lst (acc ++ [y]))) else Nx H3) := by
  refine lc_it walk_str (fun i H' => H' = L2.upd H1 D (.lst (((tl z).take i).map f))) rfl (fun _ _ _ _ => trivial) ?_ ?_
  · rintro i x H2 H3 hi rfl ⟨rfl, c, hc, rfl⟩
    have hc' : (tl z)[i]? = some c := by rw [← hc]; simp [tl]
    refine hg _ _ _ _ _ (fun s h q => ⟨q.1, by
      unfold tYes
      dsimp only
      rw [if_pos rfl]
      exact q.2⟩) (hs c _ (fun y H4 => ∃ acc, H4 D = some (.lst acc) ∧ acc.length < sizeLine ∧ L2.upd H4 D (.lst (acc ++ [y])) = L2.upd H1 D (.lst (((tl z).take (i + 1)).map f))) ⟨_, upd_same, ?_, ?_⟩)
    · refine sz5' ?_
      rw [len_tl] at hz
      rw [List.length_map, List.length_take]
      omega
    · rw [upd_upd, take_map f hc']
  · rintro H2 rfl
    have e : (tl z).take z.cps.size = tl z := List.take_of_length_le (by simp [tl])
    rw [e]
    exact hd
theorem gName_mono {i : Nat} (x : V) (σ : L2.St) (H : Hp) (C C' : L2.St → Hp → Prop) (h : ∀ s h, C s h → C' s h) (q : gName i x σ H C) : gName i x σ H C' := h _ _ q
def spWhole (K : PySem.W.Frag) : Sp := fun vs H Q _ => ∃ (x : V) (d : PyData) (lo hi : Int), vs = [x, .int lo, .int hi] ∧ Dt K H x d ∧ Q (.bl (wholeD lo hi d)) H
def spName (K : PySem.W.Frag) : Sp := fun vs H Q _ => ∃ (x : V) (d : PyData), vs = [x] ∧ Dt K H x d ∧ (∀ z, d = .str z → z.length ≤ 100000) ∧ ∀ H', Same H H' → Q (.bl (nameD d)) H'
section
variable {P : Program} {w : World} {K : PySem.W.Frag} {mg : Str → Option Value} {base : Heap}
abbrev s_is_whole : Stmt := top 8
theorem sc_is_whole : FnScope ["thing", "low", "high"] ["thing", "low", "high"] (defScope s_is_whole) := ⟨rfl, rfl, rfl, by decide +kernel, rfl, by decide +kernel, by decide +kernel⟩

theorem ok_is_whole (bt : Bt mg) (D : Def K mg "is_whole" s_is_whole) : Prom P w K mg base 1 "is_whole" ["thing", "low", "high"] (spWhole K) := by
  refine prom_mk D sc_is_whole (fun vs H Q E h => ?_) (fun _ _ _ _ _ _ us hl => match us, hl with | [_, _, _], _ => rfl) (fun f cdv A outer s H vs Q E hr h => ?_)
  · obtain ⟨x, d, lo, hi, rfl, _⟩ := h
    rfl
  · obtain ⟨x, d, lo, hi, rfl, hd, q⟩ := h
    refine ⟨_, (pss_one (ps_ret (pe_and (pe_callB (id := "isinstance") (isiK (K := K)) (by rfl) bt.isinstance_ (by decide +kernel) (pa_cons (pv 0) (pa_cons (pe_bltn (v := .ty "int") rfl bt.int_ (by decide +kernel) rfl) pa_nil))) (pe_and (pe_not (pe_callB (id := "isinstance") (isiK (K := K)) (by rfl) bt.isinstance_ (by decide +kernel) (pa_cons (pv 0) (pa_cons (pe_bltn (v := .ty "bool") rfl bt.bool_ (by decide +kernel) rfl) pa_nil)))) (pe_one (pe_chain op_le op_le (pv 1) (pv 0) (pv 2))))))), ?_⟩
    refine ⟨_, rfl, _, _, _, _, isD "int" d, rfl, .ty "int", hd.ty, isi_int, _, rfl, ite2 (fun c => ?_) (fun c => ?_)⟩
    · refine ⟨_, rfl, _, _, _, _, isD "bool" d, rfl, .ty "bool", hd.ty, isi_bool, _, rfl, _, rfl, ?_⟩
      rcases isD_int c with ⟨i, rfl⟩ | ⟨b, rfl⟩
      · cases hd
        rw [isD_intb]
        refine iteT ⟨_, rfl, _, rfl, _, _, rfl, rfl, _, rfl, ?_⟩
        replace q : Q (.bl (decide (lo ≤ i) && decide (i ≤ hi))) H := q
        by_cases h1 : lo ≤ i
        · rw [decide_eq_true h1] at q ⊢
          exact iteT ⟨_, rfl, _, _, rfl, rfl, q⟩
        · rw [decide_eq_false h1] at q ⊢
          exact iteF q
      · rw [isD_bools]
        exact iteF q
    · have e : wholeD lo hi d = false := by
        cases d <;> first | rfl | exact absurd (isD_ints _) c
      rw [e] at q
      exact q
abbrev s_is_name : Stmt := top 9
theorem sc_is_name : FnScope ["thing", "sign"] ["thing"] (defScope s_is_name) := ⟨rfl, rfl, rfl, by decide +kernel, rfl, by decide +kernel, by decide +kernel⟩

theorem ok_is_name (bt : Bt mg) (k_MOST_SIGNS : ∃ t, mg "MOST_SIGNS" = some (.int 8 t)) (k_SMALL : ∃ t, mg "SMALL" = some (.str "abcdefghijklmnopqrstuvwxyz" t)) (D : Def K mg "is_name" s_is_name) : Prom P w K mg base 1 "is_name" ["thing"] (spName K) := by
  obtain ⟨t_MOST_SIGNS, c_MOST_SIGNS⟩ := k_MOST_SIGNS
  obtain ⟨t_SMALL, c_SMALL⟩ := k_SMALL
  refine prom_mk D sc_is_name (fun vs H Q E h => ?_) (fun _ _ _ _ _ _ us hl => match us, hl with | [_], _ => rfl) (fun f cdv A outer s H vs Q E hr h => ?_)
  · obtain ⟨x, d, rfl, _⟩ := h
    rfl
  · obtain ⟨x, d, rfl, hd, hz, q⟩ := h
    refine ⟨_, (pss_cons (ps_if (PW.pt (pw_or (pt_not (pt_val (pe_callB (id := "isinstance") (isiK (K := K)) (by rfl) bt.isinstance_ (by decide +kernel) (pa_cons (pv 0) (pa_cons (pe_bltn (v := .ty "str") rfl bt.str_ (by decide +kernel) rfl) pa_nil))))) (pw_or1 (pt_not (pt_chain op_le op_le pe_int (pe_callB (id := "len") (lenK (K := K)) (by rfl) bt.len_ (by decide +kernel) (pa_cons (pv 0) pa_nil)) (pe_glob (v := .int 8) rfl c_MOST_SIGNS ⟨_, rfl⟩)))))) (pss_one (ps_ret pe_bl)) pss_nil)
      (pss_one (ps_ret (pe_callB (id := "all") (allK (K := K) rfl) (by rfl) bt.all_ (by decide +kernel) (pa_cons (pe_lc (own := [("sign", 1)]) (g := gName 1) rfl sc_is_name.nd (pi_str (pv 0)) (blkOk_by (N := ["thing", "sign"]) (sc := defScope s_is_name) (by decide +kernel)) (fun _ _ _ _ _ => (pg_name (i := 1) sc_is_name.nd rfl (Or.inl rfl))) (fun _ _ _ _ _ => pts_nil) (fun _ _ _ _ _ => (pe_cmpR op_in_sign (pv 1) (pe_glob (v := .str "abcdefghijklmnopqrstuvwxyz") rfl c_SMALL ⟨_, rfl⟩) rfl))) pa_nil))))), ?_⟩
    refine ⟨_, rfl, _, _, _, _, isD "str" d, rfl, .ty "str", hd.ty, isi_str, _, rfl, ?_⟩
    cases c : isD "str" d with
    | false =>
      have e : nameD d = false := by
        cases d <;> first | rfl | (rw [isD_strs] at c; cases c)
      rw [e] at q
      exact iteT (iteT (q _ (Same.refl _)))
    | true =>
      obtain ⟨z, rfl⟩ := isD_str c
      cases hd
      have hz' := hz z rfl
      refine iteF ⟨_, rfl, _, _, rfl, ⟨sz5 hz', rfl⟩, _, _, rfl, rfl, _, rfl, ?_⟩
      replace q : ∀ G, Same H G → Q (.bl (nameS z)) G := q
      unfold nameS at q
      by_cases h1 : 1 ≤ z.length
      · rw [decide_eq_true (show (1 : Int) ≤ (z.length : Nat) by omega)]
        rw [decide_eq_true h1] at q
        refine iteT ⟨_, _, rfl, rfl, _, rfl, ?_⟩
        by_cases h2 : z.length ≤ 8
        · rw [decide_eq_true (show ((z.length : Nat) : Int) ≤ 8 by omega)]
          rw [decide_eq_true h2] at q
          refine iteF ⟨_, rfl, z, rfl, fun L hL => ?_⟩
          refine lc_signs (fun c => V.bl (decide (c ∈ SMALLs.cps.toList))) hz' (fun c G C qq => ⟨rfl, _, rfl, c, SMALLs, rfl, rfl, qq⟩) ?_ gName_mono
          refine ⟨L, (tl z).map fun c => decide (c ∈ SMALLs.cps.toList), rfl, .inl (.inl (by rw [upd_same, List.map_map]; rfl)), ?_⟩
          have e : ((tl z).map fun c => decide (c ∈ SMALLs.cps.toList)).all id = smallS z := by
            rw [List.all_map]
            unfold smallS
            show (tl z).all _ = (tl z).all _
            congr 1
            funext c
            exact in_small c
          rw [e]
          exact q _ (Same.new (Same.refl _) hL)
        · rw [decide_eq_false (show ¬ ((z.length : Nat) : Int) ≤ 8 by omega)]
          rw [decide_eq_false h2] at q
          exact iteT (q _ (Same.refl _))
      · rw [decide_eq_false (show ¬ (1 : Int) ≤ (z.length : Nat) by omega)]
        rw [decide_eq_false h1] at q
        exact iteF ⟨_, rfl, iteT (q _ (Same.refl _))⟩
end

end TS

namespace TS
open PySem PySem.Spec PyProof.Rows L2 TL

/-! ### rows of words -/
def rowD : PyData → Bool
  | .tuple [a, b] => nameD a && wholeD 0 4 b
  | _ => false
theorem weight_mem : ∀ {ds : List PyData} {d : PyData}, d ∈ ds → d.weight ≤ PyData.weightAll ds
  | x :: r, d, h => by
    unfold PyData.weightAll
    rcases List.mem_cons.mp h with e | m
    · rw [e]; omega
    · have := weight_mem m; omega
theorem weight_tup {ds : List PyData} {d : PyData} {n : Nat} (h : (PyData.tuple ds).weight ≤ n) (m : d ∈ ds) : d.weight ≤ n := by
  unfold PyData.weight at h
  exact Nat.le_trans (weight_mem m) h
theorem weight_list {ds : List PyData} {d : PyData} {n : Nat} (h : (PyData.list ds).weight ≤ n) (m : d ∈ ds) : d.weight ≤ n := by
  unfold PyData.weight at h
  exact Nat.le_trans (weight_mem m) h
theorem weight_strD {d : PyData} {n : Nat} (h : d.weight ≤ n) : ∀ z, d = .str z → z.length ≤ n := fun z e => by
  rw [e] at h
  unfold PyData.weight at h
  exact h
theorem iteT' {b : Bool} {A B : Prop} (h : b = true) (a : A) : if b = true then A else B := by rw [h]; exact iteT a
theorem iteF' {b : Bool} {A B : Prop} (h : b = false) (a : B) : if b = true then A else B := by rw [h]; exact iteF a
theorem neV_int {i j : Int} : (!decide (V.int i = V.int j)) = !decide (i = j) := by
  by_cases h : i = j
  · rw [h]; simp
  · rw [decide_eq_false h, decide_eq_false (fun z => h (V.int.inj z))]
theorem eqV_int {i j : Int} : decide (V.int i = V.int j) = decide (i = j) := by
  by_cases h : i = j
  · rw [h]; simp
  · rw [decide_eq_false h, decide_eq_false (fun z => h (V.int.inj z))]
theorem two_of {α : Type} {l : List α} (h : l.length = 2) : ∃ a b, l = [a, b] := match l, h with | [a, b], _ => ⟨a, b, rfl⟩
def spRow (K : PySem.W.Frag) : Sp := fun vs H Q _ => ∃ (x : V) (d : PyData), vs = [x] ∧ Dt K H x d ∧ d.weight ≤ 100000 ∧ ∀ H', Same H H' → Q (.bl (rowD d)) H'
section
variable {P : Program} {w : World} {K : PySem.W.Frag} {mg : Str → Option Value} {base : Heap}
abbrev s_is_row : Stmt := top 13
theorem sc_is_row : FnScope ["thing"] ["thing"] (defScope s_is_row) := ⟨rfl, rfl, rfl, by decide +kernel, rfl, by decide +kernel, by decide +kernel⟩

theorem ok_is_row (bt : Bt mg) (k_MOST_PLACES : ∃ t, mg "MOST_PLACES" = some (.int 4 t)) (p_is_name : Prom P w K mg base 1 "is_name" ["thing"] (spName K)) (p_is_whole : Prom P w K mg base 1 "is_whole" ["thing", "low", "high"] (spWhole K)) (D : Def K mg "is_row" s_is_row) :
    Prom P w K mg base 2 "is_row" ["thing"] (spRow K) := by
  obtain ⟨t_MOST_PLACES, c_MOST_PLACES⟩ := k_MOST_PLACES
  refine prom_mk D sc_is_row (fun vs H Q E h => ?_) (fun _ _ _ _ _ _ us hl => match us, hl with | [_], _ => rfl) (fun f cdv A outer s H vs Q E hr h => ?_)
  · obtain ⟨x, d, rfl, _⟩ := h
    rfl
  · obtain ⟨x, d, rfl, hd, hw, q⟩ := h
    refine ⟨_, (pss_cons (ps_if (PW.pt (pw_or (pt_not (pt_val (pe_callB (id := "isinstance") (isiK (K := K)) (by rfl) bt.isinstance_ (by decide +kernel) (pa_cons (pv 0) (pa_cons (pe_bltn (v := .ty "tuple") rfl bt.tuple_ (by decide +kernel) rfl) pa_nil))))) (pw_or1 (pt_cmpR op_ne (pe_callB (id := "len") (lenK (K := K)) (by rfl) bt.len_ (by decide +kernel) (pa_cons (pv 0) pa_nil)) pe_int (nomark _))))) (pss_one (ps_ret pe_bl)) pss_nil)
      (pss_one (ps_ret (pe_and (pe_pc p_is_name (hr.mono (by decide)) rfl (pa_cons (pe_ix (ix_tupK (K := K)) (pv 0) pe_int (fun _ _ => rfl)) pa_nil)) (pe_one (pe_pc p_is_whole (hr.mono (by decide)) rfl (pa_cons (pe_ix (ix_tupK (K := K)) (pv 0) pe_int (fun _ _ => rfl)) (pa_cons pe_int (pa_cons (pe_glob (v := .int 4) rfl c_MOST_PLACES ⟨_, rfl⟩) pa_nil))))))))), ?_⟩
    refine ⟨_, rfl, _, _, _, _, isD "tuple" d, rfl, .ty "tuple", hd.ty, isi_tuple, _, rfl, ?_⟩
    cases c : isD "tuple" d with
    | false =>
      have e : rowD d = false := by
        cases d <;> first | rfl | (rw [isD_tuples] at c; cases c)
      rw [e] at q
      exact iteT (iteT (q _ (Same.refl _)))
    | true =>
      obtain ⟨l, rfl⟩ := isD_tuple c
      obtain ⟨a, xs, rfl, hT, hA⟩ := hd.tup_inv
      have hl := hA.length
      refine iteF ⟨_, rfl, _, _, rfl, .inr ⟨xs, hT, rfl⟩, rfl, _, rfl, ?_⟩
      rw [neV_int]
      by_cases h2 : l.length = 2
      · obtain ⟨d0, d1, rfl⟩ := two_of h2
        obtain ⟨x0, x1, rfl⟩ := two_of (hl.trans h2)
        cases hA with
        | cons h0 t => cases t with
        | cons h1 t =>
        refine iteF' rfl ?_
        refine ⟨_, rfl, a, _, _, x0, rfl, rfl, hT, rfl, x0, d0, rfl, h0, weight_strD (weight_tup hw (by simp)), fun G sG => ⟨_, rfl, ?_⟩⟩
        replace q : ∀ G, Same H G → Q (.bl (nameD d0 && wholeD 0 4 d1)) G := q
        cases hn : nameD d0 with
        | false =>
          rw [hn] at q
          exact iteF (q G sG)
        | true =>
          rw [hn] at q
          exact iteT ⟨_, rfl, a, _, _, x1, rfl, rfl, SqT.same sG hT, rfl, x1, d1, _, _, rfl, Dt.same sG h1, q G sG⟩
      · have e : rowD (.tuple l) = false := by
          match l, h2 with
          | [], _ => rfl
          | [_], _ => rfl
          | [_, _], h => exact absurd rfl h
          | _ :: _ :: _ :: _, _ => rfl
        rw [e] at q
        refine iteT' ?_ (q _ (Same.refl _))
        rw [decide_eq_false (show ¬ ((xs.length : Nat) : Int) = 2 by omega)]
        rfl
end

end TS

namespace TS
open PySem PySem.Spec PyProof.Rows L2 TL

/-! ### lists of rows -/
def nmOf : PyData → Str
  | .tuple (.str z :: _) => z
  | _ => ""
/-- how many unlike ones -/
def dc : List Str → Nat
  | [] => 0
  | x :: r => if x ∈ r then dc r else dc r + 1
theorem dc_le : ∀ l : List Str, dc l ≤ l.length
  | [] => Nat.le_refl _
  | x :: r => by
    unfold dc
    have := dc_le r
    split <;> simp only [List.length_cons] <;> omega
theorem dc_nodup : ∀ l : List Str, dc l = l.length ↔ l.Nodup
  | [] => by simp [dc]
  | x :: r => by
    have := dc_le r
    rw [List.nodup_cons, ← dc_nodup r, show dc (x :: r) = if x ∈ r then dc r else dc r + 1 from rfl]
    split
    · rename_i h
      simp only [List.length_cons]
      constructor
      · intro z; omega
      · intro z; exact absurd h z.1
    · rename_i h
      simp only [List.length_cons]
      constructor
      · intro z; exact ⟨h, by omega⟩
      · intro z; omega
theorem nodup_rev {l : List Str} : l.reverse.Nodup ↔ l.Nodup := by
  unfold List.Nodup
  rw [List.pairwise_reverse]
  constructor <;> exact fun h => h.imp fun z e => z e.symm
def rowsL (ds : List PyData) : Bool := decide (1 ≤ ds.length) && decide (ds.length ≤ 12) && (ds.all rowD && decide ((ds.map nmOf).Nodup))
def seqD : PyData → Option (List PyData)
  | .list ds => some ds
  | .tuple ds => some ds
  | _ => none
def rowsD (d : PyData) : Bool := match seqD d with
  | some ds => rowsL ds
  | none => false
theorem seq_kind {d : PyData} : (isD "list" d || isD "tuple" d) = true → ∃ ds, seqD d = some ds := fun h => by
  rcases Bool.or_eq_true_iff.mp h with h | h
  · obtain ⟨l, rfl⟩ := isD_list h; exact ⟨l, rfl⟩
  · obtain ⟨l, rfl⟩ := isD_tuple h; exact ⟨l, rfl⟩
theorem seq_nokind {d : PyData} (h : (isD "list" d || isD "tuple" d) = false) : seqD d = none := by
  cases d <;> first | rfl | (rw [isD_lists] at h; cases h) | (rw [isD_tuples, Bool.or_true] at h; cases h)
theorem Dt.seq {K : PySem.W.Frag} {H : Hp} {v : V} {d : PyData} {ds : List PyData} (h : Dt K H v d) (e : seqD d = some ds) : ∃ a xs, v = .ref a ∧ Sq K H a xs ∧ DtAll K H xs ds := by
  cases h with
  | lst a b => cases e; exact ⟨_, _, rfl, .inl a, b⟩
  | tup a b => cases e; exact ⟨_, _, rfl, .inr a, b⟩
  | _ => cases e
theorem weight_seq {d x : PyData} {ds : List PyData} {n : Nat} (h : d.weight ≤ n) (e : seqD d = some ds) (m : x ∈ ds) : x.weight ≤ n := by
  cases d with
  | list l => cases e; exact weight_list h m
  | tuple l => cases e; exact weight_tup h m
  | _ => cases e
theorem row_is {d : PyData} (h : rowD d = true) : ∃ z b, d = .tuple [.str z, b] ∧ nameS z = true ∧ wholeD 0 4 b = true := by
  unfold rowD at h
  split at h
  · rename_i a b
    obtain ⟨h1, h2⟩ := Bool.and_eq_true_iff.mp h
    unfold nameD at h1
    split at h1
    · exact ⟨_, _, rfl, h1, h2⟩
    · cases h1
  · cases h
def spRows (K : PySem.W.Frag) : Sp := fun vs H Q _ => ∃ (x : V) (d : PyData), vs = [x] ∧ Dt K H x d ∧ d.weight ≤ 100000 ∧ (∀ ds, seqD d = some ds → ds.length ≤ 1000) ∧ ∀ H', Same H H' → Q (.bl (rowsD d)) H'
section
variable {P : Program} {w : World} {K : PySem.W.Frag} {mg : Str → Option Value} {base : Heap}
abbrev s_are_rows : Stmt := top 14
theorem sc_are_rows : FnScope ["thing", "row"] ["thing"] (defScope s_are_rows) := ⟨rfl, rfl, rfl, by decide +kernel, rfl, by decide +kernel, by decide +kernel⟩

theorem ok_are_rows (bt : Bt mg) (k_MOST_WORDS : ∃ t, mg "MOST_WORDS" = some (.int 12 t)) (p_is_row : Prom P w K mg base 2 "is_row" ["thing"] (spRow K)) (D : Def K mg "are_rows" s_are_rows) :
    Prom P w K mg base 3 "are_rows" ["thing"] (spRows K) := by
  obtain ⟨t_MOST_WORDS, c_MOST_WORDS⟩ := k_MOST_WORDS
  refine prom_mk D sc_are_rows (fun vs H Q E h => ?_) (fun _ _ _ _ _ _ us hl => match us, hl with | [_], _ => rfl) (fun f cdv A outer s H vs Q E hr h => ?_)
  · obtain ⟨x, d, rfl, _⟩ := h
    rfl
  · obtain ⟨x, d, rfl, hd, hw, hn, q⟩ := h
    refine ⟨_, (pss_cons (ps_if (PW.pt (pw_or (pt_not (pt_val (pe_callB (id := "isinstance") (isiTK (K := K)) (by rfl) bt.isinstance_ (by decide +kernel) (pa_cons (pv 0) (pa_cons (pe_tup (pa_cons (pe_bltn (v := .ty "list") rfl bt.list_ (by decide +kernel) rfl) (pa_cons (pe_bltn (v := .ty "tuple") rfl bt.tuple_ (by decide +kernel) rfl) pa_nil))) pa_nil))))) (pw_or1 (pt_not (pt_chain op_le op_le pe_int (pe_callB (id := "len") (lenK (K := K)) (by rfl) bt.len_ (by decide +kernel) (pa_cons (pv 0) pa_nil)) (pe_glob (v := .int 12) rfl c_MOST_WORDS ⟨_, rfl⟩)))))) (pss_one (ps_ret pe_bl)) pss_nil)
      (pss_one (ps_ret (pe_and (pe_callB (id := "all") (allK (K := K) rfl) (by rfl) bt.all_ (by decide +kernel) (pa_cons (pe_lc (own := [("row", 1)]) (g := gName 1) rfl sc_are_rows.nd (pi_either (pi_listK (K := K) rfl (pv 0)) (pi_tupK (K := K) rfl (pv 0))) (blkOk_by (N := ["thing", "row"]) (sc := defScope s_are_rows) (by decide +kernel)) (fun _ _ _ _ _ => (pg_name (i := 1) sc_are_rows.nd rfl (Or.inl rfl))) (fun _ _ _ _ _ => pts_nil) (fun _ _ _ _ _ => (pe_pc p_is_row (hr.mono (by decide)) rfl (pa_cons (pv 1) pa_nil)))) pa_nil)) (pe_one (pe_cmpR op_eq (pe_callB (id := "len") len_setK (by rfl) bt.len_ (by decide +kernel) (pa_cons (pe_scK (own := [("row", 1)]) (g := gName 1) rfl sc_are_rows.nd (pi_either (pi_listK (K := K) rfl (pv 0)) (pi_tupK (K := K) rfl (pv 0))) (blkOk_by (N := ["thing", "row"]) (sc := defScope s_are_rows) (by decide +kernel)) (fun _ _ _ _ _ => (pg_name (i := 1) sc_are_rows.nd rfl (Or.inl rfl))) (fun _ _ _ _ _ => pts_nil) (fun _ _ _ _ _ => (pe_ix (ix_tupK (K := K)) (pv 1) pe_int (fun _ _ => rfl)))) pa_nil)) (pe_callB (id := "len") (lenK (K := K)) (by rfl) bt.len_ (by decide +kernel) (pa_cons (pv 0) pa_nil)) (nomark _))))))), ?_⟩
    refine ⟨_, rfl, (by show 2 ≤ sizeLine; decide), fun T hT => ⟨_, T, [.ty "list", .ty "tuple"], _, _, isD "list" d || isD "tuple" d, rfl, upd_same .., .cons (.ty "list") (.cons (.ty "tuple") .nil), (Dt.same (Same.new (Same.refl _) hT) hd).ty, isi_lt, _, rfl, ?_⟩⟩
    have sT : Same H (L2.upd H T (.tup [.ty "list", .ty "tuple"])) := Same.new (Same.refl _) hT
    generalize L2.upd H T (.tup [.ty "list", .ty "tuple"]) = H0 at sT ⊢
    unfold rowsD at q
    cases c : (isD "list" d || isD "tuple" d) with
    | false =>
      rw [seq_nokind c] at q
      exact iteT (iteT (q _ sT))
    | true =>
      obtain ⟨ds, es⟩ := seq_kind c
      rw [es] at q
      obtain ⟨a, xs, rfl, hS, hA⟩ := (Dt.same sT hd).seq es
      have hl := hA.length
      replace q : ∀ G, Same H G → Q (.bl (rowsL ds)) G := q
      unfold rowsL at q
      have h12 := hn ds es
      refine iteF ⟨_, rfl, _, _, rfl, hS.len, _, _, rfl, rfl, _, rfl, ?_⟩
      by_cases h1 : 1 ≤ ds.length
      · rw [decide_eq_true (show (1 : Int) ≤ (xs.length : Nat) by omega)]
        rw [decide_eq_true h1] at q
        refine iteT ⟨_, _, rfl, rfl, _, rfl, ?_⟩
        by_cases h2 : ds.length ≤ 12
        · rw [decide_eq_true (show ((xs.length : Nat) : Int) ≤ 12 by omega)]
          rw [decide_eq_true h2, Bool.and_true, Bool.true_and] at q
          refine iteF (seq_it rfl hS fun J G wk hG L hL => lc_same wk hG (by omega) (Same.refl _) hL (fun i => .bl (rowD (ds.getD i .none))) (fun _ => rfl) ?_ ?_)
          · intro i x H2 C hx s2 k
            obtain ⟨di, hdi, hx2⟩ := hA.get hx
            have e : ds.getD i .none = di := by rw [List.getD_eq_getElem?_getD, hdi]; rfl
            rw [e] at k
            exact ⟨_, rfl, x, di, rfl, Dt.same s2 hx2, weight_seq hw es (List.mem_of_getElem? hdi), k⟩
          · intro H2 s2 hL2
            refine ⟨L, (List.range xs.length).map fun i => rowD (ds.getD i .none), rfl, .inl (.inl (by rw [hL2, List.map_map]; rfl)), _, rfl, ?_⟩
            have ea : ((List.range xs.length).map fun i => rowD (ds.getD i .none)).all id = ds.all rowD := by
              rw [hl]
              have : (List.range ds.length).map (fun i => rowD (ds.getD i .none)) = ds.map rowD := by
                apply List.ext_getElem?
                intro i
                rw [List.getElem?_map, List.getElem?_map]
                rcases Nat.lt_or_ge i ds.length with z | z
                · rw [List.getElem?_range z, List.getElem?_eq_getElem z]
                  simp [List.getD_eq_getElem?_getD, List.getElem?_eq_getElem z]
                · rw [List.getElem?_eq_none (by simpa using z), List.getElem?_eq_none z]
                  rfl
              rw [this, List.all_map]
              rfl
            rw [ea]
            cases al : ds.all rowD with
            | false =>
              rw [al] at q
              exact iteF (q _ (sT.trans s2))
            | true =>
              rw [al, Bool.true_and] at q
              have rows : ∀ (i : Nat) (x : V), xs[i]? = some x → ∃ (p : Addr) (z : Str) (b : PyData) (v : V), x = .ref p ∧ ds[i]? = some (.tuple [.str z, b]) ∧ SqT K H2 p [.str z, v] := by
                intro i x hx
                obtain ⟨di, hdi, hx2⟩ := hA.get hx
                obtain ⟨z, b, rfl, _, _⟩ := row_is (List.all_eq_true.mp al di (List.mem_of_getElem? hdi))
                obtain ⟨p, ys, rfl, hp, hy⟩ := (Dt.same s2 hx2).tup_inv
                cases hy with
                | cons y0 t => cases t with
                | cons y1 t => cases t with
                | nil =>
                  cases y0
                  exact ⟨p, z, b, _, rfl, hdi, hp⟩
              refine iteT (seq_it rfl (Sq.same s2 hS) fun J2 G2 wk2 hG2 D hD => ?_)
              have sD : ∀ o : HO, Same H2 (L2.upd H2 D o) := fun o => Same.new (Same.refl _) hD
              refine scK_it wk2 (fun i G' => ∃ S, (∀ k, S k = decide (∃ z ∈ (ds.take i).map nmOf, k = Sum.inr z)) ∧ G' = L2.upd H2 D (SetK P w D S (dc ((ds.take i).map nmOf).reverse))) ⟨_, fun k => by simp, rfl⟩ (fun i G' _ p => ?_) ?_ ?_
              · obtain ⟨S, _, rfl⟩ := p
                exact hG2 _ (sD _)
              · rintro i x G' G'' hi ⟨S, hSS, rfl⟩ ⟨rfl, hx⟩
                obtain ⟨p, z, b, v, rfl, hdi, hp⟩ := rows i x hx
                have et : (ds.take (i + 1)).map nmOf = (ds.take i).map nmOf ++ [z] := take_map nmOf hdi
                have dl := dc_le ((ds.take i).map nmOf).reverse
                rw [List.length_reverse, List.length_map, List.length_take] at dl
                refine ⟨rfl, yes (iteT ⟨_, rfl, p, _, _, .str z, rfl, rfl, SqT.same (sD _) hp, rfl, Sum.inr z, S, _, rfl, upd_same .., ?_, fun j => S j || decide (j = Sum.inr z), fun k => ?_, ?_⟩)⟩
                · have : (50 : Nat) < scanBound := by decide
                  omega
                · show (S k || decide (k = Sum.inr z)) = _
                  rw [hSS, et, Bool.eq_iff_iff]
                  simp only [Bool.or_eq_true, decide_eq_true_eq]
                  constructor
                  · rintro (⟨y, m, e⟩ | e)
                    · exact ⟨y, List.mem_append_left _ m, e⟩
                    · exact ⟨z, List.mem_append_right _ (by simp), e⟩
                  · rintro ⟨y, m, e⟩
                    rcases List.mem_append.mp m with m | m
                    · exact .inl ⟨y, m, e⟩
                    · rw [List.mem_singleton.mp m] at e
                      exact .inr e
                · rw [upd_upd, et, List.reverse_append]
                  show L2.upd H2 D (SetK P w D _ (if S (Sum.inr z) = true then _ else _)) = L2.upd H2 D (SetK P w D _ (if z ∈ ((ds.take i).map nmOf).reverse then _ else _))
                  have ez : S (Sum.inr z) = decide (z ∈ ((ds.take i).map nmOf).reverse) := by
                    rw [hSS]
                    congr 1
                    apply propext
                    constructor
                    · rintro ⟨y, m, e⟩
                      rw [Sum.inr.inj e]
                      exact List.mem_reverse.mpr m
                    · intro m
                      exact ⟨z, List.mem_reverse.mp m, rfl⟩
                  rw [ez]
                  by_cases m : z ∈ ((ds.take i).map nmOf).reverse
                  · rw [if_pos m, if_pos (decide_eq_true m)]; rfl
                  · rw [if_neg m, if_neg (by rw [decide_eq_false m]; decide)]; rfl
              · rintro G' ⟨S, _, rfl⟩
                have dl := dc_le ((ds.take xs.length).map nmOf).reverse
                rw [List.length_reverse, List.length_map, List.length_take] at dl
                refine ⟨D, S, _, rfl, upd_same .., ?_, _, rfl, _, _, rfl, (Sq.same (sD _) (Sq.same s2 hS)).len, rfl, ?_⟩
                · have : (2 : Nat) ^ 40 = 1099511627776 := by decide
                  omega
                · have ef : ds.take xs.length = ds := List.take_of_length_le (by omega)
                  rw [ef, eqV_int]
                  have e2 : decide (((dc (ds.map nmOf).reverse : Nat) : Int) = (xs.length : Nat)) = decide ((ds.map nmOf).Nodup) := by
                    congr 1
                    apply propext
                    have z := dc_nodup (ds.map nmOf).reverse
                    rw [List.length_reverse, List.length_map, nodup_rev] at z
                    rw [← z]
                    constructor
                    · intro e; omega
                    · intro e; omega
                  rw [e2]
                  exact q _ ((sT.trans s2).trans (sD _))
        · rw [decide_eq_false (show ¬ ((xs.length : Nat) : Int) ≤ 12 by omega)]
          rw [decide_eq_false h2] at q
          exact iteT (q _ sT)
      · rw [decide_eq_false (show ¬ (1 : Int) ≤ (xs.length : Nat) by omega)]
        rw [decide_eq_false h1] at q
        exact iteF ⟨_, rfl, iteT (q _ sT)⟩
end

end TS

namespace TS
open PySem PySem.Spec PyProof.Rows L2 TL

/-! ### Words -/
def wcls (K : PySem.W.Frag) : Addr := He.ga K "Words"
def rowOf : PyData → Str × Int
  | .tuple [.str z, .int p] => (z, p)
  | _ => ("", 0)
/-- the entries of by_name -/
structure WEnt (K : PySem.W.Frag) (G : Hp) (kvs : List (Key × V)) (rows : List (Str × Int)) : Prop where
  len : kvs.length = rows.length
  at_ : ∀ (i : Nat) (r : Str × Int), rows[i]? = some r → ∃ t, kvs[i]? = some (Sum.inr r.1, .ref t) ∧ SqT K G t [.int r.2, .int i]
theorem WEnt.same {K : PySem.W.Frag} {G G' : Hp} {kvs : List (Key × V)} {rows : List (Str × Int)} (h : WEnt K G kvs rows) (e : Same G G') : WEnt K G' kvs rows :=
  ⟨h.len, fun i r q => let ⟨t, a, b⟩ := h.at_ i r q; ⟨t, a, SqT.same e b⟩⟩
/-- the words at a -/
def WordsAt (K : PySem.W.Frag) (G : Hp) (a : Addr) (rows : List (Str × Int)) : Prop := ∃ dx D kvs, G a = some (.ins (wcls K) dx [("by_name", .ref D)]) ∧ G D = some (.dK kvs) ∧ WEnt K G kvs rows
theorem WordsAt.same {K : PySem.W.Frag} {G G' : Hp} {a : Addr} {rows : List (Str × Int)} (h : WordsAt K G a rows) (e : Same G G') : WordsAt K G' a rows :=
  let ⟨dx, D, kvs, x, y, z⟩ := h; ⟨dx, D, kvs, e _ _ x, e _ _ y, z.same e⟩
theorem valV_none {kvs : List (Key × V)} {k : Key} (h : ∀ kv ∈ kvs, kv.1 ≠ k) : valV kvs k = none := by
  unfold valV
  rw [List.find?_eq_none.mpr (fun kv m => by simpa using h kv m)]
  rfl
/-- a tuple stays where another thing is changed -/
theorem SqT.upd {K : PySem.W.Frag} {H : Hp} {a t : Addr} {xs : List V} {o o' : HO} (ha : H a = some o) (ho : ∀ l, o ≠ .tup l) (hf : ∀ b u, o ≠ .frz b u) (h : SqT K H t xs) : SqT K (L2.upd H a o') t xs := by
  rcases h with (h | ⟨q, h⟩) | h
  · refine .inl (.inl ?_)
    rw [upd_ne]
    · exact h
    · intro e
      rw [e, ha] at h
      exact ho _ (Option.some.inj h)
  · refine .inl (.inr ⟨q, ?_⟩)
    rw [upd_ne]
    · exact h
    · intro e
      rw [e, ha] at h
      exact hf _ _ (Option.some.inj h)
  · exact .inr h
def spWIni (K : PySem.W.Frag) : Sp := fun vs H Q E => ∃ (a dx : Addr) (x : V) (d : PyData), vs = [.ref a, x] ∧ H a = some (.ins (wcls K) dx []) ∧ Dt K H x d ∧ d.weight ≤ 100000 ∧ (∀ ds, seqD d = some ds → ds.length ≤ 1000) ∧
  (∀ ds, seqD d = some ds → rowsL ds = true → ∀ G, Fx a H G → WordsAt K G a (ds.map rowOf) → Q .non G) ∧
  (rowsD d = false → ∀ G e, Same H G → H e = none → G e = some (.xd [("found", x)]) → E (.ref (He.ga K "NoWords")) (some e) G)
def spWLen (K : PySem.W.Frag) : Sp := fun vs H Q _ => ∃ (a : Addr) (rows : List (Str × Int)), vs = [.ref a] ∧ WordsAt K H a rows ∧ Q (.int rows.length) H
section
variable {P : Program} {w : World} {K : PySem.W.Frag} {mg : Str → Option Value} {base : Heap}
abbrev s_NoWords___init__ : Stmt := inClass (top 3) 0
theorem sc_NoWords___init__ : FnScope ["self", "found"] ["self", "found"] (defScope s_NoWords___init__) := ⟨rfl, rfl, rfl, by decide +kernel, rfl, by decide +kernel, by decide +kernel⟩
theorem ok_NoWords_ini (fam_TermError : FamV K (He.ga K "TermError")) (g_TermError : mg "TermError" = some (.ref (He.ga K "TermError"))) (x_NoWords : OwnV K (He.ga K "NoWords") "found") (D : DefM K (He.ma K (He.ga K "NoWords") "__init__") "__init__" "NoWords.__init__" s_NoWords___init__) :
    PromA CX0 P w K mg base 1 (He.ma K (He.ga K "NoWords") "__init__") ["self", "found"] (spIni (He.ga K "NoWords") "found") := by
  refine meth_mk D sc_NoWords___init__ (fun vs H Q E h => ?_) (fun _ _ _ _ _ _ us hl => match us, hl with | [_, _], _ => rfl) (fun cdv A outer s H vs Q E hr h => ?_)
  · obtain ⟨a, v, rfl, _⟩ := h
    rfl
  · obtain ⟨a, v, rfl, ha, q⟩ := h
    refine ⟨_, (pss_cons (ps_expr (pe_famInit fam_TermError rfl g_TermError (pa_cons (pv 0) (pa_cons pe_str pa_nil))))
      (pss_one (ps_ost (pv 0) (pv 1)))), ?_⟩
    exact ⟨_, rfl, a, _, _, rfl, by decide, x_NoWords.ox, ha, _, rfl, _, rfl, a, _, rfl, x_NoWords.ox, x_NoWords.no, .inl ⟨ha, fun dx h1 h2 => q dx h1 h2⟩⟩

abbrev s_Words___len__ : Stmt := inClass (top 15) 6
theorem sc_Words___len__ : FnScope ["self"] ["self"] (defScope s_Words___len__) := ⟨rfl, rfl, rfl, by decide +kernel, rfl, by decide +kernel, by decide +kernel⟩

theorem ok_Words_len (bt : Bt mg) (cl : Cls K (wcls K)) (nb : NoAttr K (wcls K) "by_name") (D : DefM K (He.ma K (wcls K) "__len__") "__len__" "Words.__len__" s_Words___len__) : PromA CX0 P w K mg base 1 (He.ma K (wcls K) "__len__") ["self"] (spWLen K) := by
  refine meth_mk D sc_Words___len__ (fun vs H Q E h => ?_) (fun _ _ _ _ _ _ us hl => match us, hl with | [_], _ => rfl) (fun cdv A outer s H vs Q E hr h => ?_)
  · obtain ⟨a, rows, rfl, _⟩ := h
    rfl
  · obtain ⟨a, rows, rfl, ⟨dx, D, kvs, e1, e2, e3⟩, q⟩ := h
    refine ⟨_, (pss_one (ps_ret (pe_callB (id := "len") call_lenD (by rfl) bt.len_ (by decide +kernel) (pa_cons (pe_fld (pv 0) rfl) pa_nil)))), ?_⟩
    refine ⟨_, rfl, a, _, dx, _, _, rfl, e1, cl, nb, rfl, D, kvs, rfl, e2, ?_⟩
    rw [e3.len]
    exact q
abbrev s_Words___init__ : Stmt := inClass (top 15) 0
theorem sc_Words___init__ : FnScope ["self", "rows", "at", "name", "places"] ["self", "rows"] (defScope s_Words___init__) := ⟨rfl, rfl, rfl, by decide +kernel, rfl, by decide +kernel, by decide +kernel⟩

theorem ok_Words_ini (bt : Bt mg) (cl : Cls K (wcls K)) (nb : NoAttr K (wcls K) "by_name") (p_are_rows : Prom P w K mg base 3 "are_rows" ["thing"] (spRows K)) (g_NoWords : mg "NoWords" = some (.ref (He.ga K "NoWords"))) (x_NoWords : OwnV K (He.ga K "NoWords") "found")
    (pi_NoWords : PromA CX0 P w K mg base 1 (He.ma K (He.ga K "NoWords") "__init__") ["self", "found"] (spIni (He.ga K "NoWords") "found"))
    (D : DefM K (He.ma K (wcls K) "__init__") "__init__" "Words.__init__" s_Words___init__) : PromA (L2.CX P w) P w K mg base 4 (He.ma K (wcls K) "__init__") ["self", "rows"] (spWIni K) := by
  refine methX_mk D sc_Words___init__ (fun vs H Q E h => ?_) (fun _ _ _ _ _ _ us hl => match us, hl with | [_, _], _ => rfl) (fun cdv A outer s H vs Q E hr h => ?_)
  · obtain ⟨a, dx, x, d, rfl, _⟩ := h
    rfl
  · obtain ⟨a, dx, x, d, rfl, ha, hd, hw, hn, q1, q2⟩ := h
    refine ⟨_, (pss_cons (ps_if (pt_not (pt_val (pe_pc p_are_rows (hr.mono (by decide)) rfl (pa_cons (pv 1) pa_nil)))) (pss_one (ps_raise1 x_NoWords pi_NoWords rfl takesF (hr.mono (by decide)) rfl g_NoWords (pv 1))) pss_nil)
      (pss_one (ps_fld (pv 0) (pe_dc (own := [("at", 2), ("name", 3), ("places", 4)]) rfl sc_Words___init__.nd (pi_either (pi_enumK (K := K) rfl rfl bt.enumerate_ (pa_cons (pv 1) pa_nil)) (pi_enumT (K := K) rfl rfl bt.enumerate_ (pa_cons (pv 1) pa_nil))) (blkOk_by (N := ["self", "rows", "at", "name", "places"]) (sc := defScope s_Words___init__) (by decide +kernel)) (fun _ _ _ _ _ => (pg_tupK (K := K) (n := 2) rfl rfl (pgs_cons (pg_name (i := 2) sc_Words___init__.nd rfl (Or.inl rfl)) (pgs_cons (pg_tupK (K := K) (n := 2) rfl rfl (pgs_cons (pg_name (i := 3) sc_Words___init__.nd rfl (Or.inl rfl)) (pgs_cons (pg_name (i := 4) sc_Words___init__.nd rfl (Or.inl rfl)) pgs_nil))) pgs_nil)))) (fun _ _ _ _ _ => pts_nil) (fun _ _ _ _ _ => (pv 3)) (fun _ _ _ _ _ => (pe_tup (pa_cons (pv 4) (pa_cons (pv 2) pa_nil))))) rfl))), ?_⟩
    refine ⟨_, rfl, x, d, rfl, hd, hw, hn, fun H1 s1 => ⟨_, rfl, ?_⟩⟩
    cases c : rowsD d with
    | false => exact iteT ⟨_, rfl, fun e he => q2 c _ e (s1.trans (Same.new (Same.refl _) he)) (s1.free he) (upd_same ..)⟩
    | true =>
      obtain ⟨ds, es, rl⟩ : ∃ ds, seqD d = some ds ∧ rowsL ds = true := by
        unfold rowsD at c
        split at c
        · rename_i ds e; exact ⟨ds, e, c⟩
        · cases c
      obtain ⟨b, xs, rfl, hS, hA⟩ := (Dt.same s1 hd).seq es
      have hl := hA.length
      obtain ⟨rl1, rl2⟩ := Bool.and_eq_true_iff.mp rl
      obtain ⟨al, nd⟩ := Bool.and_eq_true_iff.mp rl2
      have l12 : ds.length ≤ 12 := of_decide_eq_true (Bool.and_eq_true_iff.mp rl1).2
      have nd' := of_decide_eq_true nd
      refine iteF (enum_it rfl hS fun J G wk hG D hD => ?_)
      have sD : ∀ o : HO, Same H1 (L2.upd H1 D o) := fun o => Same.new (Same.refl _) hD
      refine dc_it wk (fun i G' => ∃ kvs, Same H1 G' ∧ G' D = some (.dK kvs) ∧ WEnt K G' kvs ((ds.take i).map rowOf)) ⟨[], sD _, upd_same .., ⟨by simp, fun i r e => by simp at e⟩⟩ (fun i G' _ p => hG G' p.choose_spec.1) ?_ ?_
      · rintro i v G1 G2 hi ⟨kvs, sG, eD, we⟩ ⟨T, y, x, rfl, hT, rfl, ey, hx⟩
        cases ey
        obtain ⟨di, hdi, hx2⟩ := hA.get hx
        obtain ⟨z, pb, rfl, _, hp⟩ := row_is (List.all_eq_true.mp al di (List.mem_of_getElem? hdi))
        obtain ⟨p, rfl⟩ : ∃ p, pb = .int p := by
          cases pb <;> first | exact ⟨_, rfl⟩ | cases hp
        have sT : Same G1 (L2.upd G1 T (.tup [.int (i : Nat), x])) := Same.new (Same.refl _) hT
        obtain ⟨r, ys, rfl, hr2, hy⟩ := (Dt.same (sG.trans sT) hx2).tup_inv
        cases hy with
        | cons y0 t => cases t with
        | cons y1 t => cases t with
        | nil =>
        cases y0
        cases y1
        refine ⟨T, _, rfl, .inl (.inl (upd_same ..)), rfl, _, _, rfl, _, _, rfl, r, _, rfl, hr2, rfl, _, _, rfl, _, _, rfl, rfl, rfl, rfl, yes (iteT ⟨_, rfl, _, rfl, _, rfl, (by show 2 ≤ sizeLine; decide), fun u hu => ?_⟩)⟩
        have sU : Same (L2.upd G1 T (.tup [.int (i : Nat), .ref r])) (L2.upd (L2.upd G1 T (.tup [.int (i : Nat), .ref r])) u (.tup [.int p, .int (i : Nat)])) := Same.new (Same.refl _) hu
        have sA := sT.trans sU
        refine ⟨kvs, Sum.inr z, rfl, sA _ _ eD, ?_, kvs ++ [(Sum.inr z, .ref u)], ?_, ?_, ?_⟩
        · rw [we.len, List.length_map, List.length_take]
          exact sz5' (by omega)
        · intro b o e
          rw [upd_ne (ne_of_none e hD)]
          exact sA _ _ (sG _ _ e)
        · rw [upd_same]
          congr 2
          refine putK_new _ (valV_none fun kv hkv e => ?_)
          obtain ⟨j, hj⟩ := List.mem_iff_getElem?.mp hkv
          have jl : j < i := by
            have := (List.getElem?_eq_some_iff.mp hj).1
            rw [we.len, List.length_map, List.length_take] at this
            omega
          have jd : j < ds.length := by omega
          obtain ⟨t, h1, _⟩ := we.at_ j (rowOf ds[j]) (by rw [List.getElem?_map, List.getElem?_take_of_lt jl, List.getElem?_eq_getElem jd]; rfl)
          rw [hj] at h1
          cases h1
          obtain ⟨z2, pb2, e2, _, hp2⟩ := row_is (List.all_eq_true.mp al ds[j] (List.getElem_mem jd))
          have en : (ds.map nmOf)[j]? = (ds.map nmOf)[i]? := by
            rw [List.getElem?_map, List.getElem?_map, hdi, List.getElem?_eq_getElem jd, e2]
            rw [e2] at e
            obtain ⟨p2, rfl⟩ : ∃ p, pb2 = .int p := by
              cases pb2 <;> first | exact ⟨_, rfl⟩ | cases hp2
            exact congrArg some (Sum.inr.inj e)
          have := (List.getElem?_inj (by rw [List.length_map]; exact jd) nd').mp en
          omega
        · have et : (ds.take (i + 1)).map rowOf = (ds.take i).map rowOf ++ [(z, p)] := take_map rowOf hdi
          have li : ((ds.take i).map rowOf).length = i := by
            rw [List.length_map, List.length_take]
            omega
          have ki : kvs.length = i := we.len.trans li
          refine ⟨by rw [et, List.length_append, List.length_append, we.len]; rfl, fun j rr e => ?_⟩
          rw [et] at e
          rcases Nat.lt_or_ge j i with jl | jl
          · rw [List.getElem?_append_left (by omega)] at e
            obtain ⟨t, h1, h2⟩ := we.at_ j rr e
            exact ⟨t, by rw [List.getElem?_append_left (by omega)]; exact h1, SqT.upd (sA _ _ eD) (fun _ => nofun) (fun _ _ => nofun) (SqT.same sA h2)⟩
          · rw [List.getElem?_append_right (by omega), li] at e
            obtain rfl : j = i := by
              rcases Nat.lt_or_ge i j with z1 | z1
              · rw [List.getElem?_eq_none (by simp; omega)] at e
                cases e
              · omega
            rw [Nat.sub_self] at e
            cases e
            refine ⟨u, by rw [List.getElem?_append_right (by omega), ki, Nat.sub_self]; rfl, SqT.upd (sA _ _ eD) (fun _ => nofun) (fun _ _ => nofun) (.inl (.inl (upd_same ..)))⟩
      · rintro G' ⟨kvs, sG, eD, we⟩
        rw [show ds.take xs.length = ds from List.take_of_length_le (by omega)] at we
        refine ⟨_, rfl, a, _, dx, _, rfl, sG _ _ (s1 _ _ ha), cl, nb, by decide, ?_⟩
        have na : a ≠ D := fun e => by rw [← e] at hD; rw [s1 _ _ ha] at hD; cases hD
        refine q1 ds es rl _ (Fx.of (s1.trans sG)).upd ⟨dx, D, kvs, upd_same .., (upd_ne (Ne.symm na)).trans eD, we.len, fun i r e => ?_⟩
        obtain ⟨t, h1, h2⟩ := we.at_ i r e
        exact ⟨t, h1, SqT.upd (sG _ _ (s1 _ _ ha)) (fun _ => nofun) (fun _ _ => nofun) h2⟩
end

end TS

namespace TS
open PySem PySem.Spec PyProof.Rows L2 TL

/-! ### names of words, drawn -/
def w12 : List Str := ["put", "take", "ask", "meets", "above", "rule", "shelf", "tree", "f", "g", "c", "n"]
/-- one of the fresh names is none of these -/
def FreshN (ns : List Str) : Prop := ¬ (("b" : Str) ∈ ns ∧ ("zz" : Str) ∈ ns)
def NamesOk (m : Nat) (ns : List Str) : Prop := ns.length = m ∧ (∀ z ∈ ns, nameS z = true) ∧ ns.Nodup ∧ FreshN ns
theorem range_take {α : Type} (f : Nat → α) {m n : Nat} (h : m ≤ n) : (List.range m).map f = ((List.range n).map f).take m := by
  rw [← List.map_take, List.take_range, Nat.min_eq_left h]
theorem nodup_take {α : Type} {l : List α} {m : Nat} (h : l.Nodup) : (l.take m).Nodup := h.sublist (List.take_sublist m l)
theorem nodup_of_map {α β : Type} (g : α → β) {l : List α} (h : (l.map g).Nodup) : l.Nodup := (List.pairwise_map.mp h).imp fun z e => z (congrArg g e)
theorem names0 {f m : Nat} (hf : f < 26) (hm : m ≤ 12) : NamesOk m ((List.range m).map fun k => w12.getD ((f + 5 * k) % 12) "") := by
  have a : ∀ f ∈ List.range 26, ((List.range 12).map fun k => (f + 5 * k) % 12).Nodup := by decide +kernel
  have w : ∀ z ∈ w12, nameS z = true := by decide +kernel
  have wn : w12.Nodup := by decide +kernel
  have fr : FreshN ((List.range m).map fun k => w12.getD ((f + 5 * k) % 12) "") := fun ⟨hb, _⟩ => by
    obtain ⟨k, _, e⟩ := List.mem_map.mp hb
    have al : ∀ j ∈ List.range 12, w12.getD j "" ≠ "b" := by decide +kernel
    exact al ((f + 5 * k) % 12) (List.mem_range.mpr (Nat.mod_lt _ (by decide))) e
  refine ⟨by simp, fun z hz => ?_, ?_, fr⟩
  · obtain ⟨k, _, rfl⟩ := List.mem_map.mp hz
    have hk : (f + 5 * k) % 12 < w12.length := Nat.mod_lt _ (by decide)
    rw [List.getD_eq_getElem?_getD, List.getElem?_eq_getElem hk]
    exact w _ (List.getElem_mem hk)
  · have e : ((List.range m).map fun k => w12.getD ((f + 5 * k) % 12) "") = ((List.range m).map fun k => (f + 5 * k) % 12).map (fun j => w12.getD j "") := by rw [List.map_map]; rfl
    rw [e]
    have n1 : ((List.range m).map fun k => (f + 5 * k) % 12).Nodup := by
      rw [range_take _ hm]
      exact nodup_take (a f (List.mem_range.mpr hf))
    refine List.pairwise_map.mpr (n1.imp_of_mem fun {i j} hi hj ne e => ne ?_)
    obtain ⟨k1, _, rfl⟩ := List.mem_map.mp hi
    obtain ⟨k2, _, rfl⟩ := List.mem_map.mp hj
    have h1 : (f + 5 * k1) % 12 < w12.length := Nat.mod_lt _ (by decide)
    have h2 : (f + 5 * k2) % 12 < w12.length := Nat.mod_lt _ (by decide)
    rw [List.getD_eq_getElem?_getD, List.getD_eq_getElem?_getD, List.getElem?_eq_getElem h1, List.getElem?_eq_getElem h2] at e
    exact (List.getElem_inj wn).mp e
def Small (l : List Nat) : Prop := ∀ c ∈ l, 97 ≤ c ∧ c ≤ 122
theorem nameS_of {l : List Nat} (h : Small l) (h1 : 1 ≤ l.length) (h2 : l.length ≤ 8) : nameS ⟨l.toArray⟩ = true := by
  unfold nameS
  rw [len_tl, tl_mk, decide_eq_true h1, decide_eq_true h2]
  show smallS _ = true
  unfold smallS
  rw [List.all_eq_true]
  intro c hc
  have := h c hc
  rw [decide_eq_true this.1, decide_eq_true this.2]
  rfl
theorem names1 {st : List Nat} {f m : Nat} (hs : Small st) (h8 : st.length = 8) (hf : f < 26) (hm : m ≤ 8) : NamesOk m ((List.range m).map fun k => ⟨(st.take (1 + (f + 3 * k) % 8)).toArray⟩) := by
  have a : ∀ f ∈ List.range 26, ((List.range 8).map fun k => 1 + (f + 3 * k) % 8).Nodup := by decide +kernel
  have fr : FreshN ((List.range m).map fun k => (⟨(st.take (1 + (f + 3 * k) % 8)).toArray⟩ : Str)) := fun ⟨hb, hz⟩ => by
    obtain ⟨k, _, e⟩ := List.mem_map.mp hb
    obtain ⟨k2, _, e2⟩ := List.mem_map.mp hz
    have e := congrArg tl e
    have e2 := congrArg tl e2
    rw [tl_mk, show tl ("b" : Str) = [98] by decide +kernel] at e
    rw [tl_mk, show tl ("zz" : Str) = [122, 122] by decide +kernel] at e2
    cases st with
    | nil => simp at e
    | cons c r =>
      rw [show 1 + (f + 3 * k) % 8 = (f + 3 * k) % 8 + 1 by omega, List.take_succ_cons] at e
      rw [show 1 + (f + 3 * k2) % 8 = (f + 3 * k2) % 8 + 1 by omega, List.take_succ_cons] at e2
      have h1 := (List.cons.inj e).1
      have h2 := (List.cons.inj e2).1
      omega
  refine ⟨by simp, fun z hz => ?_, nodup_of_map (fun z : Str => z.length) ?_, fr⟩
  · obtain ⟨k, _, rfl⟩ := List.mem_map.mp hz
    exact nameS_of (fun c hc => hs c (List.mem_of_mem_take hc)) (by rw [List.length_take]; omega) (by rw [List.length_take]; omega)
  · rw [List.map_map]
    have e : ((List.range m).map ((fun z : Str => z.length) ∘ fun k => ⟨(st.take (1 + (f + 3 * k) % 8)).toArray⟩)) = (List.range m).map fun k => 1 + (f + 3 * k) % 8 := by
      refine List.map_congr_left fun k _ => ?_
      show Str.length _ = _
      rw [len_tl, tl_mk, List.length_take, h8]
      omega
    rw [e, range_take _ hm]
    exact nodup_take (a f (List.mem_range.mpr hf))
theorem names2 {st : List Nat} {f m at_ : Nat} (hs : Small st) (h8 : st.length = 8) (ha : at_ < 8) (hf : f < 26) (hm : m ≤ 12) :
    NamesOk m ((List.range m).map fun k => ⟨(st.take at_ ++ [97 + (f + 7 * k) % 26] ++ (st.drop at_).take (7 - (f + k) % 2 - at_)).toArray⟩) := by
  have a : ∀ f ∈ List.range 26, ((List.range 12).map fun k => 97 + (f + 7 * k) % 26).Nodup := by decide +kernel
  have fr : FreshN ((List.range m).map fun k => (⟨(st.take at_ ++ [97 + (f + 7 * k) % 26] ++ (st.drop at_).take (7 - (f + k) % 2 - at_)).toArray⟩ : Str)) := fun ⟨hb, _⟩ => by
    obtain ⟨k, _, e⟩ := List.mem_map.mp hb
    have e := congrArg (fun z : Str => (tl z).length) e
    rw [tl_mk, show (tl ("b" : Str)).length = 1 by decide +kernel] at e
    simp only [List.length_append, List.length_take, List.length_drop, List.length_singleton] at e
    omega
  refine ⟨by simp, fun z hz => ?_, nodup_of_map (fun z : Str => (tl z).getD at_ 0) ?_, fr⟩
  · obtain ⟨k, _, rfl⟩ := List.mem_map.mp hz
    refine nameS_of (fun c hc => ?_) (by simp; omega) (by simp only [List.length_append, List.length_take, List.length_drop, List.length_singleton]; omega)
    rcases List.mem_append.mp hc with hc | hc
    · rcases List.mem_append.mp hc with hc | hc
      · exact hs c (List.mem_of_mem_take hc)
      · rw [List.mem_singleton.mp hc]
        omega
    · exact hs c (List.mem_of_mem_drop (List.mem_of_mem_take hc))
  · rw [List.map_map]
    have e : ((List.range m).map ((fun z : Str => (tl z).getD at_ 0) ∘ fun k => ⟨(st.take at_ ++ [97 + (f + 7 * k) % 26] ++ (st.drop at_).take (7 - (f + k) % 2 - at_)).toArray⟩)) = (List.range m).map fun k => 97 + (f + 7 * k) % 26 := by
      refine List.map_congr_left fun k _ => ?_
      show (tl _).getD at_ 0 = _
      have la : (st.take at_).length = at_ := by rw [List.length_take]; omega
      rw [tl_mk, List.append_assoc, List.getD_eq_getElem?_getD, List.getElem?_append_right (by omega), la, Nat.sub_self]
      rfl
    rw [e, range_take _ hm]
    exact nodup_take (a f (List.mem_range.mpr hf))
/-- a list of names that were drawn -/
def spNames : Sp := fun vs H Q _ => ∃ (b : Addr) (n m : Nat), vs = [.ref b, .int m] ∧ m ≤ 12 ∧ (∃ o, H b = some o ∧ Bag (n + 11) o) ∧
  ∀ H' p ns, Dr b n H H' → NamesOk m ns → p ≠ b → H' p = some (.lst (ns.map V.str)) → Q (.ref p) H'

end TS

namespace TS
open PySem PySem.Spec PyProof.Rows L2 TL

theorem strs_of : ∀ {xs : List V}, (∀ v ∈ xs, ∃ c : Nat, v = .str ⟨#[c]⟩ ∧ 97 ≤ c ∧ c ≤ 122) → ∃ st : List Nat, xs = (st.map fun c => V.str ⟨#[c]⟩) ∧ Small st
  | [], _ => ⟨[], rfl, fun c h => by simp at h⟩
  | x :: r, h => by
    obtain ⟨c, rfl, hc⟩ := h x (by simp)
    obtain ⟨st, rfl, hs⟩ := strs_of fun v hv => h v (List.mem_cons_of_mem _ hv)
    refine ⟨c :: st, rfl, fun d hd => ?_⟩
    rcases List.mem_cons.mp hd with e | m
    · rw [e]; exact hc
    · exact hs d m
theorem joinL_signs : ∀ st : List Nat, joinL [] (st.map fun c => [c]) = st
  | [] => rfl
  | [c] => rfl
  | c :: d :: r => by
    show [c] ++ ([] ++ joinL [] ((d :: r).map fun c => [c])) = _
    rw [joinL_signs (d :: r)]
    rfl
theorem join_signs (st : List Nat) : Txt.join "" (st.map fun c => (⟨#[c]⟩ : Str)) = ⟨st.toArray⟩ := by
  rw [join_eq]
  refine ext_tl ?_
  rw [tl_join, List.map_map]
  have e : tl ("" : Str) = [] := by decide +kernel
  rw [e]
  show joinL [] (st.map fun c => [c]) = _
  rw [joinL_signs]
theorem sum_len : ∀ {ws : List Str} {k : Nat}, (∀ z ∈ ws, z.length ≤ k) → (ws.map (·.length)).sum ≤ ws.length * k
  | [], _, _ => by simp
  | w :: r, k, h => by
    have ih := sum_len (ws := r) (k := k) fun z hz => h z (List.mem_cons_of_mem _ hz)
    have := h w (by simp)
    simp only [List.map_cons, List.sum_cons, List.length_cons, Nat.succ_mul]
    omega
theorem andR {b : Bool} {R T : Prop} (h : R) (k : b = true → R → T) : if b = true then T else R := by
  cases b
  · exact iteF h
  · exact iteT (k rfl h)
theorem cut_to {l : List Nat} {k : Nat} (h : k ≤ l.length) : cutS ⟨l.toArray⟩ none (some (k : Int)) = ⟨(l.take k).toArray⟩ := by
  unfold cutS
  have e : (⟨l.toArray⟩ : Str).length = l.length := by rw [len_tl, tl_mk]
  rw [e, HT.sIx_none, HT.sIx_nat, Nat.min_eq_left h, Nat.sub_zero, List.drop_zero]
theorem cut_in {l : List Nat} {j k : Nat} (hj : j ≤ l.length) (hk : k ≤ l.length) : cutS ⟨l.toArray⟩ (some (j : Int)) (some (k : Int)) = ⟨((l.drop j).take (k - j)).toArray⟩ := by
  unfold cutS
  have e : (⟨l.toArray⟩ : Str).length = l.length := by rw [len_tl, tl_mk]
  rw [e, HT.sIx_nat, HT.sIx_nat, Nat.min_eq_left hj, Nat.min_eq_left hk]
theorem str_add (l k : List Nat) : (⟨l.toArray⟩ : Str) ++ (⟨k.toArray⟩ : Str) = ⟨(l ++ k).toArray⟩ := by
  refine ext_tl ?_
  rw [tl_append, tl_mk, tl_mk, tl_mk]
section
variable {P : Program} {w : World} {K : PySem.W.Frag} {mg : Str → Option Value} {base : Heap}
abbrev s__law_names : Stmt := top 20
theorem sc__law_names : FnScope ["_law_box_here", "_law_many", "_law_letters_here", "_law_words", "_law_way", "_law_first", "_law_stem", "_law_at", "_law_found", "_law_k", "_law_sign"] ["_law_box_here", "_law_many"] (defScope s__law_names) := ⟨rfl, rfl, rfl, by decide +kernel, rfl, by decide +kernel, by decide +kernel⟩

set_option maxHeartbeats 1000000 in
theorem ok_names (bt : Bt mg) (p__law_take : Prom P w K mg base 1 "_law_take" ["_law_box_here", "_law_many"] spTake) (D : Def K mg "_law_names" s__law_names) : Prom P w K mg base 2 "_law_names" ["_law_box_here", "_law_many"] spNames := by
  refine prom_mk D sc__law_names (fun vs H Q E h => ?_) (fun _ _ _ _ _ _ us hl => match us, hl with | [_, _], _ => rfl) (fun f cdv A outer s H vs Q E hr h => ?_)
  · obtain ⟨b, n, m, rfl, _⟩ := h
    rfl
  · obtain ⟨b, n, m, rfl, hm, hb, q⟩ := h
    refine ⟨_, (pss_cons (ps_set (i := 2) sc__law_names.nd rfl (Or.inr rfl) pe_str)
      (pss_cons (ps_set (i := 3) sc__law_names.nd rfl (Or.inr rfl) (pe_split pe_str pe_str))
      (pss_cons (ps_set (i := 4) sc__law_names.nd rfl (Or.inl rfl) (pe_pc p__law_take (hr.mono (by decide)) rfl (pa_cons (pv 0) (pa_cons pe_int pa_nil))))
      (pss_cons (ps_set (i := 5) sc__law_names.nd rfl (Or.inr rfl) (pe_pc p__law_take (hr.mono (by decide)) rfl (pa_cons (pv 0) (pa_cons pe_int pa_nil))))
      (pss_cons (ps_if (pt_cmpR op_eq (pv 4) pe_int (nomark _)) (pss_one (ps_ret (pe_lc (own := [("_law_k", 9)]) (g := gName 9) rfl sc__law_names.nd (pi_range1 rfl bt.range_ (pa_cons (pv 1) pa_nil)) (blkOk_by (N := ["_law_box_here", "_law_many", "_law_letters_here", "_law_words", "_law_way", "_law_first", "_law_stem", "_law_at", "_law_found", "_law_k", "_law_sign"]) (sc := defScope s__law_names) (by decide +kernel)) (fun _ _ _ _ _ => (pg_name (i := 9) sc__law_names.nd rfl (Or.inl rfl))) (fun _ _ _ _ _ => pts_nil) (fun _ _ _ _ _ => (pe_ix (ix_listK (K := K)) (pv 3) (pe_op op_mod (pe_op op_add (pv 5) (pe_op op_mul pe_int (pv 9))) pe_int) (fun _ _ => rfl)))))) pss_nil)
      (pss_cons (ps_set (i := 6) sc__law_names.nd rfl (Or.inr rfl) (pe_joinK (K := K) rfl pe_str (pe_lc (own := [("_law_k", 9)]) (g := gName 9) rfl sc__law_names.nd (pi_range1 rfl bt.range_ (pa_cons pe_int pa_nil)) (blkOk_by (N := ["_law_box_here", "_law_many", "_law_letters_here", "_law_words", "_law_way", "_law_first", "_law_stem", "_law_at", "_law_found", "_law_k", "_law_sign"]) (sc := defScope s__law_names) (by decide +kernel)) (fun _ _ _ _ _ => (pg_name (i := 9) sc__law_names.nd rfl (Or.inl rfl))) (fun _ _ _ _ _ => pts_nil) (fun _ _ _ _ _ => (pe_ix ix_str (pv 2) (pe_pc p__law_take (hr.mono (by decide)) rfl (pa_cons (pv 0) (pa_cons pe_int pa_nil))) (fun _ _ => rfl))))))
      (pss_cons (ps_if (PW.pt (pw_and (pt_cmpR op_eq (pv 4) pe_int (nomark _)) (pw_and1 (pt_cmpR op_lt (pv 1) pe_int (nomark _))))) (pss_one (ps_ret (pe_lc (own := [("_law_k", 9)]) (g := gName 9) rfl sc__law_names.nd (pi_range1 rfl bt.range_ (pa_cons (pv 1) pa_nil)) (blkOk_by (N := ["_law_box_here", "_law_many", "_law_letters_here", "_law_words", "_law_way", "_law_first", "_law_stem", "_law_at", "_law_found", "_law_k", "_law_sign"]) (sc := defScope s__law_names) (by decide +kernel)) (fun _ _ _ _ _ => (pg_name (i := 9) sc__law_names.nd rfl (Or.inl rfl))) (fun _ _ _ _ _ => pts_nil) (fun _ _ _ _ _ => (pe_slice sl_str (pv 6) po_none (po_some (pe_op op_add pe_int (pe_op op_mod (pe_op op_add (pv 5) (pe_op op_mul pe_int (pv 9))) pe_int)))))))) pss_nil)
      (pss_cons (ps_set (i := 7) sc__law_names.nd rfl (Or.inl rfl) (pe_pc p__law_take (hr.mono (by decide)) rfl (pa_cons (pv 0) (pa_cons pe_int pa_nil))))
      (pss_cons (ps_set (i := 8) sc__law_names.nd rfl (Or.inl rfl) (pe_lst pa_nil))
      (pss_cons (ps_for PassesOwn.never rfl (pi_range1 rfl bt.range_ (pa_cons (pv 1) pa_nil)) (pg_name (i := 9) sc__law_names.nd rfl (Or.inl rfl)) (pss_cons (ps_set (i := 10) sc__law_names.nd rfl (Or.inl rfl) (pe_ix ix_str (pv 2) (pe_op op_mod (pe_op op_add (pv 5) (pe_op op_mul pe_int (pv 9))) pe_int) (fun _ _ => rfl)))
      (pss_one (ps_expr (pe_appendK (K := K) rfl (pv 8) (pe_op op_add_str (pe_op op_add_str (pe_slice sl_str (pv 6) po_none (po_some (pv 7))) (pv 10)) (pe_slice sl_str (pv 6) (po_some (pv 7)) (po_some (pe_op op_sub pe_int (pe_op op_mod (pe_op op_add (pv 5) (pv 9)) pe_int))))))))))
      (pss_one (ps_ret (pv 8))))))))))))), ?_⟩
    refine ⟨⟨_, rfl⟩, _, _, rfl, rfl, by decide +kernel, by decide +kernel, fun W hW => ?_⟩
    have ew : Txt.split "put take ask meets above rule shelf tree f g c n" " " = w12 := by decide +kernel
    rw [ew]
    have d0 : Dr b (n + 11) H (L2.upd H W (.lst (w12.map V.str))) := (Dr.refl hb).new hW
    have nW := (Dr.refl hb).ne hW
    have eW : (L2.upd H W (.lst (w12.map V.str))) W = some (.lst (w12.map V.str)) := upd_same ..
    generalize L2.upd H W (.lst (w12.map V.str)) = H0 at d0 eW ⊢
    refine ⟨_, rfl, b, _, n + 10, 4, rfl, d0.bag.choose_spec.1, d0.bag.choose_spec.2, by decide, by decide +kernel, fun wy o1 w0 w1 g1 => ?_⟩
    have d1 := Dr.draw (H := H0) (b := b) g1
    generalize L2.upd H0 b o1 = H1 at d1 ⊢
    refine ⟨_, rfl, b, _, n + 9, 26, rfl, d1.bag.choose_spec.1, d1.bag.choose_spec.2, by decide, by decide +kernel, fun fi o2 f0 f1 g2 => ?_⟩
    have d2 := Dr.draw (H := H1) (b := b) g2
    generalize L2.upd H1 b o2 = H2 at d2 ⊢
    obtain ⟨fn, rfl⟩ : ∃ k : Nat, fi = k := ⟨fi.toNat, by omega⟩
    have hfn : fn < 26 := by omega
    have D2 := d0.trans (d1.trans d2)
    have eW2 := (d1.trans d2).at nW eW
    refine ⟨_, rfl, rfl, _, rfl, ite2 (fun c => ?_) (fun c => ?_)⟩
    · refine ⟨_, rfl, _, rfl, by omega, by omega, fun L hL => ?_⟩
      refine lc_sameF walk_range (fun _ _ => trivial) (by omega) hL (fun k => .str (w12.getD ((fn + 5 * k) % 12) "")) (fun _ => rfl) (fun i H3 C hi s3 k => ?_) (fun H3 s3 e3 => ?_)
      · have hk : (fn + 5 * i) % 12 < w12.length := Nat.mod_lt _ (by decide)
        refine ⟨_, rfl, _, rfl, _, rfl, _, _, rfl, rfl, .inl ⟨by decide, by decide⟩, _, _, rfl, rfl, _, _, rfl, rfl, (by show (0 : Int) < 12; decide), W, _, _, _, rfl, rfl, .inl (.inl (s3 _ _ eW2)), ?_, k _ (Same.refl _)⟩
        rw [show ((fn : Int) + 5 * (0 + (i : Int))) % 12 = (((fn + 5 * i) % 12 : Nat) : Int) by omega]
        refine atI_nat ?_
        rw [List.getElem?_map, List.getD_eq_getElem?_getD, List.getElem?_eq_getElem hk]
        rfl
      · rw [Int.toNat_natCast] at e3
        refine q H3 L ((List.range m).map fun k => w12.getD ((fn + 5 * k) % 12) "") ((D2.trans (Dr.same s3 D2.bag)).mono (by omega)) (names0 hfn hm) (D2.ne hL) ?_
        rw [e3, List.map_map]
        rfl
    · refine ⟨⟨_, rfl⟩, _, rfl, by decide, by decide, fun L hL => ?_⟩
      refine lc_draw (k := 1) (N := n + 1) walk_range (fun _ _ v => ∃ c : Nat, v = .str ⟨#[c]⟩ ∧ 97 ≤ c ∧ c ≤ 122) (fun _ _ _ _ _ h => h) (fun _ _ => trivial) (by decide) hL D2.bag (fun _ => rfl) (fun i k H3 C hi fx hb3 hD3 kk => ?_) (fun H3 xs d3 hl hx e3 neL => ?_)
      · refine ⟨_, rfl, _, rfl, b, _, k, 26, rfl, hb3.choose_spec.1, hb3.choose_spec.2, by decide, by decide +kernel, fun c o3 c0 c1 g3 => ?_⟩
        have d3 := Dr.draw (H := H3) (b := b) g3
        generalize L2.upd H3 b o3 = H4 at d3 ⊢
        have cc : (SMALLs.cps.toList)[c.toNat]? = some (97 + c.toNat) := (by decide +kernel : ∀ j ∈ List.range 26, (SMALLs.cps.toList)[j]? = some (97 + j)) _ (List.mem_range.mpr (by omega))
        have at_ := atI_nat cc
        rw [show ((c.toNat : Nat) : Int) = c by omega] at at_
        exact ⟨_, _, _, rfl, rfl, by decide +kernel, at_, kk _ H4 ⟨_, rfl, by omega, by omega⟩ d3⟩
      · have stx : ∃ st : List Nat, xs = (st.map fun c => V.str ⟨#[c]⟩) ∧ Small st := by
          refine strs_of fun v hv => ?_
          obtain ⟨i, hi⟩ := List.mem_iff_getElem?.mp hv
          obtain ⟨c, e, h⟩ := hx i v hi
          exact ⟨c, e, h⟩
        obtain ⟨st, rfl, hst⟩ := stx
        have h8 : st.length = 8 := by rw [List.length_map] at hl; exact hl
        have ej : Txt.join "" (st.map fun c => (⟨#[c]⟩ : Str)) = ⟨st.toArray⟩ := join_signs st
        refine ⟨_, L, st.map fun c => ⟨#[c]⟩, rfl, rfl, .inl (.inl (.inl (by rw [e3, List.map_map]; rfl))), ?_, ?_⟩
        · have : ((st.map fun c => (⟨#[c]⟩ : Str)).map (·.length)).sum ≤ (st.map fun c => (⟨#[c]⟩ : Str)).length * 1 := sum_len fun z hz => by
            obtain ⟨c, _, rfl⟩ := List.mem_map.mp hz
            exact Nat.le_refl 1
          have e0 : ("" : Str).length = 0 := by decide +kernel
          rw [e0]
          rw [List.length_map] at this
          omega
        · rw [ej]
          have D3 := D2.trans d3
          by_cases hh : wy = 1 ∧ m < 9
          · refine ⟨_, rfl, rfl, _, rfl, iteT' (by rw [eqV_int]; exact decide_eq_true hh.1) ⟨_, rfl, _, _, rfl, rfl, _, rfl, iteT' (decide_eq_true (by omega)) ?_⟩⟩
            refine ⟨_, rfl, _, rfl, by omega, by omega, fun L2 hL2 => ?_⟩
            refine lc_sameF walk_range (fun _ _ => trivial) (by omega) hL2 (fun k => .str ⟨(st.take (1 + (fn + 3 * k) % 8)).toArray⟩) (fun _ => rfl) (fun i H4 C hi s4 k => ?_) (fun H4 s4 e4 => ?_)
            · refine ⟨_, rfl, _, rfl, _, rfl, _, _, rfl, rfl, .inl ⟨by decide, by decide⟩, _, _, rfl, rfl, _, _, rfl, rfl, (by show (0 : Int) < 8; decide), _, _, rfl, rfl, _, rfl, _, rfl, ?_, ?_⟩
              · rw [len_tl, tl_mk, h8]; decide
              · rw [show (1 : Int) + ((fn : Int) + 3 * (0 + (i : Int))) % 8 = ((1 + (fn + 3 * i) % 8 : Nat) : Int) by omega, cut_to (by rw [h8]; omega)]
                exact k _ (Same.refl _)
            · rw [Int.toNat_natCast] at e4
              refine q H4 L2 ((List.range m).map fun k => ⟨(st.take (1 + (fn + 3 * k) % 8)).toArray⟩) ((D3.trans (Dr.same s4 D3.bag)).mono (by omega)) (names1 hst h8 hfn (by omega)) (D3.ne hL2) ?_
              rw [e4, List.map_map]
              rfl
          · refine ⟨_, rfl, rfl, _, rfl, andR ?_ fun c1 r => ⟨_, rfl, _, _, rfl, rfl, _, rfl, iteF' (decide_eq_false fun z => hh ⟨?_, by omega⟩) r⟩⟩
            · refine ⟨_, rfl, b, _, n, 8, rfl, D3.bag.choose_spec.1, D3.bag.choose_spec.2, by decide, by decide +kernel, fun at_ o4 a0 a1 g4 => ?_⟩
              have d4 := Dr.draw (H := H3) (b := b) g4
              generalize L2.upd H3 b o4 = H4 at d4 ⊢
              obtain ⟨an, rfl⟩ : ∃ k : Nat, at_ = k := ⟨at_.toNat, by omega⟩
              have D4 := D3.trans d4
              refine ⟨(by show 0 ≤ sizeLine; decide), fun F hF => ?_⟩
              have nF := D4.ne hF
              refine ⟨_, rfl, _, rfl, by omega, by omega, for_it walk_range (fun i τ G => (∃ y1 y2, τ = [some (.ref b), some (.int m), some (.str SMALLs), some (.ref W), some (.int wy), some (.int fn), some (.str ⟨st.toArray⟩), some (.int an), some (.ref F), y1, y2]) ∧
                Dr b n H4 G ∧ G F = some (.lst ((List.range i).map fun k => V.str ⟨(st.take an ++ [97 + (fn + 7 * k) % 26] ++ (st.drop an).take (7 - (fn + k) % 2 - an)).toArray⟩))) ⟨⟨_, _, rfl⟩, .same (Same.new (Same.refl _) hF) d4.bag, upd_same ..⟩ (fun _ _ _ _ _ => trivial) ?_ ?_⟩
              · rintro i x τ G1 G2 hi ⟨⟨y1, y2, rfl⟩, dG, eF⟩ ⟨rfl, rfl⟩
                have cc : (SMALLs.cps.toList)[(fn + 7 * i) % 26]? = some (97 + (fn + 7 * i) % 26) := (by decide +kernel : ∀ j ∈ List.range 26, (SMALLs.cps.toList)[j]? = some (97 + j)) _ (List.mem_range.mpr (by omega))
                have at_ := atI_nat cc
                rw [show (((fn + 7 * i) % 26 : Nat) : Int) = ((fn : Int) + 7 * (0 + (i : Int))) % 26 by omega] at at_
                refine ⟨_, rfl, _, rfl, _, rfl, _, _, rfl, rfl, .inl ⟨by decide, by decide⟩, _, _, rfl, rfl, _, _, rfl, rfl, (by show (0 : Int) < 26; decide), _, _, _, rfl, rfl, by decide +kernel, at_, ?_⟩
                have l8 : (⟨st.toArray⟩ : Str).length = 8 := by rw [len_tl, tl_mk, h8]
                refine ⟨_, rfl, .inl ⟨rfl, _, .inl (.inl eF)⟩, _, rfl, _, rfl, _, rfl, _, rfl, (by rw [l8]; decide), _, rfl, _, _, rfl, rfl, ?_, _, rfl, _, rfl, _, rfl, _, rfl, _, rfl, _, _, rfl, rfl, _, _, rfl, rfl, (by show (0 : Int) < 2; decide), _, _, rfl, rfl, _, rfl, _, rfl, (by rw [l8]; decide), _, _, rfl, rfl, ?_, ?_⟩
                · rw [cut_to (by rw [h8]; omega), len_tl, tl_mk]
                  refine sz5 ?_
                  have : (⟨#[97 + (fn + 7 * i) % 26]⟩ : Str).length = 1 := rfl
                  rw [this, List.length_take]
                  omega
                · rw [cut_to (by rw [h8]; omega), show (7 : Int) - ((fn : Int) + (0 + (i : Int))) % 2 = ((7 - (fn + i) % 2 : Nat) : Int) by omega, cut_in (by rw [h8]; omega) (by rw [h8]; omega), show (⟨#[97 + (fn + 7 * i) % 26]⟩ : Str) = ⟨[97 + (fn + 7 * i) % 26].toArray⟩ from rfl, str_add, len_tl, len_tl, tl_mk, tl_mk]
                  refine sz5 ?_
                  simp only [List.length_append, List.length_take, List.length_drop, List.length_singleton]
                  omega
                · rw [cut_to (by rw [h8]; omega), show (7 : Int) - ((fn : Int) + (0 + (i : Int))) % 2 = ((7 - (fn + i) % 2 : Nat) : Int) by omega, cut_in (by rw [h8]; omega) (by rw [h8]; omega), show (⟨#[97 + (fn + 7 * i) % 26]⟩ : Str) = ⟨[97 + (fn + 7 * i) % 26].toArray⟩ from rfl, str_add, str_add]
                  refine ⟨F, _, _, rfl, rfl, eF, ?_, ⟨_, _, rfl⟩, ?_, ?_⟩
                  · rw [List.length_map, List.length_range]
                    exact sz5' (by omega)
                  · refine ⟨fun a o ha e => ?_, ?_⟩
                    · rw [upd_ne (ne_of_none e hF)]
                      exact dG.fx a o ha e
                    · obtain ⟨o, e, g⟩ := dG.bag
                      exact ⟨o, by rw [upd_ne nF.symm]; exact e, g⟩
                  · rw [upd_same, List.range_succ, List.map_append]
                    rfl
              · rintro τ G ⟨⟨y1, y2, rfl⟩, dG, eF⟩
                rw [Int.toNat_natCast] at eF
                refine ⟨_, rfl, q G F ((List.range m).map fun k => ⟨(st.take an ++ [97 + (fn + 7 * k) % 26] ++ (st.drop an).take (7 - (fn + k) % 2 - an)).toArray⟩) (D4.trans dG) (names2 hst h8 (by omega) hfn hm) nF ?_⟩
                rw [eF, List.map_map]
                rfl
            · rw [eqV_int] at c1
              exact of_decide_eq_true c1
end

end TS

namespace TS
open PySem PySem.Spec PyProof.Rows L2 TL

/-! ### rows, drawn -/
def rowPy (r : Str × Int) : PyData := .tuple [.str r.1, .int r.2]
structure RowsOk (rows : List (Str × Int)) : Prop where
  some_ : 1 ≤ rows.length
  few : rows.length ≤ 12
  names : ∀ r ∈ rows, nameS r.1 = true
  nd : (rows.map (·.1)).Nodup
  lo : ∀ r ∈ rows, 0 ≤ r.2
  hi : ∀ r ∈ rows, r.2 ≤ 4
/-- rows that were drawn -/
def spDRows (K : PySem.W.Frag) : Sp := fun vs H Q _ => ∃ (b : Addr) (n : Nat), vs = [.ref b] ∧ (∃ o, H b = some o ∧ Bag (n + 26) o) ∧
  ∀ H' p rows, Dr b n H H' → RowsOk rows → FreshN (rows.map (·.1)) → H p = none → (∃ xs, H' p = some (.lst xs) ∧ DtAll K (hide H' b) xs (rows.map rowPy)) → p ≠ b → Dt K (hide H' b) (.ref p) (.list (rows.map rowPy)) → Q (.ref p) H'
theorem rows_of {K : PySem.W.Frag} {G : Hp} : ∀ (ns : List Str) (xs : List V), xs.length = ns.length → (∀ (i : Nat) (v : V), xs[i]? = some v → ∃ p : Int, 0 ≤ p ∧ p ≤ 4 ∧ Dt K G v (rowPy (ns.getD i "", p))) →
    ∃ rows : List (Str × Int), rows.map (·.1) = ns ∧ (∀ r ∈ rows, 0 ≤ r.2 ∧ r.2 ≤ 4) ∧ DtAll K G xs (rows.map rowPy)
  | [], [], _, _ => ⟨[], rfl, fun r h => by simp at h, .nil⟩
  | z :: ns, x :: xs, hl, h => by
    obtain ⟨p, h0, h1, h2⟩ := h 0 x rfl
    obtain ⟨rows, e, a, d⟩ := rows_of (K := K) (G := G) ns xs (by simpa using hl) fun i v hv => h (i + 1) v (by simpa using hv)
    refine ⟨(z, p) :: rows, by rw [List.map_cons, e], fun r hr => ?_, .cons h2 d⟩
    rcases List.mem_cons.mp hr with e | m
    · rw [e]; exact ⟨h0, h1⟩
    · exact a r m
section
variable {P : Program} {w : World} {K : PySem.W.Frag} {mg : Str → Option Value} {base : Heap}
abbrev s__law_rows : Stmt := top 21
theorem sc__law_rows : FnScope ["_law_box_here", "_law_many", "_law_name"] ["_law_box_here"] (defScope s__law_rows) := ⟨rfl, rfl, rfl, by decide +kernel, rfl, by decide +kernel, by decide +kernel⟩

set_option maxHeartbeats 1000000 in
theorem ok_drows (bt : Bt mg) (p__law_take : Prom P w K mg base 1 "_law_take" ["_law_box_here", "_law_many"] spTake) (p__law_names : Prom P w K mg base 2 "_law_names" ["_law_box_here", "_law_many"] spNames) (D : Def K mg "_law_rows" s__law_rows) :
    Prom P w K mg base 3 "_law_rows" ["_law_box_here"] (spDRows K) := by
  refine prom_mk D sc__law_rows (fun vs H Q E h => ?_) (fun _ _ _ _ _ _ us hl => match us, hl with | [_], _ => rfl) (fun f cdv A outer s H vs Q E hr h => ?_)
  · obtain ⟨b, n, rfl, _⟩ := h
    rfl
  · obtain ⟨b, n, rfl, hb, q⟩ := h
    refine ⟨_, (pss_cons (ps_set (i := 1) sc__law_rows.nd rfl (Or.inl rfl) (pe_ix (ix_listK (K := K)) (pe_lst (pa_cons (pe_op op_add pe_int (pe_pc p__law_take (hr.mono (by decide)) rfl (pa_cons (pv 0) (pa_cons pe_int pa_nil)))) (pa_cons (pe_op op_add pe_int (pe_pc p__law_take (hr.mono (by decide)) rfl (pa_cons (pv 0) (pa_cons pe_int pa_nil)))) pa_nil))) (pe_pc p__law_take (hr.mono (by decide)) rfl (pa_cons (pv 0) (pa_cons pe_int pa_nil))) (fun _ _ => rfl)))
      (pss_one (ps_ret (pe_lc (own := [("_law_name", 2)]) (g := gName 2) rfl sc__law_rows.nd (pi_listK (K := K) rfl (pe_pc p__law_names (hr.mono (by decide)) rfl (pa_cons (pv 0) (pa_cons (pv 1) pa_nil)))) (blkOk_by (N := ["_law_box_here", "_law_many", "_law_name"]) (sc := defScope s__law_rows) (by decide +kernel)) (fun _ _ _ _ _ => (pg_name (i := 2) sc__law_rows.nd rfl (Or.inl rfl))) (fun _ _ _ _ _ => pts_nil) (fun _ _ _ _ _ => (pe_tup (pa_cons (pv 2) (pa_cons (pe_ix (ix_listK (K := K)) (pe_lst (pa_cons pe_int (pa_cons pe_int (pa_cons pe_int (pa_cons pe_int (pa_cons pe_int (pa_cons pe_int pa_nil))))))) (pe_pc p__law_take (hr.mono (by decide)) rfl (pa_cons (pv 0) (pa_cons pe_int pa_nil))) (fun _ _ => rfl)) pa_nil)))))))), ?_⟩
    refine ⟨_, rfl, b, _, n + 25, 4, rfl, hb.choose_spec.1, hb.choose_spec.2, by decide, by decide +kernel, fun x1 o1 l1 u1 g1 => ?_⟩
    have d1 := Dr.draw (H := H) (b := b) g1
    generalize L2.upd H b o1 = H1 at d1 ⊢
    refine ⟨_, _, rfl, rfl, _, rfl, b, _, n + 24, 12, rfl, d1.bag.choose_spec.1, d1.bag.choose_spec.2, by decide, by decide +kernel, fun x2 o2 l2 u2 g2 => ?_⟩
    have d2 := Dr.draw (H := H1) (b := b) g2
    generalize L2.upd H1 b o2 = H2 at d2 ⊢
    refine ⟨_, _, rfl, rfl, (by show 2 ≤ sizeLine; decide), fun L hL => ?_⟩
    have d3 : Dr b (n + 24) H2 (L2.upd H2 L (.lst [.int (1 + x1), .int (1 + x2)])) := (Dr.refl d2.bag).new hL
    have nL := d2.ne hL
    have eL : (L2.upd H2 L (.lst [.int (1 + x1), .int (1 + x2)])) L = some (.lst [.int (1 + x1), .int (1 + x2)]) := upd_same ..
    generalize L2.upd H2 L (.lst [.int (1 + x1), .int (1 + x2)]) = H3 at d3 eL ⊢
    refine ⟨_, rfl, b, _, n + 23, 2, rfl, d3.bag.choose_spec.1, d3.bag.choose_spec.2, by decide, by decide +kernel, fun x3 o3 l3 u3 g3 => ?_⟩
    have d4 := Dr.draw (H := H3) (b := b) g3
    generalize L2.upd H3 b o3 = H4 at d4 ⊢
    obtain ⟨mv, hmv, hmem⟩ := atI_in (xs := [V.int (1 + x1), .int (1 + x2)]) l3 u3
    obtain ⟨m, rfl, hm1, hm2⟩ : ∃ m : Nat, mv = .int m ∧ 1 ≤ m ∧ m ≤ 12 := by
      rcases List.mem_cons.mp hmem with rfl | hmem
      · exact ⟨(1 + x1).toNat, by rw [show (((1 + x1).toNat : Nat) : Int) = 1 + x1 by omega], by omega, by omega⟩
      · rw [List.mem_singleton.mp hmem]
        exact ⟨(1 + x2).toNat, by rw [show (((1 + x2).toNat : Nat) : Int) = 1 + x2 by omega], by omega, by omega⟩
    refine ⟨L, _, _, _, rfl, rfl, .inl (.inl (d4.at nL eL)), hmv, ?_⟩
    have D4 := d1.trans (d2.trans (d3.trans d4))
    refine ⟨_, rfl, _, rfl, b, n + 12, m, rfl, hm2, D4.bag, fun H5 p ns d5 hns np ep => ?_⟩
    have D5 := D4.trans d5
    refine ⟨p, rfl, ⟨_, .inl (.inl ep)⟩, fun R hR => ?_⟩
    have hl : (ns.map V.str).length = m := by rw [List.length_map]; exact hns.1
    refine lc_draw (k := 1) (N := n + 12 - m) (walk_at walk_list) (fun i G v => ∃ p : Int, 0 ≤ p ∧ p ≤ 4 ∧ Dt K G v (rowPy (ns.getD i "", p))) (fun i G G' v s h => let ⟨p, h0, h1, h2⟩ := h; ⟨p, h0, h1, Dt.same s h2⟩)
      (fun G fx => fx.sq np (.inl (.inl ep))) (by rw [hl]; omega) hR (by rw [hl, show n + 12 - m + 1 * m = n + 12 by omega]; exact D5.bag) (fun _ => rfl) (fun i k G C hi fx hb3 hD3 kk => ?_) (fun G xs dG hlx hx eR neR => ?_)
    · have hni : i < ns.length := by rw [List.length_map] at hl hi; omega
      have ei : (ns.map V.str).getD i .non = .str (ns.getD i "") := by
        rw [List.getD_eq_getElem?_getD, List.getD_eq_getElem?_getD, List.getElem?_map, List.getElem?_eq_getElem hni]
        rfl
      rw [ei]
      refine ⟨_, rfl, (by show 6 ≤ sizeLine; decide), fun pl hpl => ?_⟩
      have e1 : Dr b (k + 1) G (L2.upd G pl (.lst [.int 0, .int 1, .int 2, .int 2, .int 3, .int 4])) := (Dr.refl hb3).new hpl
      have npl := (Dr.refl hb3).ne hpl
      have epl : (L2.upd G pl (.lst [.int 0, .int 1, .int 2, .int 2, .int 3, .int 4])) pl = some (.lst [.int 0, .int 1, .int 2, .int 2, .int 3, .int 4]) := upd_same ..
      generalize L2.upd G pl (.lst [.int 0, .int 1, .int 2, .int 2, .int 3, .int 4]) = G1 at e1 epl ⊢
      refine ⟨_, rfl, b, _, k, 6, rfl, e1.bag.choose_spec.1, e1.bag.choose_spec.2, by decide, by decide +kernel, fun x o4 x0 x1 g4 => ?_⟩
      have e2 := Dr.draw (H := G1) (b := b) g4
      generalize L2.upd G1 b o4 = G2 at e2 ⊢
      obtain ⟨v, hv, hvm⟩ := atI_in (xs := [V.int 0, .int 1, .int 2, .int 2, .int 3, .int 4]) x0 x1
      obtain ⟨pp, rfl, p0, p4⟩ : ∃ pp : Int, v = .int pp ∧ 0 ≤ pp ∧ pp ≤ 4 := by
        simp only [List.mem_cons, List.not_mem_nil, or_false] at hvm
        rcases hvm with rfl | rfl | rfl | rfl | rfl | rfl <;> exact ⟨_, rfl, by decide, by decide⟩
      refine ⟨pl, _, _, _, rfl, rfl, .inl (.inl (e2.at npl epl)), hv, (by show 2 ≤ sizeLine; decide), fun t ht => ?_⟩
      have E2 := e1.trans e2
      refine kk _ _ ⟨pp, p0, p4, .tup (.inl (.inl (hide2_at (E2.ne ht) ?_ (upd_same ..)))) (.cons (.str _) (.cons (.int pp) .nil))⟩ (E2.new ht)
      obtain ⟨oR, eoR⟩ := hD3
      have neR : R ≠ b := D5.ne hR
      have := E2.at neR eoR
      exact fun z => by rw [z, this] at ht; cases ht
    · obtain ⟨rows, er, e1, e2⟩ := rows_of (K := K) (G := hide G b) ns xs (by rw [hlx, List.length_map]) fun i v hv => by
        obtain ⟨p, h0, h1, h2⟩ := hx i v hv
        exact ⟨p, h0, h1, Dt.same hide_same h2⟩
      have len : rows.length = m := by rw [← hns.1, ← er, List.length_map]
      refine q G R rows ((D5.trans dG).mono (by omega)) ⟨by omega, by omega, fun r hr => hns.2.1 _ (by rw [← er]; exact List.mem_map_of_mem hr), by rw [er]; exact hns.2.2.1, fun r hr => (e1 r hr).1, fun r hr => (e1 r hr).2⟩ (by rw [er]; exact hns.2.2.2) (D5.free hR) ⟨_, eR, e2⟩ neR (.lst (.inl (.inl ?_)) e2)
      rw [hide_ne neR]
      exact eR
end

end TS

namespace TS
open PySem PySem.Spec PyProof.Rows L2 TL
/-! ### NotThere; Words: names, told_of, places, place_of, has, ==, str -/
def hasR (rows : List (Str × Int)) : PyData → Bool
  | .str z => decide (z ∈ rows.map (·.1))
  | _ => false
theorem went_none {K : PySem.W.Frag} {G : Hp} {kvs : List (Key × V)} {rows : List (Str × Int)} (h : WEnt K G kvs rows) {z : Str} (hz : z ∉ rows.map (·.1)) : valV kvs (Sum.inr z) = none :=
  valV_none fun kv m e => by
    obtain ⟨i, hi⟩ := List.mem_iff_getElem?.mp m
    have il : i < rows.length := by rw [← h.len]; exact (List.getElem?_eq_some_iff.mp hi).1
    obtain ⟨t, h1, _⟩ := h.at_ i rows[i] (List.getElem?_eq_getElem il)
    rw [hi] at h1
    cases h1
    exact hz (by rw [← Sum.inr.inj e]; exact List.mem_map_of_mem (List.getElem_mem il))
theorem went_some {K : PySem.W.Frag} {G : Hp} {kvs : List (Key × V)} {rows : List (Str × Int)} (h : WEnt K G kvs rows) {z : Str} (hz : z ∈ rows.map (·.1)) : ∃ (t : Addr) (i : Nat) (r : Str × Int), valV kvs (Sum.inr z) = some (.ref t) ∧ rows[i]? = some r ∧ r.1 = z ∧ SqT K G t [.int r.2, .int i] := by
  obtain ⟨r0, hr0, e0⟩ := List.mem_map.mp hz
  cases hf : rows.find? fun r => decide (r.1 = z) with
  | none => exact absurd (List.find?_eq_none.mp hf r0 hr0) (by simp [e0])
  | some r =>
    obtain ⟨hp, i, il, ei, before⟩ := List.find?_eq_some_iff_getElem.mp hf
    obtain ⟨t, h1, h2⟩ := h.at_ i r (by rw [List.getElem?_eq_getElem il, ei])
    have ez : r.1 = z := of_decide_eq_true hp
    refine ⟨t, i, r, ?_, by rw [List.getElem?_eq_getElem il, ei], ez, h2⟩
    unfold valV
    have kl : i < kvs.length := by rw [h.len]; exact il
    have hk : kvs.find? (fun kv => decide (kv.1 = (Sum.inr z : Key))) = some (Sum.inr r.1, .ref t) := by
      refine List.find?_eq_some_iff_getElem.mpr ⟨by rw [ez]; simp, i, kl, ?_, fun j hj => ?_⟩
      · rw [List.getElem?_eq_getElem kl] at h1
        exact Option.some.inj h1
      · have jl : j < rows.length := by omega
        obtain ⟨t2, h3, _⟩ := h.at_ j rows[j] (List.getElem?_eq_getElem jl)
        have jk : j < kvs.length := by rw [h.len]; exact jl
        rw [List.getElem?_eq_getElem jk] at h3
        rw [Option.some.inj h3]
        have := before j hj
        simp only [Bool.not_eq_true', decide_eq_false_iff_not] at this ⊢
        exact fun e => this (Sum.inr.inj e)
    rw [hk]
    rfl
theorem went_keys {K : PySem.W.Frag} {G : Hp} {kvs : List (Key × V)} {rows : List (Str × Int)} (h : WEnt K G kvs rows) : kvs.map (fun kv => kV kv.1) = rows.map fun r => V.str r.1 := by
  refine List.ext_getElem? fun i => ?_
  rw [List.getElem?_map, List.getElem?_map]
  rcases Nat.lt_or_ge i rows.length with il | il
  · obtain ⟨t, h1, _⟩ := h.at_ i rows[i] (List.getElem?_eq_getElem il)
    rw [h1, List.getElem?_eq_getElem il]
    rfl
  · rw [List.getElem?_eq_none il, List.getElem?_eq_none (by rw [h.len]; exact il)]
    rfl
/-- where a name stands: unlike names, so at one place alone -/
theorem at_one {rows : List (Str × Int)} (nd : (rows.map (·.1)).Nodup) {i j : Nat} {r q : Str × Int} (hi : rows[i]? = some r) (hj : rows[j]? = some q) (e : r.1 = q.1) : i = j ∧ r = q := by
  have il := (List.getElem?_eq_some_iff.mp hi).1
  have e2 : (rows.map (·.1))[i]? = (rows.map (·.1))[j]? := by rw [List.getElem?_map, List.getElem?_map, hi, hj, Option.map_some, Option.map_some, e]
  have := (List.getElem?_inj (by rw [List.length_map]; exact il) nd).mp e2
  subst this
  exact ⟨rfl, Option.some.inj (hi.symm.trans hj)⟩
def spWNames (K : PySem.W.Frag) : Sp := fun vs H Q _ => ∃ (a : Addr) (rows : List (Str × Int)), vs = [.ref a] ∧ WordsAt K H a rows ∧ rows.length ≤ 12 ∧ ∀ G p, Same H G → H p = none → G p = some (.lst (rows.map fun r => V.str r.1)) → Q (.ref p) G
def spHas (K : PySem.W.Frag) : Sp := fun vs H Q _ => ∃ (a : Addr) (rows : List (Str × Int)) (x : V) (d : PyData), vs = [.ref a, x] ∧ WordsAt K H a rows ∧ Dt K H x d ∧ Q (.bl (hasR rows d)) H
/-- told_of, places, place_of: f of the row and its place -/
def spToldX (K : PySem.W.Frag) (R : Str × Int → Nat → Hp → VK → Prop) : Sp := fun vs H Q E => ∃ (a : Addr) (rows : List (Str × Int)) (x : V) (d : PyData), vs = [.ref a, x] ∧ WordsAt K H a rows ∧ Dt K H x d ∧
  (∀ z i r, d = .str z → rows[i]? = some r → r.1 = z → R r i H Q) ∧ (hasR rows d = false → ∀ G e, Same H G → H e = none → G e = some (.xd [("found", x)]) → E (.ref (He.ga K "NotThere")) (some e) G)
def spToldOf (K : PySem.W.Frag) : Sp := spToldX K fun r i H Q => ∀ t, SqT K H t [.int r.2, .int (i : Nat)] → Q (.ref t) H
def spPlaces (K : PySem.W.Frag) : Sp := spToldX K fun r _ H Q => Q (.int r.2) H
def spPlaceOf (K : PySem.W.Frag) : Sp := spToldX K fun _ i H Q => Q (.int (i : Nat)) H
section
variable {P : Program} {w : World} {K : PySem.W.Frag} {mg : Str → Option Value} {base : Heap}
abbrev s_NotThere___init__ : Stmt := inClass (top 4) 0
theorem sc_NotThere___init__ : FnScope ["self", "found"] ["self", "found"] (defScope s_NotThere___init__) := ⟨rfl, rfl, rfl, by decide +kernel, rfl, by decide +kernel, by decide +kernel⟩

theorem ok_NotThere_ini (fam_Absent : FamT K (He.ga K "Absent") "KeyError.__init__") (g_Absent : mg "Absent" = some (.ref (He.ga K "Absent"))) (x_NotThere : OwnT K (He.ga K "NotThere") "found" "LookupError.__new__" keyT) (D : DefM K (He.ma K (He.ga K "NotThere") "__init__") "__init__" "NotThere.__init__" s_NotThere___init__) :
    PromA CX0 P w K mg base 1 (He.ma K (He.ga K "NotThere") "__init__") ["self", "found"] (spIni (He.ga K "NotThere") "found") := by
  refine meth_mk D sc_NotThere___init__ (fun vs H Q E h => ?_) (fun _ _ _ _ _ _ us hl => match us, hl with | [_, _], _ => rfl) (fun cdv A outer s H vs Q E hr h => ?_)
  · obtain ⟨a, v, rfl, _⟩ := h
    rfl
  · obtain ⟨a, v, rfl, ha, q⟩ := h
    refine ⟨_, (pss_cons (ps_expr (pe_famInitT bas_Key fam_Absent rfl g_Absent (pa_cons (pv 0) (pa_cons pe_str pa_nil))))
      (pss_one (ps_ostT bas_Key (pv 0) (pv 1)))), ?_⟩
    exact ⟨_, rfl, a, _, _, rfl, by decide, x_NotThere.ox, ha, _, rfl, _, rfl, a, _, rfl, x_NotThere.ox, x_NotThere.no, ha, fun dx h1 h2 => q dx h1 h2⟩
abbrev s_Words_names : Stmt := inClass (top 15) 1
theorem sc_Words_names : FnScope ["self"] ["self"] (defScope s_Words_names) := ⟨rfl, rfl, rfl, by decide +kernel, rfl, by decide +kernel, by decide +kernel⟩

theorem ok_Words_names (bt : Bt mg) (cl : Cls K (wcls K)) (nb : NoAttr K (wcls K) "by_name") (D : DefM K (He.ma K (wcls K) "names") "names" "Words.names" s_Words_names) : PromA CX0 P w K mg base 1 (He.ma K (wcls K) "names") ["self"] (spWNames K) := by
  refine meth_mk D sc_Words_names (fun vs H Q E h => ?_) (fun _ _ _ _ _ _ us hl => match us, hl with | [_], _ => rfl) (fun cdv A outer s H vs Q E hr h => ?_)
  · obtain ⟨a, rows, rfl, _⟩ := h
    rfl
  · obtain ⟨a, rows, rfl, ⟨dx, D, kvs, e1, e2, e3⟩, l12, q⟩ := h
    refine ⟨_, (pss_one (ps_ret (pe_callTy (T := "list") (call_list_dK rfl) (by rfl) bt.list_ (by decide +kernel) (pa_cons (pe_fld (pv 0) rfl) pa_nil)))), ?_⟩
    refine ⟨_, rfl, a, _, dx, _, _, rfl, e1, cl, nb, rfl, D, kvs, rfl, e2, fun p hp => ?_⟩
    exact q _ p (Same.new (Same.refl _) hp) hp (by rw [upd_same, went_keys e3])
abbrev s_Words_has : Stmt := inClass (top 15) 5
theorem sc_Words_has : FnScope ["self", "thing"] ["self", "thing"] (defScope s_Words_has) := ⟨rfl, rfl, rfl, by decide +kernel, rfl, by decide +kernel, by decide +kernel⟩

theorem ok_Words_has (bt : Bt mg) (cl : Cls K (wcls K)) (nb : NoAttr K (wcls K) "by_name") (D : DefM K (He.ma K (wcls K) "has") "has" "Words.has" s_Words_has) : PromA CX0 P w K mg base 1 (He.ma K (wcls K) "has") ["self", "thing"] (spHas K) := by
  refine meth_mk D sc_Words_has (fun vs H Q E h => ?_) (fun _ _ _ _ _ _ us hl => match us, hl with | [_, _], _ => rfl) (fun cdv A outer s H vs Q E hr h => ?_)
  · obtain ⟨a, rows, x, d, rfl, _⟩ := h
    rfl
  · obtain ⟨a, rows, x, d, rfl, ⟨dx, D, kvs, e1, e2, e3⟩, hd, q⟩ := h
    refine ⟨_, (pss_one (ps_ret (pe_and (pe_callB (id := "isinstance") (isiK (K := K)) (by rfl) bt.isinstance_ (by decide +kernel) (pa_cons (pv 1) (pa_cons (pe_bltn (v := .ty "str") rfl bt.str_ (by decide +kernel) rfl) pa_nil))) (pe_one (pe_cmp (pc_din (units1 hr) (pv 1) (pe_fld (pv 0) rfl))))))), ?_⟩
    refine ⟨_, rfl, _, _, _, _, isD "str" d, rfl, .ty "str", hd.ty, isi_str, _, rfl, ?_⟩
    cases c : isD "str" d with
    | false =>
      have e : hasR rows d = false := by
        cases d <;> first | rfl | (rw [isD_strs] at c; cases c)
      rw [e] at q
      exact iteF q
    | true =>
      obtain ⟨z, rfl⟩ := isD_str c
      cases hd
      refine iteT ⟨_, rfl, _, rfl, a, _, dx, _, _, rfl, e1, cl, nb, rfl, D, _, rfl, DGet.k (k := Sum.inr z) e2, ?_⟩
      have e : (valV kvs (Sum.inr z)).isSome = hasR rows (.str z) := by
        show _ = decide (z ∈ rows.map (·.1))
        by_cases hz : z ∈ rows.map (·.1)
        · obtain ⟨t, i, r, h1, _⟩ := went_some e3 hz
          rw [h1, decide_eq_true hz]
          rfl
        · rw [went_none e3 hz, decide_eq_false hz]
          rfl
      rw [e]
      exact q
abbrev s_Words_told_of : Stmt := inClass (top 15) 2
theorem sc_Words_told_of : FnScope ["self", "name"] ["self", "name"] (defScope s_Words_told_of) := ⟨rfl, rfl, rfl, by decide +kernel, rfl, by decide +kernel, by decide +kernel⟩

theorem ok_Words_told (bt : Bt mg) (cl : Cls K (wcls K)) (nb : NoAttr K (wcls K) "by_name") (g_NotThere : mg "NotThere" = some (.ref (He.ga K "NotThere"))) (x_NotThere : OwnT K (He.ga K "NotThere") "found" "LookupError.__new__" keyT)
    (pi_NotThere : PromA CX0 P w K mg base 1 (He.ma K (He.ga K "NotThere") "__init__") ["self", "found"] (spIni (He.ga K "NotThere") "found"))
    (D : DefM K (He.ma K (wcls K) "told_of") "told_of" "Words.told_of" s_Words_told_of) : PromA (L2.CX P w) P w K mg base 3 (He.ma K (wcls K) "told_of") ["self", "name"] (spToldOf K) := by
  refine methX_mk D sc_Words_told_of (fun vs H Q E h => ?_) (fun _ _ _ _ _ _ us hl => match us, hl with | [_, _], _ => rfl) (fun cdv A outer s H vs Q E hr h => ?_)
  · obtain ⟨a, rows, x, d, rfl, _⟩ := h
    rfl
  · obtain ⟨a, rows, x, d, rfl, ⟨dx, D, kvs, e1, e2, e3⟩, hd, q1, q2⟩ := h
    refine ⟨_, (pss_cons (ps_if (PW.pt (pw_or (pt_not (pt_val (pe_callB (id := "isinstance") (isiK (K := K)) (by rfl) bt.isinstance_ (by decide +kernel) (pa_cons (pv 1) (pa_cons (pe_bltn (v := .ty "str") rfl bt.str_ (by decide +kernel) rfl) pa_nil))))) (pw_or1 (pt_cmp (pc_dnotin (units1 hr) (pv 1) (pe_fld (pv 0) rfl)))))) (pss_one (ps_raise1T bas_Key x_NotThere pi_NotThere rfl takesF (hr.mono (by decide)) rfl g_NotThere (pv 1))) pss_nil)
      (pss_one (ps_ret (pe_dget (units1 hr) (pe_fld (pv 0) rfl) (pv 1) (fun _ _ => rfl))))), ?_⟩
    refine ⟨_, rfl, _, _, _, _, isD "str" d, rfl, .ty "str", hd.ty, isi_str, _, rfl, ?_⟩
    cases c : isD "str" d with
    | false =>
      have e : hasR rows d = false := by
        cases d <;> first | rfl | (rw [isD_strs] at c; cases c)
      refine iteT (iteT ⟨_, rfl, fun g hg => q2 e _ g (Same.new (Same.refl _) hg) hg (upd_same ..)⟩)
    | true =>
      obtain ⟨z, rfl⟩ := isD_str c
      cases hd
      refine iteF ⟨_, rfl, _, rfl, a, _, dx, _, _, rfl, e1, cl, nb, rfl, D, _, rfl, DGet.k (k := Sum.inr z) e2, _, rfl, ?_⟩
      by_cases hz : z ∈ rows.map (·.1)
      · obtain ⟨t, i, r, h1, h2, h3, h4⟩ := went_some e3 hz
        rw [h1]
        exact iteF ⟨_, rfl, a, _, dx, _, _, rfl, e1, cl, nb, rfl, _, rfl, D, _, rfl, by rw [← h1]; exact DGet.k (k := Sum.inr z) e2, q1 z i r rfl h2 h3 t h4⟩
      · rw [went_none e3 hz]
        exact iteT ⟨_, rfl, fun g hg => q2 (decide_eq_false hz) _ g (Same.new (Same.refl _) hg) hg (upd_same ..)⟩
abbrev s_Words_places : Stmt := inClass (top 15) 3
theorem sc_Words_places : FnScope ["self", "name"] ["self", "name"] (defScope s_Words_places) := ⟨rfl, rfl, rfl, by decide +kernel, rfl, by decide +kernel, by decide +kernel⟩

theorem ok_Words_places (cl_Words : Cls K (wcls K)) (mm_Words_told_of : Meth K (wcls K) "told_of" (He.ma K (wcls K) "told_of")) (p_Words_told_of : PromA (L2.CX P w) P w K mg base 3 (He.ma K (wcls K) "told_of") ["self", "name"] (spToldOf K))
    (D : DefM K (He.ma K (wcls K) "places") "places" "Words.places" s_Words_places) : PromA (L2.CX P w) P w K mg base 4 (He.ma K (wcls K) "places") ["self", "name"] (spPlaces K) := by
  refine methX_mk D sc_Words_places (fun vs H Q E h => ?_) (fun _ _ _ _ _ _ us hl => match us, hl with | [_, _], _ => rfl) (fun cdv A outer s H vs Q E hr h => ?_)
  · obtain ⟨a, rows, x, d, rfl, _⟩ := h
    rfl
  · obtain ⟨a, rows, x, d, rfl, wa, hd, q1, q2⟩ := h
    obtain ⟨dx, D, kvs, e1, _, _⟩ := id wa
    refine ⟨_, (pss_one (ps_ret (pe_ix (ix_tupK (K := K)) (pe_pmX cl_Words mm_Words_told_of p_Words_told_of takesF (hr.mono (by decide)) (pv 0) (pa_cons (pv 1) pa_nil)) pe_int (fun _ _ => rfl)))), ?_⟩
    exact ⟨_, rfl, a, dx, _, rfl, e1, rfl, _, rfl, a, rows, x, d, rfl, wa, hd, fun z i r ed hr e t h2 => ⟨t, _, _, _, rfl, rfl, h2, rfl, q1 z i r ed hr e⟩, q2⟩
abbrev s_Words_place_of : Stmt := inClass (top 15) 4
theorem sc_Words_place_of : FnScope ["self", "name"] ["self", "name"] (defScope s_Words_place_of) := ⟨rfl, rfl, rfl, by decide +kernel, rfl, by decide +kernel, by decide +kernel⟩

theorem ok_Words_place_of (cl_Words : Cls K (wcls K)) (mm_Words_told_of : Meth K (wcls K) "told_of" (He.ma K (wcls K) "told_of")) (p_Words_told_of : PromA (L2.CX P w) P w K mg base 3 (He.ma K (wcls K) "told_of") ["self", "name"] (spToldOf K))
    (D : DefM K (He.ma K (wcls K) "place_of") "place_of" "Words.place_of" s_Words_place_of) : PromA (L2.CX P w) P w K mg base 4 (He.ma K (wcls K) "place_of") ["self", "name"] (spPlaceOf K) := by
  refine methX_mk D sc_Words_place_of (fun vs H Q E h => ?_) (fun _ _ _ _ _ _ us hl => match us, hl with | [_, _], _ => rfl) (fun cdv A outer s H vs Q E hr h => ?_)
  · obtain ⟨a, rows, x, d, rfl, _⟩ := h
    rfl
  · obtain ⟨a, rows, x, d, rfl, wa, hd, q1, q2⟩ := h
    obtain ⟨dx, D, kvs, e1, _, _⟩ := id wa
    refine ⟨_, (pss_one (ps_ret (pe_ix (ix_tupK (K := K)) (pe_pmX cl_Words mm_Words_told_of p_Words_told_of takesF (hr.mono (by decide)) (pv 0) (pa_cons (pv 1) pa_nil)) pe_int (fun _ _ => rfl)))), ?_⟩
    exact ⟨_, rfl, a, dx, _, rfl, e1, rfl, _, rfl, a, rows, x, d, rfl, wa, hd, fun z i r ed hr e t h2 => ⟨t, _, _, _, rfl, rfl, h2, rfl, q1 z i r ed hr e⟩, q2⟩
end

end TS

namespace TS
open PySem PySem.Spec PyProof.Rows L2 TL
/-! ### Words.__eq__ -/
def itemsF (i : Nat) : List (Str × Int) → List PyData
  | [] => []
  | r :: rs => .tuple [.str r.1, .tuple [.int r.2, .int (i : Nat)]] :: itemsF (i + 1) rs
theorem items_eqv : ∀ (a b : List (Str × Int)) (i : Nat), PyData.eqvAll (itemsF i a) (itemsF i b) = decide (a = b)
  | [], [], i => rfl
  | [], b :: r, i => rfl
  | a :: r, [], i => rfl
  | (x, p) :: r, (y, q) :: s, i => by
    show ((x == y && (((p == q) && (((i : Int) == (i : Int)) && true)) && true)) && PyData.eqvAll (itemsF (i + 1) r) (itemsF (i + 1) s)) = _
    rw [items_eqv r s (i + 1)]
    by_cases h1 : x = y
    · by_cases h2 : p = q
      · subst h1 h2
        simp
      · have e : (p == q) = false := by simpa using h2
        rw [e]
        simp [h2]
    · have e : (x == y) = false := by simpa using h1
      rw [e]
      simp [h1]
theorem items_lay : ∀ (rows : List (Str × Int)) (i : Nat), (∀ r ∈ rows, nameS r.1 = true) → ∀ e ∈ itemsF i rows, e.canLay0 = true ∧ e.depth ≤ 30
  | [], i, _, e, he => by cases he
  | r :: rs, i, h, e, he => by
    rcases List.mem_cons.mp he with q | m
    · subst q
      have hz := h r (by simp)
      unfold nameS at hz
      obtain ⟨_, h3⟩ := Bool.and_eq_true_iff.mp hz
      have ok : PySem.PyData.strOk r.1 = true := by
        show r.1.cps.all (· < 0x110000) = true
        rw [← Array.all_toList, List.all_eq_true]
        intro c m
        exact decide_eq_true (Nat.lt_of_le_of_lt (of_decide_eq_true (Bool.and_eq_true_iff.mp (List.all_eq_true.mp h3 c m)).2) (by decide))
      constructor
      · show PyData.canLayAll0 [.str r.1, .tuple [.int r.2, .int (i : Nat)]] = true
        unfold PyData.canLayAll0
        rw [show (PyData.str r.1).canLay0 = true from ok]
        rfl
      · show max 0 (max (max 0 (max 0 0) + 1) 0) + 1 ≤ 30
        decide
    · exact items_lay rs (i + 1) (fun r hr => h r (List.mem_cons_of_mem _ hr)) e m
theorem items_dt {K : PySem.W.Frag} {G : Hp} : ∀ (rows : List (Str × Int)) (kvs : List (Key × V)) (ts : List Addr) (i : Nat), Paired (fun (t : Addr) (q : Key × V) => G t = some (.tup [kV q.1, q.2])) ts kvs →
    kvs.length = rows.length → (∀ (j : Nat) (r : Str × Int), rows[j]? = some r → ∃ t, kvs[j]? = some (Sum.inr r.1, .ref t) ∧ SqT K G t [.int r.2, .int ((i + j : Nat) : Int)]) → DtAll K G (ts.map V.ref) (itemsF i rows)
  | [], _, _, _, .nil, _, _ => .nil
  | [], _, _, _, .cons _ _, h, _ => by simp at h
  | r :: rs, _, _, _, .nil, h, _ => by simp at h
  | r :: rs, _, _, i, .cons h0 t, hl, ha => by
    obtain ⟨tt, h1, h2⟩ := ha 0 r rfl
    simp only [List.getElem?_cons_zero, Option.some.injEq] at h1
    subst h1
    refine .cons (.tup (.inl (.inl h0)) (.cons (.str _) (.cons (.tup h2 (.cons (.int _) (.cons (.int _) .nil))) .nil))) (items_dt rs _ _ (i + 1) t (by simpa using hl) fun j q hq => ?_)
    obtain ⟨t2, h3, h4⟩ := ha (j + 1) q (by simpa using hq)
    exact ⟨t2, by simpa using h3, by rw [show i + 1 + j = i + (j + 1) by omega]; exact h4⟩
/-- x is no instance of C -/
def NotC (K : PySem.W.Frag) (H : Hp) (C : Addr) (x : V) : Prop := ∃ t, TyX K H x t ∧ PySem.W.kitOne K t (.ref C) = some false
def spWEq (K : PySem.W.Frag) : Sp := fun vs H Q _ => ∃ (a : Addr) (y : V) (rows : List (Str × Int)), vs = [.ref a, y] ∧ WordsAt K H a rows ∧ RowsOk rows ∧
  ((∃ b more, y = .ref b ∧ WordsAt K H b more ∧ RowsOk more ∧ ∀ G, Same H G → Q (.bl (decide (rows = more))) G) ∨ (NotC K H (wcls K) y ∧ Q (.bl false) H) ∨
  (∃ (b C2 db : Addr) (fs : List (Str × V)), y = .ref b ∧ H b = some (exo b C2 (some db)) ∧ H db = some (exd db fs) ∧ exI K C2 = true ∧ PySem.W.kitOne K (.ref C2) (.ref (wcls K)) = some false ∧ Q (.bl false) H))
/-- the words as a text -/
def shownR (r : Str × Int) : Str := (r.1 ++ ("/" : Str)) ++ ((toString r.2 : String) : Str)
def shownW (rows : List (Str × Int)) : Str := Txt.join " " (rows.map shownR)
def spWStr (K : PySem.W.Frag) : Sp := fun vs H Q _ => ∃ (a : Addr) (rows : List (Str × Int)), vs = [.ref a] ∧ WordsAt K H a rows ∧ RowsOk rows ∧ ∀ G, Same H G → Q (.str (shownW rows)) G
def spWRepr (K : PySem.W.Frag) : Sp := fun vs H Q _ => ∃ (a : Addr) (rows : List (Str × Int)), vs = [.ref a] ∧ WordsAt K H a rows ∧ RowsOk rows ∧ ∀ z G, Same H G → Q (.str z) G
theorem int_len {a : Int} (h : a.natAbs < 10 ^ 40) : ((toString a : String) : Str).length ≤ 41 := by
  have e := int_text_length_le10 (k := 40) (by decide) h
  clear h
  rw [PySem.ofString_length]; omega
theorem row_lens {rows : List (Str × Int)} (ro : RowsOk rows) {r : Str × Int} (h : r ∈ rows) : r.1.length ≤ 8 ∧ ((toString r.2 : String) : Str).length ≤ 41 := by
  have h1 := ro.names r h
  unfold nameS at h1
  have h2 := ro.lo r h
  have h3 := ro.hi r h
  exact ⟨of_decide_eq_true (Bool.and_eq_true_iff.mp (Bool.and_eq_true_iff.mp h1).1).2, int_len (by omega)⟩
theorem log_small {rows : List (Str × Int)} (ro : RowsOk rows) {r : Str × Int} (h : r ∈ rows) : r.2.natAbs.log2 < 1920 := by
  have h2 := ro.lo r h
  have h3 := ro.hi r h
  exact Nat.lt_of_le_of_lt (Nat.log2_le_self _) (by omega)
theorem slash_len : ("/" : Str).length = 1 := by decide +kernel
theorem sum_le {l : List Nat} {k : Nat} (h : ∀ x ∈ l, x ≤ k) : l.sum ≤ l.length * k := by
  induction l with
  | nil => simp
  | cons x r ih =>
    have := ih fun y hy => h y (List.mem_cons_of_mem _ hy)
    have := h x (by simp)
    rw [List.sum_cons, List.length_cons, Nat.succ_mul]
    omega
theorem shown_sum {rows : List (Str × Int)} (ro : RowsOk rows) : ((rows.map shownR).map (fun z : Str => z.length)).sum ≤ 600 := by
  have := sum_le (l := (rows.map shownR).map (fun z : Str => z.length)) (k := 50) fun x hx => by
    rw [List.map_map] at hx
    obtain ⟨r, hr, rfl⟩ := List.mem_map.mp hx
    obtain ⟨b1, b2⟩ := row_lens ro hr
    show (shownR r).length ≤ 50
    unfold shownR
    rw [add_len, add_len, slash_len]
    omega
  have few := ro.few
  rw [List.length_map, List.length_map] at this
  omega
theorem shown_len {rows : List (Str × Int)} (ro : RowsOk rows) : (shownW rows).length ≤ 700 := by
  have h1 := shown_sum ro
  have h2 := join_sum " " (rows.map shownR)
  have : (" " : Str).length = 1 := by decide +kernel
  rw [this, List.length_map] at h2
  have few := ro.few
  unfold shownW
  omega
theorem empty_app (x : Str) : Str.empty ++ x = x := ext_tl (by rw [tl_append]; rfl)
section
variable {P : Program} {w : World} {K : PySem.W.Frag} {mg : Str → Option Value} {base : Heap}
abbrev s_Words___eq__ : Stmt := inClass (top 15) 7
theorem sc_Words___eq__ : FnScope ["self", "other"] ["self", "other"] (defScope s_Words___eq__) := ⟨rfl, rfl, rfl, by decide +kernel, rfl, by decide +kernel, by decide +kernel⟩

set_option maxHeartbeats 800000 in
theorem ok_Words_eq (bt : Bt mg) (T : IsC K (wcls K)) (nb : NoAttr K (wcls K) "by_name") (g_Words : mg "Words" = some (.ref (He.ga K "Words"))) (D : DefM K (He.ma K (wcls K) "__eq__") "__eq__" "Words.__eq__" s_Words___eq__) : PromA CX0 P w K mg base 1 (He.ma K (wcls K) "__eq__") ["self", "other"] (spWEq K) := by
  refine meth_mk D sc_Words___eq__ (fun vs H Q E h => ?_) (fun _ _ _ _ _ _ us hl => match us, hl with | [_, _], _ => rfl) (fun cdv A outer s H vs Q E hr h => ?_)
  · obtain ⟨a, y, rows, rfl, _⟩ := h
    rfl
  · obtain ⟨a, y, rows, rfl, ⟨dx, D1, kvs, e1, e2, e3⟩, ro, h⟩ := h
    refine ⟨_, (pss_cons (ps_if (pt_not (pt_val (pe_callB (id := "isinstance") (isiKE (K := K)) (by rfl) bt.isinstance_ (by decide +kernel) (pa_cons (pv 1) (pa_cons (pe_glob (v := .ref (He.ga K "Words")) rfl g_Words rfl) pa_nil))))) (pss_one (ps_ret pe_bl)) pss_nil)
      (pss_one (ps_ret (pe_cmpR (op_eqDK (K := K) hr.units) (LiI.pe_listItems rfl (pe_fld (pv 0) rfl) rfl bt.list_ (by decide +kernel)) (LiI.pe_listItems rfl (pe_fld (pv 1) rfl) rfl bt.list_ (by decide +kernel)) (nomark _))))), ?_⟩
    rcases h with ⟨b, more, rfl, ⟨dy, D2, kvt, f1, f2, f3⟩, mo, q⟩ | ⟨⟨t, ty, no⟩, q⟩ | ⟨b, C2, db, fs, rfl, hb, hdb, hi, no, q⟩
    rotate_left
    · exact ⟨_, rfl, .inl ⟨_, _, _, _, false, rfl, .own _, ty, no, _, rfl, iteT q⟩⟩
    · exact ⟨_, rfl, .inr ⟨b, C2, db, fs, _, _, false, rfl, hb, hdb, hi, fun u h => h, no, _, rfl, iteT q⟩⟩
    refine ⟨_, rfl, .inl ⟨_, _, _, _, true, rfl, .own _, T.ty f1, T.yes, _, rfl, iteF ?_⟩⟩
    refine ⟨_, rfl, a, _, dx, _, _, rfl, e1, T.cl, nb, rfl, D1, kvs, rfl, e2, fun G1 p1 t1 s1 hp1 ht1 np1 ep1 pr1 => ?_⟩
    have s1' : Same H G1 := s1
    refine ⟨_, rfl, b, _, dy, _, _, rfl, s1 _ _ f1, T.cl, nb, rfl, D2, kvt, rfl, s1 _ _ f2, fun G2 p2 t2 s2 hp2 ht2 np2 ep2 pr2 => ?_⟩
    have s2' : Same G1 G2 := s2
    have s12 := s1'.trans s2'
    have d1 : DtAll K G2 (t1.map V.ref) (itemsF 0 rows) := DtAll.same s2' (items_dt rows kvs t1 0 pr1 e3.len fun j r hr => let ⟨t, x, y⟩ := e3.at_ j r hr; ⟨t, x, by rw [Nat.zero_add]; exact SqT.same s1' y⟩)
    have d2 : DtAll K G2 (t2.map V.ref) (itemsF 0 more) := items_dt more kvt t2 0 pr2 f3.len fun j r hr => let ⟨t, x, y⟩ := f3.at_ j r hr; ⟨t, x, by rw [Nat.zero_add]; exact SqT.same s12 y⟩
    have l1 := items_lay rows 0 ro.names
    have l2 := items_lay more 0 mo.names
    refine ⟨.list (itemsF 0 rows), .list (itemsF 0 more), Dp.lst (.inl (.inl (s2 _ _ ep1))) (d1.dp (lay_all fun e he => (l1 e he).1)), Dp.lst (.inl (.inl ep2)) (d2.dp (lay_all fun e he => (l2 e he).1)), shaped_list l1, shaped_list l2, ?_⟩
    have e : PyData.eqv (.list (itemsF 0 rows)) (.list (itemsF 0 more)) = decide (rows = more) := by
      unfold PyData.eqv
      exact items_eqv rows more 0
    rw [e]
    exact q G2 s12
abbrev s_Words___str__ : Stmt := inClass (top 15) 8
theorem sc_Words___str__ : FnScope ["self", "at", "name", "places"] ["self"] (defScope s_Words___str__) := ⟨rfl, rfl, rfl, by decide +kernel, rfl, by decide +kernel, by decide +kernel⟩

theorem ok_Words_str (bt : Bt mg) (cl : Cls K (wcls K)) (nb : NoAttr K (wcls K) "by_name") (D : DefM K (He.ma K (wcls K) "__str__") "__str__" "Words.__str__" s_Words___str__) : PromA CX0 P w K mg base 1 (He.ma K (wcls K) "__str__") ["self"] (spWStr K) := by
  refine meth_mk D sc_Words___str__ (fun vs H Q E h => ?_) (fun _ _ _ _ _ _ us hl => match us, hl with | [_], _ => rfl) (fun cdv A outer s H vs Q E hr h => ?_)
  · obtain ⟨a, rows, rfl, _⟩ := h
    rfl
  · obtain ⟨a, rows, rfl, ⟨dx, D, kvs, e1, e2, e3⟩, ro, q⟩ := h
    refine ⟨_, (pss_one (ps_ret (pe_joinK (K := K) rfl pe_str (pe_lock (pe_lc (own := [("name", 2), ("places", 3), ("at", 1)]) rfl sc_Words___str__.nd (pi_items (pe_fld (pv 0) rfl)) (blkOk_by (N := ["self", "at", "name", "places"]) (sc := defScope s_Words___str__) (by decide +kernel)) (fun _ _ _ _ _ => (pg_tupK (K := K) (n := 2) rfl rfl (pgs_cons (pg_name (i := 2) sc_Words___str__.nd rfl (Or.inl rfl)) (pgs_cons (pg_tupK (K := K) (n := 2) rfl rfl (pgs_cons (pg_name (i := 3) sc_Words___str__.nd rfl (Or.inl rfl)) (pgs_cons (pg_name (i := 1) sc_Words___str__.nd rfl (Or.inl rfl)) pgs_nil))) pgs_nil)))) (fun _ _ _ _ _ => pts_nil) (fun _ _ _ _ _ => (pe_joined (.cons (pe_fmt (pv 2)) (.cons pe_str (.cons (pe_fmt (pv 3)) .nil)))))))))), ?_⟩
    have few := ro.few
    have neD : a ≠ D := fun z => by rw [← z, e1] at e2; cases e2
    refine ⟨⟨_, rfl⟩, D, .dK kvs, e2, trivial, fun od => ?_⟩
    obtain ⟨HD, eHD⟩ : ∃ HD, HD = L2.upd H D (.frz od (.dK kvs)) := ⟨_, rfl⟩
    rw [← eHD]
    have hD : HD D = some (.frz od (.dK kvs)) := by rw [eHD]; exact upd_same ..
    have ha : HD a = some (.ins (wcls K) dx [("by_name", .ref D)]) := by rw [eHD, upd_ne neD]; exact e1
    refine ⟨_, rfl, a, _, dx, _, _, rfl, ha, cl, nb, rfl, D, od, kvs, rfl, hD, fun L hL => ?_⟩
    refine lc_it (te := fun σ H Q => tJs [tFmt (tVar 2), tC (V.str "/"), tFmt (tVar 3)] Str.empty σ H fun out H1 => Q (V.str out) H1) walk_items (fun i G => Same HD G ∧ G L = some (.lst (((rows.take i).map shownR).map V.str))) ⟨Same.new (Same.refl _) hL, upd_same ..⟩ (fun i G _ p => p.1 _ _ hD) ?_ ?_
    · rintro i v G1 G2 hi ⟨sG, eG⟩ ⟨T, y, x, rfl, hT, rfl, ey, hx⟩
      have il : i < rows.length := by rw [← e3.len]; exact hi
      obtain ⟨t, h1, h2⟩ := e3.at_ i rows[i] (List.getElem?_eq_getElem il)
      dsimp only at ey hx
      rw [h1] at ey hx
      cases ey
      cases hx
      have rm := List.getElem_mem il
      have sT : Same G1 (L2.upd G1 T (.tup [.str rows[i].1, .ref t])) := Same.new (Same.refl _) hT
      have h2' : SqT K HD t [.int rows[i].2, .int (i : Nat)] := by rw [eHD]; exact SqT.upd e2 (fun _ => nofun) (fun _ _ => nofun) h2
      obtain ⟨b1, b2⟩ := row_lens ro rm
      have sT' := sG.trans sT
      refine ⟨T, _, rfl, .inl (.inl (upd_same ..)), rfl, _, _, rfl, _, _, rfl, t, _, rfl, SqT.same sT' h2', rfl, _, _, rfl, _, _, rfl, rfl, rfl, rfl, yes (iteT ?_)⟩
      have e0 : (Str.empty : Str).length = 0 := rfl
      refine ⟨_, rfl, .inl ⟨_, rfl, sz5 (by omega), _, rfl, ?_, _, rfl, ?_, _, rfl, .inr ⟨_, rfl, log_small ro rm, _, rfl, ?_, _, sT _ _ eG, ?_, fun b o e => (by rw [upd_ne (ne_of_none e hL)]; exact sT' _ _ e), ?_⟩⟩⟩
      · rw [add_len, e0]; exact sz5 (by omega)
      · rw [add_len, add_len, e0, slash_len]; exact sz5 (by omega)
      · rw [add_len, add_len, add_len, e0, slash_len]; exact sz5 (by omega)
      · rw [List.length_map, List.length_map, List.length_take]; exact sz5' (by omega)
      · rw [upd_same, List.take_add_one, List.getElem?_eq_getElem il, List.map_append, List.map_append, empty_app]
        rfl
    · rintro G ⟨sG, eG⟩
      rw [e3.len, List.take_length] at eG
      have nL : L ≠ D := fun z => by rw [z, hD] at hL; cases hL
      have s2 : Same H (L2.upd G D (.dK kvs)) := fun b o e => by
        by_cases z : b = D
        · rw [z, upd_same]; rw [z, e2] at e; exact e
        · rw [upd_ne z]
          exact sG _ _ (by rw [eHD, upd_ne z]; exact e)
      refine ⟨sG _ _ hD, _, L, rows.map shownR, rfl, rfl, .inl (.inl (.inl (by rw [upd_ne nL]; exact eG))), ?_, q _ s2⟩
      have := shown_sum ro
      have : (" " : Str).length = 1 := by decide +kernel
      rw [this, List.length_map]
      omega
abbrev s_Words___repr__ : Stmt := inClass (top 15) 9
theorem sc_Words___repr__ : FnScope ["self"] ["self"] (defScope s_Words___repr__) := ⟨rfl, rfl, rfl, by decide +kernel, rfl, by decide +kernel, by decide +kernel⟩

theorem ok_Words_repr (bt : Bt mg) (ms_Words : Meth K (wcls K) "__str__" (He.ma K (wcls K) "__str__")) (p_Words___str__ : PromA CX0 P w K mg base 1 (He.ma K (wcls K) "__str__") ["self"] (spWStr K)) (D : DefM K (He.ma K (wcls K) "__repr__") "__repr__" "Words.__repr__" s_Words___repr__) :
    PromA CX0 P w K mg base 4 (He.ma K (wcls K) "__repr__") ["self"] (spWRepr K) := by
  refine meth_mk D sc_Words___repr__ (fun vs H Q E h => ?_) (fun _ _ _ _ _ _ us hl => match us, hl with | [_], _ => rfl) (fun cdv A outer s H vs Q E hr h => ?_)
  · obtain ⟨a, rows, rfl, _⟩ := h
    rfl
  · obtain ⟨a, rows, rfl, wa, ro, q⟩ := h
    obtain ⟨dx, D, kvs, e1, _, _⟩ := id wa
    refine ⟨_, (pss_one (ps_ret (pe_joined (.cons pe_str (.cons (pe_fmt (pe_callTy (T := "str") (str_own ms_Words p_Words___str__ (hr.mono (by decide))) (by rfl) bt.str_ (by decide +kernel) (pa_cons (pv 0) pa_nil))) (.cons pe_str .nil)))))), ?_⟩
    have sl := shown_len ro
    have e0 : (Str.empty ++ ("Words(" : Str)).length = 6 := by decide +kernel
    refine ⟨_, rfl, by rw [e0]; decide, _, rfl, a, dx, _, rfl, e1, a, rows, rfl, wa, ro, fun G sG => ⟨_, rfl, .inl ⟨_, rfl, sz5 (by omega), _, rfl, ?_, _, rfl, ?_, q _ _ sG⟩⟩⟩
    · rw [add_len, e0]
      exact sz5 (by omega)
    · rw [add_len, add_len, e0]
      have : (")" : Str).length = 1 := by decide +kernel
      rw [this]
      exact sz5 (by omega)
end

end TS

namespace TS
open PySem PySem.Spec PyProof.Rows L2 TL
/-! ### told right -/
theorem row_at {K : PySem.W.Frag} {H : Hp} {xs : List V} {rows : List (Str × Int)} {i : Nat} {x : V} (h : DtAll K H xs (rows.map rowPy)) (hx : xs[i]? = some x) : ∃ r p, rows[i]? = some r ∧ x = .ref p ∧ SqT K H p [.str r.1, .int r.2] := by
  obtain ⟨d, hd, h2⟩ := h.get hx
  rw [List.getElem?_map] at hd
  cases hq : rows[i]? with
  | none => rw [hq] at hd; cases hd
  | some r =>
    rw [hq] at hd
    cases hd
    obtain ⟨p, ys, rfl, hT, hA⟩ := h2.tup_inv
    cases hA with
    | cons y0 t1 => cases t1 with
    | cons y1 t2 => cases t2 with
    | nil =>
    cases y0
    cases y1
    exact ⟨r, p, rfl, rfl, hT⟩
theorem keep_new {H G : Hp} {p : Addr} {o : HO} (s : Same H G) (hp : H p = none) : Same H (L2.upd G p o) := fun b u e => by rw [upd_ne (ne_of_none e hp)]; exact s _ _ e
theorem few5 {n : Nat} {rows : List (Str × Int)} (ro : RowsOk rows) (h : n ≤ rows.length) : n < sizeLine := sz5' (by have := ro.few; omega)
/-- a comprehension over rows, name and places taken apart -/
theorem lc_rows {K : PySem.W.Frag} {H H1 : Hp} {rw_ L : Addr} {xs : List V} {rows : List (Str × Int)} (ro : RowsOk rows) (hrL : SqL K H rw_ xs) (hrA : DtAll K H xs (rows.map rowPy)) (s1 : Same H H1) (hL : H1 L = none) {i j : Nat} {σ : L2.St} {te : TE} {vs : List Nat} {Qd : Hp → Prop} (f : Str × Int → V)
    (hw : ∀ x y, wipe (((wipe σ vs).set i (some x)).set j (some y)) vs = wipe σ vs)
    (step : ∀ r ∈ rows, ∀ G (C : VK), Same H1 G → (∀ G2, Same G G2 → C (f r) G2) → te (((wipe σ vs).set i (some (.str r.1))).set j (some (.int r.2))) G C)
    (fin : ∀ G, Same H1 G → G L = some (.lst (rows.map f)) → Qd G) :
    ∃ W : Nat → Nat → Hp → Prop, (∃ m, W 0 m (upd H1 L (.lst []))) ∧ ∀ k m H, W k m H →
      ((Itl K rw_).stop k H ∧ Qd H) ∨ ((Itl K rw_).go k H ∧ ∃ Nx : Hp → Prop, (∀ H', Nx H' → ∃ m', m' < m ∧ W (k + 1) m' H') ∧ ∀ x H', (Itl K rw_).yld k H x H' → gTup K 2 (gCons (gName i) (gCons (gName j) gNil)) x (wipe σ vs) H' fun σ2 H2 => wipe σ2 vs = wipe σ vs ∧ tYes σ2 H2 fun b H3 =>
        if b = true then te σ2 H3 fun y H4 => ∃ acc, H4 L = some (.lst acc) ∧ acc.length < sizeLine ∧ Nx (upd H4 L (.lst (acc ++ [y]))) else Nx H3) := by
  have lr : xs.length = rows.length := by rw [hrA.length, List.length_map]
  refine lc_it walk_list (fun k G => Same H1 G ∧ G L = some (.lst ((rows.take k).map f))) ⟨Same.new (Same.refl _) hL, upd_same ..⟩ (fun k G _ p => (s1.trans p.1).seq hrL) ?_ ?_
  · rintro k x G1 G2 hi ⟨sG, eG⟩ ⟨rfl, hx⟩
    obtain ⟨r, p, hri, rfl, hT⟩ := row_at hrA hx
    refine ⟨p, _, rfl, SqT.same (s1.trans sG) hT, rfl, _, _, rfl, _, _, rfl, rfl, hw _ _, yes (iteT (step r (List.mem_of_getElem? hri) _ _ sG fun G2 s2 => ⟨_, s2 _ _ eG, ?_, keep_new (sG.trans s2) hL, ?_⟩))⟩
    · rw [List.length_map, List.length_take]
      exact few5 ro (by omega)
    · rw [upd_same, take_map _ hri]
  · rintro G ⟨sG, eG⟩
    rw [lr, List.take_length] at eG
    exact fin G sG eG
def spTR (K : PySem.W.Frag) : Sp := fun vs H Q _ => ∃ (a rw_ : Addr) (rows : List (Str × Int)), vs = [.ref a, .ref rw_] ∧ WordsAt K H a rows ∧ RowsOk rows ∧ Dt K H (.ref rw_) (.list (rows.map rowPy)) ∧ ∀ G, Same H G → Q (.bl true) G
theorem names_dt {K : PySem.W.Frag} {G : Hp} : ∀ rows : List (Str × Int), DtAll K G (rows.map fun r => V.str r.1) (rows.map fun r => PyData.str r.1)
  | [] => .nil
  | r :: t => .cons (.str _) (names_dt t)
theorem places_dt {K : PySem.W.Frag} {G : Hp} : ∀ rows : List (Str × Int), DtAll K G (rows.map fun r => V.int r.2) (rows.map fun r => PyData.int r.2)
  | [] => .nil
  | r :: t => .cons (.int _) (places_dt t)
theorem sm_name {rows : List (Str × Int)} (ro : RowsOk rows) {r : Str × Int} (h : r ∈ rows) : Sm 0 10 (.str r.1) := by
  have hz := ro.names r h
  unfold nameS at hz
  obtain ⟨h2, h3⟩ := Bool.and_eq_true_iff.mp hz
  refine Sm.str (fun c hc => ?_) (Nat.le_trans (of_decide_eq_true (Bool.and_eq_true_iff.mp h2).2) (by decide))
  exact Nat.lt_of_le_of_lt (of_decide_eq_true (Bool.and_eq_true_iff.mp (List.all_eq_true.mp h3 c hc)).2) (by decide)
theorem sm_names {rows : List (Str × Int)} (ro : RowsOk rows) : Sm 1 132 (.list (rows.map fun r => PyData.str r.1)) :=
  Sm.list (k := 0) (n := 10) (m := 12) (fun d hd => by obtain ⟨r, hr, rfl⟩ := List.mem_map.mp hd; exact sm_name ro hr) (by rw [List.length_map]; exact ro.few)
theorem sm_places {rows : List (Str × Int)} (ro : RowsOk rows) : Sm 1 132 (.list (rows.map fun r => PyData.int r.2)) :=
  Sm.list (k := 0) (n := 10) (m := 12) (fun d hd => by obtain ⟨r, hr, rfl⟩ := List.mem_map.mp hd; exact Sm.int (by have := ro.lo r hr; omega) (by have := ro.hi r hr; omega)) (by rw [List.length_map]; exact ro.few)
theorem sm_nums {n : Nat} (h : n ≤ 12) : Sm 1 132 (.list ((List.range n).map fun i => PyData.int (i : Nat))) :=
  Sm.list (k := 0) (n := 10) (m := 12) (fun d hd => by obtain ⟨i, hi, rfl⟩ := List.mem_map.mp hd; exact Sm.int (by omega) (by have := List.mem_range.mp hi; omega)) (by rw [List.length_map, List.length_range]; exact h)
theorem nums_dt {K : PySem.W.Frag} {G : Hp} : ∀ l : List Nat, DtAll K G (l.map fun i => V.int (i : Nat)) (l.map fun i => PyData.int (i : Nat))
  | [] => .nil
  | r :: t => .cons (.int _) (nums_dt t)
theorem noDiff {z : Str} : (!decide (V.str z = V.str z)) = false := by simp
theorem str_at {rows : List (Str × Int)} {i : Nat} {x : V} (h : (rows.map fun r => V.str r.1)[i]? = some x) : ∃ r, rows[i]? = some r ∧ x = .str r.1 := by
  rw [List.getElem?_map] at h
  cases hq : rows[i]? with
  | none => rw [hq] at h; cases h
  | some r => rw [hq] at h; cases h; exact ⟨r, rfl, rfl⟩
theorem has_mem {rows : List (Str × Int)} {r : Str × Int} (h : r ∈ rows) : hasR rows (.str r.1) = true := decide_eq_true (List.mem_map_of_mem h)
theorem range_rows {β : Type} (g : Str × Int → β) (rows : List (Str × Int)) : (List.range rows.length).map (fun i => g (rows.getD i ("", 0))) = rows.map g := by
  refine List.ext_getElem (by simp) fun i h1 h2 => ?_
  simp only [List.length_map, List.length_range] at h1
  simp [List.getD_eq_getElem?_getD, h1]
section
variable {P : Program} {w : World} {K : PySem.W.Frag} {mg : Str → Option Value} {base : Heap}
abbrev s__law_told_right : Stmt := top 24
theorem sc__law_told_right : FnScope ["_law_words", "_law_rows_here", "_law_names_here", "_law_turn", "_law_told", "_law_shown", "_law_name", "_law_places"] ["_law_words", "_law_rows_here"] (defScope s__law_told_right) := ⟨rfl, rfl, rfl, by decide +kernel, rfl, by decide +kernel, by decide +kernel⟩

theorem ok_told_right (Y : Sys K) (bt : Bt mg) (cl_Words : Cls K (wcls K)) (mm_Words_names : Meth K (wcls K) "names" (He.ma K (wcls K) "names")) (p_Words_names : PromA CX0 P w K mg base 1 (He.ma K (wcls K) "names") ["self"] (spWNames K))
    (ml_Words : Meth K (wcls K) "__len__" (He.ma K (wcls K) "__len__")) (p_Words___len__ : PromA CX0 P w K mg base 1 (He.ma K (wcls K) "__len__") ["self"] (spWLen K))
    (mm_Words_places : Meth K (wcls K) "places" (He.ma K (wcls K) "places")) (p_Words_places : PromA (L2.CX P w) P w K mg base 4 (He.ma K (wcls K) "places") ["self", "name"] (spPlaces K))
    (mm_Words_place_of : Meth K (wcls K) "place_of" (He.ma K (wcls K) "place_of")) (p_Words_place_of : PromA (L2.CX P w) P w K mg base 4 (He.ma K (wcls K) "place_of") ["self", "name"] (spPlaceOf K))
    (ms_Words : Meth K (wcls K) "__str__" (He.ma K (wcls K) "__str__")) (p_Words___str__ : PromA CX0 P w K mg base 1 (He.ma K (wcls K) "__str__") ["self"] (spWStr K))
    (mr_Words : Meth K (wcls K) "__repr__" (He.ma K (wcls K) "__repr__")) (p_Words___repr__ : PromA CX0 P w K mg base 4 (He.ma K (wcls K) "__repr__") ["self"] (spWRepr K))
    (D : Def K mg "_law_told_right" s__law_told_right) : PromG P w K mg base 6 "_law_told_right" ["_law_words", "_law_rows_here"] (spTR K) := by
  refine promG_mk D sc__law_told_right (fun vs H Q E h => ?_) (fun _ _ _ _ _ _ us hl => match us, hl with | [_, _], _ => rfl) (fun f cdv A outer s H vs Q E hgd hr h => ?_)
  · obtain ⟨a, rw_, rows, rfl, _⟩ := h
    rfl
  · obtain ⟨a, rw_, rows, rfl, wa, ro, hrw, q⟩ := h
    refine ⟨_, (pss_cons (ps_setLc (i := 2) (own := [("_law_name", 6), ("_law_places", 7)]) rfl sc__law_told_right.nd rfl rfl (sw_true rfl rfl rfl (by decide +kernel)) (pi_listK (K := K) rfl (pv 1)) (blkOk_by (N := ["_law_words", "_law_rows_here", "_law_names_here", "_law_turn", "_law_told", "_law_shown", "_law_name", "_law_places"]) (sc := defScope s__law_told_right) (by decide +kernel)) (fun _ _ _ _ _ => (pg_tupK (K := K) (n := 2) rfl rfl (pgs_cons (pg_name (i := 6) sc__law_told_right.nd rfl (Or.inl rfl)) (pgs_cons (pg_name (i := 7) sc__law_told_right.nd rfl (Or.inl rfl)) pgs_nil)))) (fun _ _ _ _ _ => pts_nil) (fun _ _ _ _ _ => (pv 6)))
      (pss_cons (ps_for PassesOwn.never rfl (pi_range1 rfl bt.range_ (pa_cons pe_int pa_nil)) (pg_name (i := 3) sc__law_told_right.nd rfl (Or.inl rfl)) (pss_cons (ps_set (i := 4) sc__law_told_right.nd rfl (Or.inl rfl) (pe_pm0 cl_Words mm_Words_names p_Words_names (hr.mono (by decide)) (pv 0)))
      (pss_cons (ps_if (PW.pt (pw_or (pt_cmpR op_ne (pe_callB (id := "repr") (reprK (K := K) Y hgd hr.units) (by rfl) bt.repr_ (by decide +kernel) (pa_cons (pv 4) pa_nil)) (pe_callB (id := "repr") (reprK (K := K) Y hgd hr.units) (by rfl) bt.repr_ (by decide +kernel) (pa_cons (pv 2) pa_nil)) (nomark _)) (pw_or1 (pt_cmpR op_ne (pe_callB (id := "len") (len_own ml_Words p_Words___len__ (hr.mono (by decide))) (by rfl) bt.len_ (by decide +kernel) (pa_cons (pv 0) pa_nil)) (pe_callB (id := "len") (lenK (K := K)) (by rfl) bt.len_ (by decide +kernel) (pa_cons (pv 1) pa_nil)) (nomark _))))) (pss_one (ps_ret pe_bl)) pss_nil)
      (pss_cons (ps_expr (pe_appendK (K := K) rfl (pv 4) pe_str))
      (pss_one (ps_expr (pe_bm0 PySem.F.plainAttrs_list PySem.F.slot_list_reverse PySem.F.type_list_reverse mt_reverse (pv 4))))))))
      (pss_cons (ps_if (pt_cmpR op_ne (pe_callB (id := "repr") (reprK (K := K) Y hgd hr.units) (by rfl) bt.repr_ (by decide +kernel) (pa_cons (pe_lc (own := [("_law_name", 6)]) (g := gName 6) rfl sc__law_told_right.nd (pi_listK (K := K) rfl (pv 2)) (blkOk_by (N := ["_law_words", "_law_rows_here", "_law_names_here", "_law_turn", "_law_told", "_law_shown", "_law_name", "_law_places"]) (sc := defScope s__law_told_right) (by decide +kernel)) (fun _ _ _ _ _ => (pg_name (i := 6) sc__law_told_right.nd rfl (Or.inl rfl))) (fun _ _ _ _ _ => pts_nil) (fun _ _ _ _ _ => (pe_pmX cl_Words mm_Words_places p_Words_places takes0 (hr.mono (by decide)) (pv 0) (pa_cons (pv 6) pa_nil)))) pa_nil)) (pe_callB (id := "repr") (reprK (K := K) Y hgd hr.units) (by rfl) bt.repr_ (by decide +kernel) (pa_cons (pe_lc (own := [("_law_name", 6), ("_law_places", 7)]) rfl sc__law_told_right.nd (pi_listK (K := K) rfl (pv 1)) (blkOk_by (N := ["_law_words", "_law_rows_here", "_law_names_here", "_law_turn", "_law_told", "_law_shown", "_law_name", "_law_places"]) (sc := defScope s__law_told_right) (by decide +kernel)) (fun _ _ _ _ _ => (pg_tupK (K := K) (n := 2) rfl rfl (pgs_cons (pg_name (i := 6) sc__law_told_right.nd rfl (Or.inl rfl)) (pgs_cons (pg_name (i := 7) sc__law_told_right.nd rfl (Or.inl rfl)) pgs_nil)))) (fun _ _ _ _ _ => pts_nil) (fun _ _ _ _ _ => (pv 7))) pa_nil)) (nomark _)) (pss_one (ps_ret pe_bl)) pss_nil)
      (pss_cons (ps_if (pt_cmpR op_ne (pe_callB (id := "repr") (reprK (K := K) Y hgd hr.units) (by rfl) bt.repr_ (by decide +kernel) (pa_cons (pe_lc (own := [("_law_name", 6)]) (g := gName 6) rfl sc__law_told_right.nd (pi_listK (K := K) rfl (pv 2)) (blkOk_by (N := ["_law_words", "_law_rows_here", "_law_names_here", "_law_turn", "_law_told", "_law_shown", "_law_name", "_law_places"]) (sc := defScope s__law_told_right) (by decide +kernel)) (fun _ _ _ _ _ => (pg_name (i := 6) sc__law_told_right.nd rfl (Or.inl rfl))) (fun _ _ _ _ _ => pts_nil) (fun _ _ _ _ _ => (pe_pmX cl_Words mm_Words_place_of p_Words_place_of takes0 (hr.mono (by decide)) (pv 0) (pa_cons (pv 6) pa_nil)))) pa_nil)) (pe_callB (id := "repr") (reprK (K := K) Y hgd hr.units) (by rfl) bt.repr_ (by decide +kernel) (pa_cons (pe_listRg rfl rfl bt.list_ (prg_1 rfl bt.range_ (pe_callB (id := "len") (lenK (K := K)) (by rfl) bt.len_ (by decide +kernel) (pa_cons (pv 1) pa_nil)))) pa_nil)) (nomark _)) (pss_one (ps_ret pe_bl)) pss_nil)
      (pss_cons (ps_set (i := 5) sc__law_told_right.nd rfl (Or.inl rfl) (pe_joinK (K := K) rfl pe_str (pe_lc (own := [("_law_name", 6), ("_law_places", 7)]) rfl sc__law_told_right.nd (pi_listK (K := K) rfl (pv 1)) (blkOk_by (N := ["_law_words", "_law_rows_here", "_law_names_here", "_law_turn", "_law_told", "_law_shown", "_law_name", "_law_places"]) (sc := defScope s__law_told_right) (by decide +kernel)) (fun _ _ _ _ _ => (pg_tupK (K := K) (n := 2) rfl rfl (pgs_cons (pg_name (i := 6) sc__law_told_right.nd rfl (Or.inl rfl)) (pgs_cons (pg_name (i := 7) sc__law_told_right.nd rfl (Or.inl rfl)) pgs_nil)))) (fun _ _ _ _ _ => pts_nil) (fun _ _ _ _ _ => (pe_op op_add_str (pe_op op_add_str (pv 6) pe_str) (pe_callTy (T := "str") call_str_int (by rfl) bt.str_ (by decide +kernel) (pa_cons (pv 7) pa_nil)))))))
      (pss_one (ps_ret (pe_and (pe_cmpR op_eq (pe_callTy (T := "str") (str_own ms_Words p_Words___str__ (hr.mono (by decide))) (by rfl) bt.str_ (by decide +kernel) (pa_cons (pv 0) pa_nil)) (pv 5) (nomark _)) (pe_one (pe_callB (id := "isinstance") (isiK (K := K)) (by rfl) bt.isinstance_ (by decide +kernel) (pa_cons (pe_callB (id := "repr") (repr_own mr_Words p_Words___repr__ (hr.mono (by decide))) (by rfl) bt.repr_ (by decide +kernel) (pa_cons (pv 0) pa_nil)) (pa_cons (pe_bltn (v := .ty "str") rfl bt.str_ (by decide +kernel) rfl) pa_nil)))))))))))), ?_⟩
    obtain ⟨_, xr, er, hrL, hrA⟩ := hrw.list_inv
    cases er
    have lr : xr.length = rows.length := by rw [hrA.length, List.length_map]
    have few := ro.few
    have nd := ro.nd
    refine ⟨_, rfl, rw_, rfl, ⟨_, hrL⟩, fun L hL => ?_⟩
    refine lc_rows ro hrL hrA (Same.refl _) hL (fun r => V.str r.1) (fun _ _ => rfl) (fun r hr G C sG k => ⟨_, rfl, k _ (Same.refl _)⟩) fun G1 s1 e1 => ?_
    have shn := (sm_names ro).shows
    have dtn : ∀ G, Same G1 G → Dt K G (.ref L) (.list (rows.map fun r => PyData.str r.1)) := fun G s => .lst (.inl (.inl (s _ _ e1))) (names_dt rows)
    refine ⟨2, rfl, by decide, by decide, ?_⟩
    refine for_it walk_range (fun _ σ G => (∃ s3 s4 : Option V, σ = [some (V.ref a), some (.ref rw_), some (.ref L), s3, s4, none, none, none]) ∧ Same G1 G) ⟨⟨_, _, rfl⟩, Same.refl _⟩ (fun _ _ _ _ _ => trivial) ?_ ?_
    · rintro j x σ G G' hj ⟨⟨s3, s4, rfl⟩, sG⟩ ⟨rfl, rfl⟩
      have wa1 := wa.same (s1.trans sG)
      obtain ⟨dx, D, kvs, w1, _, _⟩ := id wa1
      refine ⟨_, rfl, a, dx, _, rfl, w1, rfl, a, rows, rfl, wa1, few, fun G2 p s2 hp ep => ?_⟩
      have t2 := sG.trans s2
      have dtp : Dt K G2 (.ref p) (.list (rows.map fun r => PyData.str r.1)) := .lst (.inl (.inl ep)) (names_dt rows)
      refine ⟨_, rfl, .ref p, _, rfl, dtp, shn.ok, shn.deep, shn.size, _, rfl, .ref L, _, rfl, dtn _ t2, shn.ok, shn.deep, shn.size, rfl, _, rfl, iteF' noDiff ?_⟩
      have wa2 := wa1.same s2
      obtain ⟨dx2, D2, kvs2, w2, _, _⟩ := id wa2
      refine ⟨_, rfl, a, dx2, _, rfl, w2, a, rows, rfl, wa2, rows.length, rfl, by omega, _, rfl, _, _, rfl, .inl ⟨_, ((s1.trans t2).seq hrL), rfl⟩, rfl, _, rfl, iteF' (by rw [lr]; simp) ?_⟩
      have nm : ∀ {o : HO}, Same G' (L2.upd G2 p o) := fun {o} => keep_new s2 hp
      refine ⟨_, rfl, .inl ⟨rfl, _, .inl (.inl ep)⟩, p, _, _, rfl, rfl, ep, by rw [List.length_map]; exact few5 ro (Nat.le_refl _), ?_⟩
      refine ⟨_, rfl, .inl ⟨rfl, _, .inl (.inl (upd_same ..))⟩, p, _, rfl, rfl, upd_same .., ?_⟩
      exact ⟨⟨_, _, rfl⟩, sG.trans (keep_new nm hp)⟩
    rintro σ G ⟨⟨s3, s4, rfl⟩, sG⟩
    have sH := s1.trans sG
    have lx : (rows.map fun r => V.str r.1).length = rows.length := List.length_map _
    -- places
    refine ⟨_, rfl, L, rfl, ⟨_, .inl (.inl (sG _ _ e1))⟩, fun M hM => ?_⟩
    refine lc_same walk_list (H := G) (fun G' s => .inl (.inl (s _ _ (sG _ _ e1)))) (by rw [lx]; omega) (Same.refl _) hM (fun i => V.int (rows.getD i ("", 0)).2) (fun _ => rfl) (fun i x G2 C hx sx k => ?_) fun G2 s2 e2 => ?_
    · obtain ⟨r, hr, rfl⟩ := str_at hx
      have wa2 := wa.same (sH.trans sx)
      obtain ⟨dx2, D2, kvs2, w2, _, _⟩ := id wa2
      refine ⟨_, rfl, a, dx2, _, rfl, w2, rfl, _, rfl, a, rows, _, .str r.1, rfl, wa2, .str _, fun z j q ed hq e => ?_, fun hf => ?_⟩
      · cases ed
        obtain ⟨_, rfl⟩ := at_one nd hr hq e.symm
        have := k G2 (Same.refl _)
        rw [List.getD_eq_getElem?_getD, hr] at this
        exact this
      · rw [has_mem (List.mem_of_getElem? hr)] at hf; cases hf
    rw [lx, range_rows fun r => V.int r.2] at e2
    have shp := (sm_places ro).shows
    have dp : Dt K G2 (.ref M) (.list (rows.map fun r => PyData.int r.2)) := .lst (.inl (.inl e2)) (places_dt rows)
    refine ⟨.ref M, _, rfl, dp, shp.ok, shp.deep, shp.size, ?_⟩
    have sH2 := sH.trans s2
    refine ⟨_, rfl, rw_, rfl, ⟨_, sH2.seq hrL⟩, fun M2 hM2 => ?_⟩
    refine lc_rows ro hrL hrA sH2 hM2 (fun r => V.int r.2) (fun _ _ => rfl) (fun r hr G C sG k => ⟨_, rfl, k _ (Same.refl _)⟩) fun G3 s3 e3 => ?_
    have dp3 : Dt K G3 (.ref M2) (.list (rows.map fun r => PyData.int r.2)) := .lst (.inl (.inl e3)) (places_dt rows)
    refine ⟨.ref M2, _, rfl, dp3, shp.ok, shp.deep, shp.size, rfl, _, rfl, iteF' noDiff ?_⟩
    -- places in the order
    have sG3 := (sG.trans s2).trans s3
    have sH3 := s1.trans sG3
    refine ⟨_, rfl, L, rfl, ⟨_, .inl (.inl (sG3 _ _ e1))⟩, fun N hN => ?_⟩
    refine lc_same walk_list (H := G3) (fun G' s => .inl (.inl (s _ _ (sG3 _ _ e1)))) (by rw [lx]; omega) (Same.refl _) hN (fun i => V.int (i : Nat)) (fun _ => rfl) (fun i x G4 C hx sx k => ?_) fun G4 s4 e4 => ?_
    · obtain ⟨r, hr, rfl⟩ := str_at hx
      have wa2 := wa.same (sH3.trans sx)
      obtain ⟨dx2, D2, kvs2, w2, _, _⟩ := id wa2
      refine ⟨_, rfl, a, dx2, _, rfl, w2, rfl, _, rfl, a, rows, _, .str r.1, rfl, wa2, .str _, fun z j q ed hq e => ?_, fun hf => ?_⟩
      · cases ed
        obtain ⟨rfl, _⟩ := at_one nd hr hq e.symm
        exact k G4 (Same.refl _)
      · rw [has_mem (List.mem_of_getElem? hr)] at hf; cases hf
    rw [lx] at e4
    have shi := (sm_nums few).shows
    have di : Dt K G4 (.ref N) (.list ((List.range rows.length).map fun i => PyData.int (i : Nat))) := .lst (.inl (.inl e4)) (nums_dt _)
    refine ⟨.ref N, _, rfl, di, shi.ok, shi.deep, shi.size, ?_⟩
    have sH4 := sH3.trans s4
    refine ⟨_, rfl, _, _, rfl, .inl ⟨_, sH4.seq hrL, rfl⟩, _, rfl, ?_, fun Z hZ => ?_⟩
    · rw [lr]
      exact RgOk.of_le (by omega) (by omega) (by omega) (by omega)
    have eg : rgV 0 ((xr.length : Nat) : Int) = (List.range rows.length).map fun i => V.int (i : Nat) := by
      rw [lr]
      unfold rgV
      rw [show (((rows.length : Nat) : Int) - 0).toNat = rows.length by omega]
      exact List.map_congr_left fun i _ => by rw [Int.zero_add]
    rw [eg]
    (generalize hG : L2.upd _ Z _ = G5; have sZ := same_of hG hZ; have eZ := at_of hG; clear hG)
    have dz : Dt K G5 (.ref Z) (.list ((List.range rows.length).map fun i => PyData.int (i : Nat))) := .lst (.inl (.inl eZ)) (nums_dt _)
    refine ⟨.ref Z, _, rfl, dz, shi.ok, shi.deep, shi.size, rfl, _, rfl, iteF' noDiff ?_⟩
    -- the text
    have sH5 := sH4.trans sZ
    refine ⟨⟨_, rfl⟩, _, rfl, rw_, rfl, ⟨_, sH5.seq hrL⟩, fun J hJ => ?_⟩
    refine lc_rows ro hrL hrA sH5 hJ (fun r => V.str (shownR r)) (fun _ _ => rfl) (fun r hr G C sG k => ?_) fun G6 s6 e6 => ?_
    · obtain ⟨b1, b2⟩ := row_lens ro hr
      refine ⟨_, rfl, _, _, rfl, rfl, by rw [slash_len]; exact sz5 (by omega), _, rfl, r.2, rfl, log_small ro hr, _, _, rfl, rfl, by rw [add_len, slash_len]; exact sz5 (by omega), k _ (Same.refl _)⟩
    have em : (rows.map fun r => V.str (shownR r)) = (rows.map shownR).map V.str := by rw [List.map_map]; rfl
    rw [em] at e6
    have sH6 := sH5.trans s6
    refine ⟨_, J, rows.map shownR, rfl, rfl, .inl (.inl (.inl e6)), ?_, ?_⟩
    · have := shown_sum ro
      have : (" " : Str).length = 1 := by decide +kernel
      rw [this, List.length_map]
      omega
    have wa6 := wa.same sH6
    obtain ⟨dx6, D6, kvs6, w6, _, _⟩ := id wa6
    refine ⟨_, rfl, a, dx6, _, rfl, w6, a, rows, rfl, wa6, ro, fun G7 s7 => ⟨_, rfl, _, rfl, rfl, ?_⟩⟩
    have ed : decide (V.str (shownW rows) = V.str (Txt.join " " (rows.map shownR))) = true := decide_eq_true rfl
    have wa7 := wa6.same s7
    obtain ⟨dx7, D7, kvs7, w7, _, _⟩ := id wa7
    refine ⟨_, rfl, iteT' ed ⟨_, rfl, a, dx7, _, rfl, w7, a, rows, rfl, wa7, ro, fun z G8 s8 => ⟨z, rfl, _, _, _, _, true, rfl, .ty "str", .base (.str z), kit_ty (by decide +kernel), q _ ((sH6.trans s7).trans s8)⟩⟩⟩
end

end TS

namespace TS
open PySem PySem.Spec PyProof.Rows L2 TL
/-! ### refused -/
def spRefT (K : PySem.W.Frag) : Sp := fun vs H Q _ => ∃ (a : Addr) (way : Int) (rows : List (Str × Int)) (x : V) (d : PyData), vs = [.ref a, .int way, x] ∧ WordsAt K H a rows ∧ Dt K H x d ∧ hasR rows d = false ∧
  ∀ G p, Same H G → H p = none → G p = some (.tup [.str "none", x]) → Q (.ref p) G
section
variable {P : Program} {w : World} {K : PySem.W.Frag} {mg : Str → Option Value} {base : Heap}
abbrev s__law_refused : Stmt := top 25
theorem sc__law_refused : FnScope ["_law_words", "_law_way", "_law_thing", "e"] ["_law_words", "_law_way", "_law_thing"] (defScope s__law_refused) := ⟨rfl, rfl, rfl, by decide +kernel, rfl, by decide +kernel, by decide +kernel⟩

theorem ok_refused (bt : Bt mg) (cl_Words : Cls K (wcls K)) (g_NotThere : mg "NotThere" = some (.ref (He.ga K "NotThere"))) (x_NotThere : OwnT K (He.ga K "NotThere") "found" "LookupError.__new__" keyT) (e_NotThere : PySem.W.exmOne K (.ref (He.ga K "NotThere")) (.ref (He.ga K "NotThere")) = some true)
    (mm_Words_places : Meth K (wcls K) "places" (He.ma K (wcls K) "places")) (p_Words_places : PromA (L2.CX P w) P w K mg base 4 (He.ma K (wcls K) "places") ["self", "name"] (spPlaces K))
    (mm_Words_place_of : Meth K (wcls K) "place_of" (He.ma K (wcls K) "place_of")) (p_Words_place_of : PromA (L2.CX P w) P w K mg base 4 (He.ma K (wcls K) "place_of") ["self", "name"] (spPlaceOf K))
    (D : Def K mg "_law_refused" s__law_refused) : Prom P w K mg base 6 "_law_refused" ["_law_words", "_law_way", "_law_thing"] (spRefT K) := by
  refine prom_mk D sc__law_refused (fun vs H Q E h => ?_) (fun _ _ _ _ _ _ us hl => match us, hl with | [_, _, _], _ => rfl) (fun f cdv A outer s H vs Q E hr h => ?_)
  · obtain ⟨a, way, rows, x, d, rfl, _⟩ := h
    rfl
  · obtain ⟨a, way, rows, x, d, rfl, wa, hd, hf, q⟩ := h
    refine ⟨_, (pss_cons (ps_try rfl rfl sc__law_refused.nd (fun W pn xe tk po => (pss_one (ps_if (pt_cmpR op_eq (pv 1) pe_int (nomark _)) (pss_one (ps_expr (pe_pmX cl_Words mm_Words_places p_Words_places tk (hr.mono (by decide)) (pv 0) (pa_cons (pv 2) pa_nil)))) (pss_one (ps_expr (pe_pmX cl_Words mm_Words_place_of p_Words_place_of tk (hr.mono (by decide)) (pv 0) (pa_cons (pv 2) pa_nil))))))) (ClausesOk.as_ (i := 3) rfl rfl ⟨rfl, by decide, .inl g_NotThere⟩ (fun a oe cls d pn zc hfl => (pss_one (ps_ret (pe_tup (pa_cons pe_str (pa_cons (pe_xf x_NotThere.xf x_NotThere.no zc hfl (pv 3)) pa_nil)))))) ClausesOk.stop))
      (pss_one (ps_ret (pe_tup (pa_cons pe_str (pa_cons pe_non pa_nil)))))), ?_⟩
    obtain ⟨dx, D, kvs, w1, _, _⟩ := id wa
    have no : ∀ {α : Prop} (z : Str) (i : Nat) (r : Str × Int), d = .str z → rows[i]? = some r → r.1 = z → α := fun z i r ed hr e => by
      rw [ed] at hf
      exact absurd (show z ∈ rows.map (·.1) by rw [← e]; exact List.mem_map_of_mem (List.mem_of_getElem? hr)) (of_decide_eq_false hf)
    refine ⟨_, rfl, rfl, _, rfl, ite2 (fun c => ?_) (fun c => ?_)⟩
    · refine ⟨_, rfl, a, dx, _, rfl, w1, rfl, _, rfl, a, rows, x, d, rfl, wa, hd, fun z i r ed hr e => no z i r ed hr e, fun _ G e sG he ge => ?_⟩
      refine ⟨true, e_NotThere, fun _ o ho => ?_, fun z => by cases z⟩
      refine ⟨_, rfl, rfl, rfl, e, _, _, rfl, ge, rfl, (by show 2 ≤ sizeLine; decide), fun p hp => ?_⟩
      exact q _ p (sG.trans (Same.new (Same.refl _) hp)) (sG.free hp) (upd_same ..)
    · refine ⟨_, rfl, a, dx, _, rfl, w1, rfl, _, rfl, a, rows, x, d, rfl, wa, hd, fun z i r ed hr e => no z i r ed hr e, fun _ G e sG he ge => ?_⟩
      refine ⟨true, e_NotThere, fun _ o ho => ?_, fun z => by cases z⟩
      refine ⟨_, rfl, rfl, rfl, e, _, _, rfl, ge, rfl, (by show 2 ≤ sizeLine; decide), fun p hp => ?_⟩
      exact q _ p (sG.trans (Same.new (Same.refl _) hp)) (sG.free hp) (upd_same ..)
end

end TS

namespace TS
open PySem PySem.Spec PyProof.Rows L2 TL
/-! ### asked right -/
theorem upp_low : ∀ c ∈ (List.range 26).map (· + 97), Unicode.upperOf c = [c - 32] := by decide +kernel
theorem low_in {c : Nat} (h : (decide (97 ≤ c) && decide (c ≤ 122)) = true) : c ∈ (List.range 26).map (· + 97) := by
  obtain ⟨h1, h2⟩ := Bool.and_eq_true_iff.mp h
  have h1 := of_decide_eq_true h1
  have h2 := of_decide_eq_true h2
  exact List.mem_map.mpr ⟨c - 97, List.mem_range.mpr (by omega), by omega⟩
theorem upp_list : ∀ l : List Nat, (∀ c ∈ l, c ∈ (List.range 26).map (· + 97)) → (l.map Unicode.upperOf).flatten = l.map (· - 32)
  | [], _ => rfl
  | c :: r, h => by
    rw [List.map_cons, List.flatten_cons, upp_low c (h c (by simp)), upp_list r fun x hx => h x (List.mem_cons_of_mem _ hx)]
    rfl
theorem tl_upper (z : Str) : tl (Txt.upper z) = ((tl z).map Unicode.upperOf).flatten := by
  obtain ⟨⟨l⟩⟩ := z
  show ((l.toArray.mapIdx fun _ c => (Unicode.upperOf c).toArray).flatten).toList = _
  have e : (l.mapIdx fun _ c => Unicode.upperOf c) = l.map Unicode.upperOf := List.ext_getElem (by simp) fun i h1 h2 => by simp
  have e2 : ((l.toArray.mapIdx fun _ c => (Unicode.upperOf c).toArray).flatten).toList = (l.mapIdx fun _ c => Unicode.upperOf c).flatten := by
    simp [List.mapIdx_eq_zipIdx_map]
    rfl
  rw [e2, e]
theorem name_parts {rows : List (Str × Int)} (ro : RowsOk rows) {r : Str × Int} (h : r ∈ rows) : r.1.length ≤ 8 ∧ ∀ c ∈ tl r.1, c ∈ (List.range 26).map (· + 97) := by
  have hz := ro.names r h
  unfold nameS at hz
  obtain ⟨h2, h3⟩ := Bool.and_eq_true_iff.mp hz
  exact ⟨of_decide_eq_true (Bool.and_eq_true_iff.mp h2).2, fun c hc => low_in (List.all_eq_true.mp h3 c hc)⟩
theorem sm_upper {rows : List (Str × Int)} (ro : RowsOk rows) {r : Str × Int} (h : r ∈ rows) : Sm 0 20 (.str (Txt.upper r.1)) := by
  obtain ⟨h1, h2⟩ := name_parts ro h
  have e := tl_upper r.1
  rw [upp_list _ h2] at e
  refine Sm.str (fun c hc => ?_) ?_
  · rw [show (Txt.upper r.1).cps.toList = tl (Txt.upper r.1) from rfl, e] at hc
    obtain ⟨x, hx, rfl⟩ := List.mem_map.mp hc
    obtain ⟨k, hk, rfl⟩ := List.mem_map.mp (h2 x hx)
    have := List.mem_range.mp hk
    show k + 97 - 32 < 4294967296
    omega
  · rw [len_tl, e, List.length_map, ← len_tl]
    omega
theorem sm_blank {rows : List (Str × Int)} (ro : RowsOk rows) {r : Str × Int} (h : r ∈ rows) : Sm 0 20 (.str (r.1 ++ (" " : Str))) := by
  obtain ⟨h1, h2⟩ := name_parts ro h
  refine Sm.str (fun c hc => ?_) ?_
  · rw [show (r.1 ++ (" " : Str)).cps.toList = tl (r.1 ++ (" " : Str)) from rfl, tl_append] at hc
    rcases List.mem_append.mp hc with hc | hc
    · obtain ⟨k, hk, rfl⟩ := List.mem_map.mp (h2 c hc)
      have := List.mem_range.mp hk
      show k + 97 < 4294967296
      omega
    · rw [show tl (" " : Str) = [32] by decide +kernel] at hc
      rw [List.mem_singleton.mp hc]
      decide
  · rw [add_len]
    have : (" " : Str).length = 1 := by decide +kernel
    omega
theorem has_tx (rows : List (Str × Int)) (d : PyData) : hasR rows d = inTx (rows.map (·.1)) d := by cases d <;> rfl
theorem has_no {rows : List (Str × Int)} {d : PyData} (h : isD "str" d = false) : hasR rows d = false := by
  cases d <;> first | rfl | (rw [isD_strs] at h; cases h)
theorem ints_dt {K : PySem.W.Frag} {G : Hp} : ∀ l : List Int, DtAll K G (l.map V.int) (l.map PyData.int)
  | [] => .nil
  | r :: t => .cons (.int _) (ints_dt t)
/-- the list handed in, as it stands -/
theorem sm_lst {n0 : Str} {ks : List Int} (hn : Sm 0 10 (.str n0)) (hk : ks.length ≤ 60) (h01 : ∀ k ∈ ks, 0 ≤ k ∧ k ≤ 1) : Sm 1 900 (.list (.str n0 :: ks.map PyData.int)) :=
  (Sm.list (k := 0) (n := 10) (m := 61) (fun d hd => by
    rcases List.mem_cons.mp hd with rfl | hd
    · exact hn
    · obtain ⟨k, hk, rfl⟩ := List.mem_map.mp hd
      have := h01 k hk
      exact Sm.int (by omega) (by omega)) (by rw [List.length_cons, List.length_map]; omega)).mono (Nat.le_refl _) (by decide)
theorem sm_none {d : PyData} {n : Nat} (h : Sm 1 n d) (hn : n ≤ 1000) : Sm 2 3000 (.tuple [.str "none", d]) :=
  (Sm.tuple (ds := [.str "none", d]) (k := 1) (n := 1000) (m := 2) (fun e he => by
    simp only [List.mem_cons, List.not_mem_nil, or_false] at he
    rcases he with rfl | rfl
    · exact Sm.mono (k := 0) (n := 4) (by show smB 0 4 (.str "none") = true; decide +kernel) (by decide) (by decide)
    · exact h.mono (Nat.le_refl _) hn) (Nat.le_refl 2)).mono (Nat.le_refl _) (by decide)
section
variable {P : Program} {w : World} {K : PySem.W.Frag} {mg : Str → Option Value} {base : Heap}
abbrev s__law_asked_right : Stmt := top 26
theorem sc__law_asked_right : FnScope ["_law_words", "_law_rows_here", "_law_names_here", "_law_odd", "_law_thing", "_law_way", "_law_found", "_law_name", "_law_places", "_law_one"] ["_law_words", "_law_rows_here"] (defScope s__law_asked_right) := ⟨rfl, rfl, rfl, by decide +kernel, rfl, by decide +kernel, by decide +kernel⟩

set_option maxHeartbeats 1000000 in
theorem ok_asked_right (Y : Sys K) (bt : Bt mg) (cl_Words : Cls K (wcls K)) (mm_Words_has : Meth K (wcls K) "has" (He.ma K (wcls K) "has")) (p_Words_has : PromA CX0 P w K mg base 1 (He.ma K (wcls K) "has") ["self", "thing"] (spHas K))
    (p__law_refused : Prom P w K mg base 6 "_law_refused" ["_law_words", "_law_way", "_law_thing"] (spRefT K))
    (D : Def K mg "_law_asked_right" s__law_asked_right) : PromG P w K mg base 7 "_law_asked_right" ["_law_words", "_law_rows_here"] (spTR K) := by
  refine promG_mk D sc__law_asked_right (fun vs H Q E h => ?_) (fun _ _ _ _ _ _ us hl => match us, hl with | [_, _], _ => rfl) (fun f cdv A outer s H vs Q E hgd hr h => ?_)
  · obtain ⟨a, rw_, rows, rfl, _⟩ := h
    rfl
  · obtain ⟨a, rw_, rows, rfl, wa, ro, hrw, q⟩ := h
    refine ⟨_, (pss_cons (ps_set (i := 2) sc__law_asked_right.nd rfl (Or.inr rfl) (pe_lc (own := [("_law_name", 7), ("_law_places", 8)]) rfl sc__law_asked_right.nd (pi_listK (K := K) rfl (pv 1)) (blkOk_by (N := ["_law_words", "_law_rows_here", "_law_names_here", "_law_odd", "_law_thing", "_law_way", "_law_found", "_law_name", "_law_places", "_law_one"]) (sc := defScope s__law_asked_right) (by decide +kernel)) (fun _ _ _ _ _ => (pg_tupK (K := K) (n := 2) rfl rfl (pgs_cons (pg_name (i := 7) sc__law_asked_right.nd rfl (Or.inl rfl)) (pgs_cons (pg_name (i := 8) sc__law_asked_right.nd rfl (Or.inl rfl)) pgs_nil)))) (fun _ _ _ _ _ => pts_nil) (fun _ _ _ _ _ => (pv 7))))
      (pss_cons (ps_set (i := 3) sc__law_asked_right.nd rfl (Or.inl rfl) (pe_lst (pa_cons pe_non (pa_cons pe_int (pa_cons pe_bl (pa_cons pe_str (pa_cons pe_str (pa_cons pe_str (pa_cons (pe_lst (pa_cons (pe_ix (ix_listK (K := K)) (pv 2) pe_int (fun _ _ => rfl)) pa_nil)) (pa_cons (pe_tup (pa_cons (pe_ix (ix_listK (K := K)) (pv 2) pe_int (fun _ _ => rfl)) (pa_cons pe_int pa_nil))) (pa_cons pe_dnewK (pa_cons (pe_op op_add_str (pe_ix (ix_listK (K := K)) (pv 2) pe_int (fun _ _ => rfl)) pe_str) pa_nil))))))))))))
      (pss_cons (ps_for PassesOwn.never rfl (pi_listK (K := K) rfl (pe_lc (own := [("_law_one", 9)]) (g := gName 9) rfl sc__law_asked_right.nd (pi_listK (K := K) rfl (pe_op op_cat (pv 3) (pe_lst (pa_cons (pe_upper (pe_ix (ix_listK (K := K)) (pv 2) pe_int (fun _ _ => rfl))) pa_nil)))) (blkOk_by (N := ["_law_words", "_law_rows_here", "_law_names_here", "_law_odd", "_law_thing", "_law_way", "_law_found", "_law_name", "_law_places", "_law_one"]) (sc := defScope s__law_asked_right) (by decide +kernel)) (fun _ _ _ _ _ => (pg_name (i := 9) sc__law_asked_right.nd rfl (Or.inl rfl))) (fun _ _ _ _ _ => (pts_one (pt_cmpR (op_notInT (K := K) hr.units) (pv 9) (pv 2) rfl))) (fun _ _ _ _ _ => (pv 9)))) (pg_name (i := 4) sc__law_asked_right.nd rfl (Or.inl rfl)) (pss_cons (ps_if (pt_cmpR op_notBl (pe_pm cl_Words mm_Words_has p_Words_has (hr.mono (by decide)) (pv 0) (pa_cons (pv 4) pa_nil)) pe_bl (nomark _)) (pss_one (ps_ret pe_bl)) pss_nil)
      (pss_one (ps_for PassesOwn.never rfl (pi_range1 rfl bt.range_ (pa_cons pe_int pa_nil)) (pg_name (i := 5) sc__law_asked_right.nd rfl (Or.inl rfl)) (pss_cons (ps_set (i := 6) sc__law_asked_right.nd rfl (Or.inl rfl) (pe_pc p__law_refused (hr.mono (by decide)) rfl (pa_cons (pv 0) (pa_cons (pv 5) (pa_cons (pv 4) pa_nil)))))
      (pss_cons (ps_if (pt_val (pe_callB (id := "isinstance") (isiK (K := K)) (by rfl) bt.isinstance_ (by decide +kernel) (pa_cons (pv 4) (pa_cons (pe_bltn (v := .ty "list") rfl bt.list_ (by decide +kernel) rfl) pa_nil)))) (pss_one (ps_expr (pe_appendK (K := K) rfl (pv 4) (pv 5)))) pss_nil)
      (pss_one (ps_if (pt_cmpR op_ne (pe_callB (id := "repr") (reprK (K := K) Y hgd hr.units) (by rfl) bt.repr_ (by decide +kernel) (pa_cons (pv 6) pa_nil)) (pe_callB (id := "repr") (reprK (K := K) Y hgd hr.units) (by rfl) bt.repr_ (by decide +kernel) (pa_cons (pe_tup (pa_cons pe_str (pa_cons (pv 4) pa_nil))) pa_nil)) (nomark _)) (pss_one (ps_ret pe_bl)) pss_nil))))))))
      (pss_one (ps_ret (pe_cmpR (op_eqNil (K := K) hr.units) (pe_lc (own := [("_law_name", 7)]) (g := gName 7) rfl sc__law_asked_right.nd (pi_listK (K := K) rfl (pv 2)) (blkOk_by (N := ["_law_words", "_law_rows_here", "_law_names_here", "_law_odd", "_law_thing", "_law_way", "_law_found", "_law_name", "_law_places", "_law_one"]) (sc := defScope s__law_asked_right) (by decide +kernel)) (fun _ _ _ _ _ => (pg_name (i := 7) sc__law_asked_right.nd rfl (Or.inl rfl))) (fun _ _ _ _ _ => (pts_one (pt_cmpR op_notBl (pe_pm cl_Words mm_Words_has p_Words_has (hr.mono (by decide)) (pv 0) (pa_cons (pv 7) pa_nil)) pe_bl (nomark _)))) (fun _ _ _ _ _ => (pv 7))) (pe_lst pa_nil) (nomark _))))))), ?_⟩
    obtain ⟨_, xr, er, hrL, hrA⟩ := hrw.list_inv
    cases er
    have few := ro.few
    obtain ⟨r0, rs, ers⟩ : ∃ r rs, rows = r :: rs := by
      cases h : rows with
      | nil => have := ro.some_; rw [h] at this; simp at this
      | cons r rs => exact ⟨r, rs, rfl⟩
    have r0m : r0 ∈ rows := by rw [ers]; simp
    have n0s := sm_name ro r0m
    refine ⟨_, rfl, rw_, rfl, ⟨_, hrL⟩, fun L hL => ?_⟩
    refine lc_rows ro hrL hrA (Same.refl _) hL (fun r => V.str r.1) (fun _ _ => rfl) (fun r hr G C sG k => ⟨_, rfl, k _ (Same.refl _)⟩) fun G1 s1 e1 => ?_
    have a0 : atI (rows.map fun r => V.str r.1) 0 = some (.str r0.1) := atI_nat (j := 0) (by rw [ers]; rfl)
    have lq : ∀ {G : Hp}, Same G1 G → SqL K G L (rows.map fun r => V.str r.1) := fun s => .inl (.inl (s _ _ e1))
    refine ⟨_, rfl, L, _, _, _, rfl, rfl, lq (Same.refl _), a0, (by show 1 ≤ sizeLine; decide), fun la hla => ?_⟩
    (generalize hG : L2.upd _ la _ = G2; have t1 := same_of hG hla; have ela := at_of hG; clear hG)
    refine ⟨_, rfl, L, _, _, _, rfl, rfl, lq t1, a0, (by show 2 ≤ sizeLine; decide), fun ta hta => ?_⟩
    (generalize hG : L2.upd _ ta _ = G3; have t2 := same_of hG hta; have eta := at_of hG; clear hG)
    refine fun da hda => ?_
    (generalize hG : L2.upd _ da _ = G4; have t3 := same_of hG hda; have eda := at_of hG; clear hG)
    have t13 := (t1.trans t2).trans t3
    have ll := (name_parts ro r0m).1
    have bl : (" " : Str).length = 1 := by decide +kernel
    refine ⟨_, rfl, L, _, _, _, rfl, rfl, lq t13, a0, _, _, rfl, rfl, by rw [bl]; exact sz5 (by omega), (by show 10 ≤ sizeLine; decide), fun O hO => ?_⟩
    (generalize hG : L2.upd _ O _ = G5; have t4 := same_of hG hO; have eO := at_of hG; clear hG)
    have t14 := t13.trans t4
    refine ⟨_, rfl, _, rfl, L, _, _, _, rfl, rfl, lq t14, a0, ?_⟩
    have lu : r0.1.length ≤ 5592405 := Nat.le_trans ll (by decide)
    refine ⟨⟨_, rfl⟩, _, rfl, rfl, lu, (by show 1 ≤ sizeLine; decide), fun U hU => ?_⟩
    (generalize hG : L2.upd _ U _ = G6; have t5 := same_of hG hU; have eU := at_of hG; clear hG)
    refine ⟨O, U, _, _, rfl, rfl, t5 _ _ eO, eU, (by show 11 ≤ sizeLine; decide), fun A hA => ?_⟩
    (generalize hG : L2.upd _ A _ = G7; have t6 := same_of hG hA; have eA := at_of hG; clear hG)
    have t46 := (t4.trans t5).trans t6
    obtain ⟨all, eall⟩ : ∃ all, all = ([V.non, .int 0, .bl true, .str "", .str "A", .str "zzzzzzzz", .ref la, .ref ta, .ref da, .str (r0.1 ++ (" " : Str))] ++ [V.str (Txt.upper r0.1)] : List V) := ⟨_, rfl⟩
    rw [← eall] at eA
    have lall : all.length = 11 := by rw [eall]; rfl
    have ela7 : G7 la = some (.lst [.str r0.1]) := t46 _ _ (t3 _ _ (t2 _ _ ela))
    have eta7 : G7 ta = some (.tup [.str r0.1, .int 0]) := t46 _ _ (t3 _ _ eta)
    have eda7 : G7 da = some (.dK []) := t46 _ _ eda
    have nta : ta ≠ la := fun z => by rw [z, ela7] at eta7; cases eta7
    have nda : da ≠ la := fun z => by rw [z, ela7] at eda7; cases eda7
    have sm1 : ∀ {z : Str}, smB 0 20 (.str z) = true → Sm 1 40 (.str z) := fun h => Sm.mono (k := 0) (n := 20) h (by decide) (by decide)
    have kinds : ∀ x ∈ all, ∃ d, (∀ G, Same G7 G → Dt K G x d) ∧ (x = .ref la ∨ (isD "list" d = false ∧ Sm 1 40 d ∧ ∀ G, Fx la G7 G → Dt K G x d)) := by
      intro x hx
      rw [eall] at hx
      simp only [List.mem_append, List.mem_cons, List.not_mem_nil, or_false, false_or] at hx
      rcases hx with (rfl | rfl | rfl | rfl | rfl | rfl | rfl | rfl | rfl | rfl) | rfl
      · exact ⟨.none, fun _ _ => .non, .inr ⟨rfl, Sm.none, fun _ _ => .non⟩⟩
      · exact ⟨.int 0, fun _ _ => .int _, .inr ⟨rfl, (Sm.int (by decide) (by decide)).mono (Nat.le_refl _) (by decide), fun _ _ => .int _⟩⟩
      · exact ⟨.bool true, fun _ _ => .bl _, .inr ⟨rfl, Sm.bool, fun _ _ => .bl _⟩⟩
      · exact ⟨.str _, fun _ _ => .str _, .inr ⟨rfl, sm1 (by decide +kernel), fun _ _ => .str _⟩⟩
      · exact ⟨.str _, fun _ _ => .str _, .inr ⟨rfl, sm1 (by decide +kernel), fun _ _ => .str _⟩⟩
      · exact ⟨.str _, fun _ _ => .str _, .inr ⟨rfl, sm1 (by decide +kernel), fun _ _ => .str _⟩⟩
      · exact ⟨.list [.str r0.1], fun G s => .lst (.inl (.inl (s _ _ ela7))) (.cons (.str _) .nil), .inl rfl⟩
      · have h : ∀ G : Hp, G ta = some (.tup [.str r0.1, .int 0]) → Dt K G (.ref ta) (.tuple [.str r0.1, .int 0]) := fun G e => .tup (.inl (.inl e)) (.cons (.str _) (.cons (.int _) .nil))
        refine ⟨_, fun G s => h G (s _ _ eta7), .inr ⟨rfl, (Sm.tuple (ds := [.str r0.1, .int 0]) (k := 0) (n := 10) (m := 2) (fun e he => ?_) (Nat.le_refl _)).mono (Nat.le_refl _) (by decide), fun G s => h G (s _ _ nta eta7)⟩⟩
        simp only [List.mem_cons, List.not_mem_nil, or_false] at he
        rcases he with rfl | rfl
        · exact n0s
        · exact Sm.int (by decide) (by decide)
      · have h : ∀ G : Hp, G da = some (.dK []) → Dt K G (.ref da) (.dict []) := fun G e => .dct (ks := []) (xs := []) e rfl .nil
        exact ⟨_, fun G s => h G (s _ _ eda7), .inr ⟨rfl, (by show smB 1 40 (.dict []) = true; decide +kernel), fun G s => h G (s _ _ nda eda7)⟩⟩
      · exact ⟨.str _, fun _ _ => .str _, .inr ⟨rfl, (sm_blank ro r0m).mono (by decide) (by decide), fun _ _ => .str _⟩⟩
      · exact ⟨.str _, fun _ _ => .str _, .inr ⟨rfl, (sm_upper ro r0m).mono (by decide) (by decide), fun _ _ => .str _⟩⟩
    refine ⟨A, rfl, ⟨_, .inl (.inl eA)⟩, fun FL hFL => ?_⟩
    have names : ∀ {G : Hp}, Same G7 G → SqL K G L ((rows.map (·.1)).map V.str) := fun s => by rw [List.map_map]; exact lq (((t14.trans t5).trans t6).trans s)
    refine lc_it walk_list (fun i G => Same G7 G ∧ ∃ ys : List V, G FL = some (.lst ys) ∧ ys.length ≤ i ∧ ∀ y ∈ ys, y = .ref la ∨ ∃ d, isD "list" d = false ∧ Sm 1 40 d ∧ hasR rows d = false ∧ ∀ G, Fx la G7 G → Dt K G y d)
      ⟨Same.new (Same.refl _) hFL, [], upd_same .., Nat.le_refl _, fun y hy => by cases hy⟩ (fun i G _ p => .inl (.inl (p.1 _ _ eA))) ?_ ?_
    · rintro i x C1 C2 hi ⟨sC, ys, eF, hl, hy⟩ ⟨rfl, hx⟩
      obtain ⟨d, dt, kd⟩ := kinds x (List.mem_of_getElem? hx)
      refine ⟨rfl, _, rfl, _, rfl, d, L, rows.map (·.1), dt _ sC, rfl, names sC, _, rfl, ?_⟩
      rw [← has_tx]
      cases hh : hasR rows d with
      | true => exact iteF ⟨sC, ys, eF, by omega, hy⟩
      | false =>
        refine iteT ⟨_, rfl, ys, eF, sz5' (by omega), keep_new sC hFL, ys ++ [x], upd_same .., by rw [List.length_append]; show ys.length + 1 ≤ i + 1; omega, fun y m => ?_⟩
        rcases List.mem_append.mp m with m | m
        · exact hy y m
        · rw [List.mem_singleton.mp m]
          exact kd.imp id fun ⟨k1, k2, k3⟩ => ⟨d, k1, k2, hh, k3⟩
    rintro G8 ⟨s8, ys, eFL, hl, hy⟩
    have lys : ys.length ≤ 11 := by omega
    have nFL : FL ≠ la := fun z => by rw [z, ela7] at hFL; cases hFL
    have Hla : H la = none := s1.free hla
    have s78 := (((s1.trans t14).trans t5).trans t6).trans s8
    have keep : ∀ {G : Hp}, Fx la G8 G → Same H G := fun fx b o e => fx b o (ne_of_none e Hla) (s78 _ _ e)
    have fx7 : ∀ {G : Hp}, Fx la G8 G → Fx la G7 G := fun fx => (Fx.of s8).trans fx
    -- what is handed in, as it stands
    have thing : ∀ (y : V), y ∈ ys → ∀ (G : Hp) (ks : List Int), Fx la G8 G → G la = some (.lst (.str r0.1 :: ks.map V.int)) → ks.length ≤ 60 → (∀ k ∈ ks, 0 ≤ k ∧ k ≤ 1) →
        ∃ d, Dt K G y d ∧ hasR rows d = false ∧ (isD "list" d = true → y = .ref la) := by
      intro y m G ks fx eG hk h01
      rcases hy y m with rfl | ⟨d, k1, k2, k3, k4⟩
      · exact ⟨.list (.str r0.1 :: ks.map .int), .lst (.inl (.inl eG)) (.cons (.str _) (ints_dt ks)), rfl, fun _ => rfl⟩
      · exact ⟨d, k4 _ (fx7 fx), k3, fun h => (by rw [k1] at h; cases h)⟩
    have shown : ∀ (y : V), y ∈ ys → ∀ (G : Hp) (ks : List Int), Fx la G8 G → G la = some (.lst (.str r0.1 :: ks.map V.int)) → ks.length ≤ 60 → (∀ k ∈ ks, 0 ≤ k ∧ k ≤ 1) → ∃ d, Dt K G y d ∧ Shows (.tuple [.str "none", d]) := by
      intro y m G ks fx eG hk h01
      rcases hy y m with rfl | ⟨d, k1, k2, k3, k4⟩
      · exact ⟨.list (.str r0.1 :: ks.map .int), .lst (.inl (.inl eG)) (.cons (.str _) (ints_dt ks)), (sm_none (sm_lst n0s hk h01) (by decide)).shows⟩
      · exact ⟨d, k4 _ (fx7 fx), (sm_none k2 (by decide)).shows⟩
    refine ⟨FL, rfl, ⟨_, .inl (.inl eFL)⟩, for_it walk_list (fun i σ G => (∃ s4 s5 s6 : Option V, σ = [some (V.ref a), some (.ref rw_), some (.ref L), some (.ref O), s4, s5, s6, none, none, none]) ∧ Fx la G8 G ∧ ∃ ks : List Int, G la = some (.lst (.str r0.1 :: ks.map V.int)) ∧ ks.length ≤ 2 * i ∧ ∀ k ∈ ks, 0 ≤ k ∧ k ≤ 1)
      ⟨⟨_, _, _, rfl⟩, Fx.refl _ _, [], s8 _ _ ela7, Nat.zero_le _, fun k hk => by cases hk⟩ (fun i σ G _ p => .inl (.inl (p.2.1 _ _ nFL eFL))) ?_ ?_⟩
    · rintro i y σ C1 C2 hi ⟨⟨s4, s5, s6, rfl⟩, fx, ks, ek, hk, h01⟩ ⟨rfl, hyi⟩
      have m := List.mem_of_getElem? hyi
      have waC := wa.same (keep fx)
      obtain ⟨dx, D, kvs, w1, _, _⟩ := id waC
      obtain ⟨d, dt, hf, l1⟩ := thing y m _ ks fx ek (by omega) h01
      refine ⟨_, rfl, a, dx, _, rfl, w1, rfl, _, rfl, a, rows, y, d, rfl, waC, dt, _, _, rfl, rfl, _, rfl, iteF' (by rw [hf]; rfl) ?_⟩
      refine ⟨2, rfl, by decide, by decide, for_it walk_range (fun j σ G => (∃ s5 s6 : Option V, σ = [some (V.ref a), some (.ref rw_), some (.ref L), some (.ref O), some y, s5, s6, none, none, none]) ∧ Fx la G8 G ∧ ∃ ks : List Int, G la = some (.lst (.str r0.1 :: ks.map V.int)) ∧ ks.length ≤ 2 * i + j ∧ ∀ k ∈ ks, 0 ≤ k ∧ k ≤ 1)
        ⟨⟨_, _, rfl⟩, fx, ks, ek, by omega, h01⟩ (fun _ _ _ _ _ => trivial) ?_ ?_⟩
      · rintro j x σ D1 D2 hj ⟨⟨s5, s6, rfl⟩, fx, ks, ek, hk, h01⟩ ⟨rfl, rfl⟩
        have hj2 : j < 2 := hj
        have hi11 : i < 11 := by omega
        obtain ⟨d, dt, hf, l1⟩ := thing y m _ ks fx ek (by omega) h01
        refine ⟨_, rfl, _, rfl, _, rfl, a, _, rows, y, d, rfl, wa.same (keep fx), dt, hf, fun D3 p sp hp ep => ?_⟩
        have fx3 : Fx la G8 D3 := fx.trans (Fx.of sp)
        have ek3 := sp _ _ ek
        have dt3 := Dt.same sp dt
        have npl : p ≠ la := fun z => by rw [z] at ep; rw [ek3] at ep; cases ep
        refine ⟨_, rfl, _, _, _, _, isD "list" d, rfl, .ty "list", dt3.ty, isi_list, _, rfl, ?_⟩
        cases cl : isD "list" d with
        | false =>
          refine iteF ?_
          have g1 := fx3
          have g2 := ek3
          have g3 : ks.length ≤ 2 * i + (j + 1) := by omega
          have g4 := h01
          have g5 := ep
          obtain ⟨d4, dt4, sh4⟩ := shown y m D3 ks g1 g2 (by omega) g4
          refine ⟨_, rfl, .ref p, .tuple [.str "none", d4], rfl, .tup (.inl (.inl g5)) (.cons (.str _) (.cons dt4 .nil)), sh4.ok, sh4.deep, sh4.size, _, rfl, (by show 2 ≤ sizeLine; decide), fun T hT => ?_⟩
          have sT : Same D3 (L2.upd D3 T (.tup [.str "none", y])) := Same.new (Same.refl _) hT
          refine ⟨.ref T, .tuple [.str "none", d4], rfl, .tup (.inl (.inl (upd_same ..))) (.cons (.str _) (.cons (Dt.same sT dt4) .nil)), sh4.ok, sh4.deep, sh4.size, rfl, _, rfl, iteF' noDiff ?_⟩
          exact ⟨⟨_, _, rfl⟩, g1.trans (Fx.of sT), ks, sT _ _ g2, g3, g4⟩
        | true =>
          obtain rfl := l1 cl
          refine iteT ⟨_, rfl, .inl ⟨rfl, _, .inl (.inl ek3)⟩, _, rfl, la, _, _, rfl, rfl, ek3, sz5' (by rw [List.length_cons, List.length_map]; omega), ?_⟩
          obtain ⟨ks4, ek4⟩ : ∃ ks4, ks4 = ks ++ [0 + (j : Int)] := ⟨_, rfl⟩
          generalize hD4 : L2.upd D3 la _ = D4
          have g1 : Fx la G8 D4 := hD4 ▸ fx3.upd
          have g2 : D4 la = some (.lst (.str r0.1 :: ks4.map V.int)) := by
            rw [← hD4, upd_same, ek4, List.map_append]
            rfl
          have g3 : ks4.length ≤ 2 * i + (j + 1) := by
            rw [ek4, List.length_append]
            show ks.length + 1 ≤ _
            omega
          have g4 : ∀ k ∈ ks4, 0 ≤ k ∧ k ≤ 1 := by
            intro k hk
            rw [ek4] at hk
            rcases List.mem_append.mp hk with hk | hk
            · exact h01 k hk
            · rw [List.mem_singleton.mp hk]
              omega
          have g5 : D4 p = some (.tup [.str "none", .ref la]) := by rw [← hD4, upd_ne npl]; exact ep
          clear hD4
          obtain ⟨d4, dt4, sh4⟩ := shown (.ref la) m D4 ks4 g1 g2 (by omega) g4
          refine ⟨_, rfl, .ref p, .tuple [.str "none", d4], rfl, .tup (.inl (.inl g5)) (.cons (.str _) (.cons dt4 .nil)), sh4.ok, sh4.deep, sh4.size, _, rfl, (by show 2 ≤ sizeLine; decide), fun T hT => ?_⟩
          have sT : Same D4 (L2.upd D4 T (.tup [.str "none", .ref la])) := Same.new (Same.refl _) hT
          refine ⟨.ref T, .tuple [.str "none", d4], rfl, .tup (.inl (.inl (upd_same ..))) (.cons (.str _) (.cons (Dt.same sT dt4) .nil)), sh4.ok, sh4.deep, sh4.size, rfl, _, rfl, iteF' noDiff ?_⟩
          exact ⟨⟨_, _, rfl⟩, g1.trans (Fx.of sT), ks4, sT _ _ g2, g3, g4⟩
      · rintro σ G ⟨⟨s5, s6, rfl⟩, fx, ks, ek, hk, h01⟩
        exact ⟨⟨_, _, _, rfl⟩, fx, ks, ek, (by show ks.length ≤ 2 * (i + 1); exact hk), h01⟩
    · rintro σ G ⟨⟨s4, s5, s6, rfl⟩, fx, ks, ek, hk, h01⟩
      have sH := keep fx
      have nL : L ≠ la := fun z => by rw [← z] at hla; rw [e1] at hla; cases hla
      have eLG : G L = some (.lst (rows.map fun r => V.str r.1)) := fx _ _ nL (s8 _ _ (t6 _ _ (t5 _ _ (t14 _ _ e1))))
      refine ⟨_, rfl, L, rfl, ⟨_, .inl (.inl eLG)⟩, fun M hM => ?_⟩
      refine lc_it walk_list (fun i C => Same G C ∧ C M = some (.lst [])) ⟨Same.new (Same.refl _) hM, upd_same ..⟩ (fun i C _ p => .inl (.inl (p.1 _ _ eLG))) ?_ ?_
      · rintro i x C1 C2 hi ⟨sC, eM⟩ ⟨rfl, hx⟩
        obtain ⟨r, hr, rfl⟩ := str_at hx
        have waC := wa.same (sH.trans sC)
        obtain ⟨dx, D, kvs, w1, _, _⟩ := id waC
        refine ⟨rfl, _, rfl, a, dx, _, rfl, w1, rfl, _, rfl, a, rows, _, .str r.1, rfl, waC, .str _, _, _, rfl, rfl, _, rfl, iteF' (by rw [has_mem (List.mem_of_getElem? hr)]; rfl) ⟨sC, eM⟩⟩
      · rintro C ⟨sC, eM⟩
        refine ⟨(by show 0 ≤ sizeLine; decide), fun N hN => ?_⟩
        have sN : Same C (L2.upd C N (.lst [])) := Same.new (Same.refl _) hN
        exact ⟨M, N, [], rfl, rfl, .inl (.inl (sN _ _ eM)), .inl (.inl (upd_same ..)), q _ ((sH.trans sC).trans sN)⟩
end

end TS

namespace TS
open PySem PySem.Spec PyProof.Rows L2 TL
/-! ### near rows -/
def fr4 : List Str := ["aaaaaaaa", "b", "aa", "zz"]
theorem fr4_names : ∀ z ∈ fr4, nameS z = true := by decide +kernel
theorem fresh_some {ns : List Str} (h : FreshN ns) : fr4.filter (fun z => !decide (z ∈ ns)) ≠ [] := fun e => h ⟨by
  have := List.filter_eq_nil_iff.mp e "b" (by simp [fr4])
  simpa using this, by
  have := List.filter_eq_nil_iff.mp e "zz" (by simp [fr4])
  simpa using this⟩
theorem cutV_to {xs : List V} {j : Nat} (h : j ≤ xs.length) : cutV xs none (some (j : Int)) = xs.take j := by
  show ((xs).drop (HT.sIx xs.length 0 none)).take (HT.sIx xs.length xs.length (some (j : Int)) - HT.sIx xs.length 0 none) = _
  rw [HT.sIx_none, HT.sIx_nat, Nat.min_eq_left h]
  rfl
theorem cutV_from {xs : List V} {j : Nat} (h : j ≤ xs.length) : cutV xs (some (j : Int)) none = xs.drop j := by
  show ((xs).drop (HT.sIx xs.length 0 (some (j : Int)))).take (HT.sIx xs.length xs.length none - HT.sIx xs.length 0 (some (j : Int))) = _
  rw [HT.sIx_none, HT.sIx_nat, Nat.min_eq_left h]
  exact List.take_of_length_le (by simp)
theorem DtAll.take {K : PySem.W.Frag} {H : Hp} : ∀ {xs : List V} {ds : List PyData} (n : Nat), DtAll K H xs ds → DtAll K H (xs.take n) (ds.take n)
  | _, _, 0, _ => by simp; exact .nil
  | _, _, n + 1, .nil => by simp; exact .nil
  | _, _, n + 1, .cons h t => .cons h (DtAll.take n t)
theorem DtAll.drop {K : PySem.W.Frag} {H : Hp} : ∀ {xs : List V} {ds : List PyData} (n : Nat), DtAll K H xs ds → DtAll K H (xs.drop n) (ds.drop n)
  | _, _, 0, h => h
  | _, _, n + 1, .nil => .nil
  | _, _, n + 1, .cons h t => DtAll.drop n t
/-- rows with one taken out -/
theorem out_ok {rows : List (Str × Int)} (ro : RowsOk rows) {i : Nat} : ((rows.take i ++ rows.drop (i + 1)).map (·.1)).Nodup := by
  rw [← List.eraseIdx_eq_take_drop_succ]
  exact ro.nd.sublist ((List.eraseIdx_sublist rows i).map _)
theorem mem_out {rows : List (Str × Int)} {i j : Nat} {r : Str × Int} (h : r ∈ rows.take i ++ rows.drop j) : r ∈ rows := (List.mem_append.mp h).elim (fun h => List.mem_of_mem_take h) (fun h => List.mem_of_mem_drop h)
theorem mk_rows {more : List (Str × Int)} (h1 : 1 ≤ more.length) (h2 : more.length ≤ 12) (h : ∀ r ∈ more, nameS r.1 = true ∧ 0 ≤ r.2 ∧ r.2 ≤ 4) (nd : (more.map (·.1)).Nodup) : RowsOk more := ⟨h1, h2, fun r m => (h r m).1, nd, fun r m => (h r m).2.1, fun r m => (h r m).2.2⟩
theorem of_row {rows : List (Str × Int)} (ro : RowsOk rows) {r : Str × Int} (m : r ∈ rows) : nameS r.1 = true ∧ 0 ≤ r.2 ∧ r.2 ≤ 4 := ⟨ro.names r m, ro.lo r m, ro.hi r m⟩
theorem put_ok {rows : List (Str × Int)} (ro : RowsOk rows) {i j : Nat} {q : Str × Int} (hq : nameS q.1 = true ∧ 0 ≤ q.2 ∧ q.2 ≤ 4) (hl : (rows.take i ++ [q] ++ rows.drop j).length ≤ 12) (nd : ((rows.take i ++ rows.drop j).map (·.1)).Nodup) (hz : q.1 ∉ (rows.take i ++ rows.drop j).map (·.1)) : RowsOk (rows.take i ++ [q] ++ rows.drop j) := by
  refine mk_rows (by simp; omega) hl (fun r m => ?_) ?_
  · rcases List.mem_append.mp m with m | m
    · rcases List.mem_append.mp m with m | m
      · exact of_row ro (List.mem_of_mem_take m)
      · rw [List.mem_singleton.mp m]; exact hq
    · exact of_row ro (List.mem_of_mem_drop m)
  · rw [List.append_assoc, List.singleton_append, List.map_append, List.map_cons]
    refine (List.perm_middle.nodup_iff).mpr ?_
    rw [List.map_append] at nd hz
    exact List.nodup_cons.mpr ⟨hz, nd⟩
theorem turned {rows : List (Str × Int)} (ro : RowsOk rows) (i : Nat) : RowsOk (rows.drop i ++ rows.take i) := by
  have e : (rows.drop i ++ rows.take i).Perm rows := List.perm_append_comm.trans (by rw [List.take_append_drop])
  have l := e.length_eq
  have := ro.some_
  have := ro.few
  exact mk_rows (by omega) (by omega) (fun x m => of_row ro (e.mem_iff.mp m)) ((e.map (·.1)).nodup_iff.mpr ro.nd)
/-- a name is none of the others -/
theorem gone {rows : List (Str × Int)} (ro : RowsOk rows) {i : Nat} {r : Str × Int} (h : rows[i]? = some r) : r.1 ∉ (rows.take i ++ rows.drop (i + 1)).map (·.1) := by
  have il := (List.getElem?_eq_some_iff.mp h).1
  have e : rows = rows.take i ++ r :: rows.drop (i + 1) := by
    have e1 := List.take_append_drop i rows
    rw [List.drop_eq_getElem_cons il, (List.getElem?_eq_some_iff.mp h).2] at e1
    exact e1.symm
  have nd := ro.nd
  rw [e, List.map_append, List.map_cons] at nd
  have := (List.perm_middle.nodup_iff).mp nd
  rw [List.map_append]
  exact (List.nodup_cons.mp this).1
theorem inV_strs {z : Str} {l : List Str} : inV (.str z) (l.map V.str) = decide (z ∈ l) := by
  unfold inV
  rw [List.any_map]
  induction l with
  | nil => rfl
  | cons y r ih =>
    rw [List.any_cons, ih]
    show ((y == z) || decide (z ∈ r)) = _
    by_cases h : y = z
    · subst h; simp
    · have h' : ¬ z = y := fun e => h e.symm
      have e : (y == z) = false := by simpa using h
      rw [e]
      simp [h']
def spNear (K : PySem.W.Frag) : Sp := fun vs H Q _ => ∃ (b rw_ : Addr) (n : Nat) (rows : List (Str × Int)), vs = [.ref b, .ref rw_] ∧ (∃ o, H b = some o ∧ Bag (n + 2) o) ∧ RowsOk rows ∧ FreshN (rows.map (·.1)) ∧ Dt K (hide H b) (.ref rw_) (.list (rows.map rowPy)) ∧
  ∀ G p more, Dr b n H G → RowsOk more → p ≠ b → H p = none → Dt K (hide G b) (.ref p) (.list (more.map rowPy)) → Q (.ref p) G
section
variable {P : Program} {w : World} {K : PySem.W.Frag} {mg : Str → Option Value} {base : Heap}
abbrev s__law_near : Stmt := top 27
theorem sc__law_near : FnScope ["_law_box_here", "_law_rows_here", "_law_way", "_law_at", "_law_name", "_law_places", "_law_fresh", "_law_one", "_law_row"] ["_law_box_here", "_law_rows_here"] (defScope s__law_near) := ⟨rfl, rfl, rfl, by decide +kernel, rfl, by decide +kernel, by decide +kernel⟩

set_option maxHeartbeats 1000000 in
theorem ok_near (bt : Bt mg) (p__law_take : Prom P w K mg base 1 "_law_take" ["_law_box_here", "_law_many"] spTake) (D : Def K mg "_law_near" s__law_near) : Prom P w K mg base 2 "_law_near" ["_law_box_here", "_law_rows_here"] (spNear K) := by
  refine prom_mk D sc__law_near (fun vs H Q E h => ?_) (fun _ _ _ _ _ _ us hl => match us, hl with | [_, _], _ => rfl) (fun f cdv A outer s H vs Q E hr h => ?_)
  · obtain ⟨b, rw_, n, rows, rfl, _⟩ := h
    rfl
  · obtain ⟨b, rw_, n, rows, rfl, hb, ro, fr, hrw, q⟩ := h
    refine ⟨_, (pss_cons (ps_set (i := 2) sc__law_near.nd rfl (Or.inl rfl) (pe_pc p__law_take (hr.mono (by decide)) rfl (pa_cons (pv 0) (pa_cons pe_int pa_nil))))
      (pss_cons (ps_set (i := 3) sc__law_near.nd rfl (Or.inl rfl) (pe_pc p__law_take (hr.mono (by decide)) rfl (pa_cons (pv 0) (pa_cons (pe_callB (id := "len") (lenK (K := K)) (by rfl) bt.len_ (by decide +kernel) (pa_cons (pv 1) pa_nil)) pa_nil))))
      (pss_cons (ps_asg (pe_ix (ix_listK (K := K)) (pv 1) (pv 3) (fun _ _ => rfl)) (pg_tupK (K := K) (n := 2) rfl rfl (pgs_cons (pg_name (i := 4) sc__law_near.nd rfl (Or.inl rfl)) (pgs_cons (pg_name (i := 5) sc__law_near.nd rfl (Or.inl rfl)) pgs_nil))))
      (pss_cons (ps_setLc (i := 6) (own := [("_law_one", 7)]) (g := gName 7) rfl sc__law_near.nd rfl rfl (sw_true rfl rfl rfl (by decide +kernel)) (pi_listK (K := K) rfl (pe_lst (pa_cons pe_str (pa_cons pe_str (pa_cons pe_str (pa_cons pe_str pa_nil)))))) (blkOk_by (N := ["_law_box_here", "_law_rows_here", "_law_way", "_law_at", "_law_name", "_law_places", "_law_fresh", "_law_one", "_law_row"]) (sc := defScope s__law_near) (by decide +kernel)) (fun _ _ _ _ _ => (pg_name (i := 7) sc__law_near.nd rfl (Or.inl rfl))) (fun _ _ _ _ _ => (pts_one (pt_cmpR (op_notInK (K := K)) (pv 7) (pe_lc (own := [("_law_row", 8)]) (g := gName 8) rfl sc__law_near.nd (pi_listK (K := K) rfl (pv 1)) (blk_nest (blkOk_by (N := ["_law_box_here", "_law_rows_here", "_law_way", "_law_at", "_law_name", "_law_places", "_law_fresh", "_law_one", "_law_row"]) (by decide +kernel))) (fun _ _ _ _ _ => (pg_name (i := 8) sc__law_near.nd rfl (Or.inl rfl))) (fun _ _ _ _ _ => pts_nil) (fun _ _ _ _ _ => (pe_ix (ix_tupK (K := K)) (pv 8) pe_int (fun _ _ => rfl)))) rfl))) (fun _ _ _ _ _ => (pv 7)))
      (pss_cons (ps_if (pt_cmpR op_eq (pv 2) pe_int (nomark _)) (pss_one (ps_ret (pe_op op_cat (pe_op op_cat (pe_slice (sl_listK (K := K)) (pv 1) po_none (po_some (pv 3))) (pe_lst (pa_cons (pe_tup (pa_cons (pe_ix (ix_listK (K := K)) (pv 6) pe_int (fun _ _ => rfl)) (pa_cons (pv 5) pa_nil))) pa_nil))) (pe_slice (sl_listK (K := K)) (pv 1) (po_some (pe_op op_add (pv 3) pe_int)) po_none)))) pss_nil)
      (pss_cons (ps_if (pt_cmpR op_eq (pv 2) pe_int (nomark _)) (pss_one (ps_ret (pe_op op_cat (pe_op op_cat (pe_slice (sl_listK (K := K)) (pv 1) po_none (po_some (pv 3))) (pe_lst (pa_cons (pe_tup (pa_cons (pv 4) (pa_cons (pe_op op_mod (pe_op op_add (pv 5) pe_int) pe_int) pa_nil))) pa_nil))) (pe_slice (sl_listK (K := K)) (pv 1) (po_some (pe_op op_add (pv 3) pe_int)) po_none)))) pss_nil)
      (pss_cons (ps_if (PW.pt (pw_and (pt_cmpR op_eq (pv 2) pe_int (nomark _)) (pw_and1 (pt_cmpR op_gt (pe_callB (id := "len") (lenK (K := K)) (by rfl) bt.len_ (by decide +kernel) (pa_cons (pv 1) pa_nil)) pe_int (nomark _))))) (pss_one (ps_ret (pe_op op_cat (pe_slice (sl_listK (K := K)) (pv 1) po_none (po_some (pv 3))) (pe_slice (sl_listK (K := K)) (pv 1) (po_some (pe_op op_add (pv 3) pe_int)) po_none)))) pss_nil)
      (pss_cons (ps_if (pt_cmpR op_eq (pv 2) pe_int (nomark _)) (pss_one (ps_ret (pe_op op_cat (pe_slice (sl_listK (K := K)) (pv 1) (po_some (pv 3)) po_none) (pe_slice (sl_listK (K := K)) (pv 1) po_none (po_some (pv 3)))))) pss_nil)
      (pss_cons (ps_if (PW.pt (pw_and (pt_cmpR op_eq (pv 2) pe_int (nomark _)) (pw_and1 (pt_cmpR op_lt (pe_callB (id := "len") (lenK (K := K)) (by rfl) bt.len_ (by decide +kernel) (pa_cons (pv 1) pa_nil)) pe_int (nomark _))))) (pss_one (ps_ret (pe_op op_cat (pe_op op_cat (pe_slice (sl_listK (K := K)) (pv 1) po_none (po_some (pv 3))) (pe_lst (pa_cons (pe_tup (pa_cons (pe_ix (ix_listK (K := K)) (pv 6) pe_int (fun _ _ => rfl)) (pa_cons pe_int pa_nil))) pa_nil))) (pe_slice (sl_listK (K := K)) (pv 1) (po_some (pv 3)) po_none)))) pss_nil)
      (pss_one (ps_ret (pe_callTy (T := "list") (listK (K := K)) (by rfl) bt.list_ (by decide +kernel) (pa_cons (pv 1) pa_nil))))))))))))), ?_⟩
    obtain ⟨_, xr, er, hrL, hrA⟩ := hrw.list_inv
    cases er
    have lr : xr.length = rows.length := by rw [hrA.length, List.length_map]
    have few := ro.few
    have some_ := ro.some_
    have p200 : (1000000 : Int) < 2 ^ 200 := by decide +kernel
    refine ⟨_, rfl, b, _, n + 1, 6, rfl, hb.choose_spec.1, hb.choose_spec.2, by decide, by decide +kernel, fun way o1 w0 w6 g1 => ?_⟩
    (generalize hG : L2.upd _ b _ = H1; have d1 := dr_of hG g1; clear hG)
    refine ⟨_, rfl, _, rfl, _, _, rfl, .inl ⟨_, (d1.hide.trans hide_same).seq hrL, rfl⟩, b, _, n, _, rfl, d1.bag.choose_spec.1, d1.bag.choose_spec.2, by omega, Int.lt_trans (by omega) p200, fun at_ o2 a0 a1 g2 => ?_⟩
    (generalize hG : L2.upd _ b _ = H2; have d2 := dr_of hG g2; clear hG)
    have D2 := d1.trans d2
    have sq : ∀ {G : Hp}, Same H2 G → SqL K G rw_ xr := fun s => ((D2.hide.trans hide_same).trans s).seq hrL
    have dA : ∀ {G : Hp}, Same H2 G → DtAll K G xr (rows.map rowPy) := fun s => DtAll.same ((D2.hide.trans hide_same).trans s) hrA
    obtain ⟨at', rfl⟩ : ∃ k : Nat, at_ = k := ⟨at_.toNat, by omega⟩
    have al : at' < rows.length := by rw [← lr]; omega
    have hx : xr[at']? = some xr[at'] := List.getElem?_eq_getElem (by omega)
    obtain ⟨r, rp, hri, exr, hT⟩ := row_at (dA (Same.refl _)) hx
    have rm := List.mem_of_getElem? hri
    refine ⟨_, rfl, _, rfl, rw_, _, _, _, rfl, rfl, sq (Same.refl _), atI_nat hx, ?_⟩
    rw [exr]
    refine ⟨rp, _, rfl, hT, rfl, _, _, rfl, _, _, rfl, rfl, (by show 4 ≤ sizeLine; decide), fun F4 hF4 => ?_⟩
    have n4 := D2.ne hF4
    (generalize hG : L2.upd _ F4 _ = H3; have t1 := same_of hG hF4; have e4 := at_of hG; clear hG)
    refine ⟨F4, rfl, ⟨_, .inl (.inl e4)⟩, fun FR hFR => ?_⟩
    refine lc_it (walk_list (xs := fr4.map V.str)) (fun i G => Same H3 G ∧ G FR = some (.lst (((fr4.take i).filter fun z => !decide (z ∈ rows.map (·.1))).map V.str))) ⟨Same.new (Same.refl _) hFR, upd_same ..⟩ (fun i G _ p => .inl (.inl (p.1 _ _ e4))) ?_ ?_
    · rintro i x G1 G2 hi ⟨s2, e2⟩ ⟨rfl, hx⟩
      rw [List.getElem?_map] at hx
      cases hq : fr4[i]? with
      | none => rw [hq] at hx; cases hx
      | some z =>
        rw [hq] at hx
        cases hx
        refine ⟨rfl, _, rfl, _, rfl, rw_, rfl, ⟨_, sq (t1.trans s2)⟩, fun L hL => ?_⟩
        refine lc_same walk_list (fun G' s => sq ((t1.trans s2).trans s)) (by rw [lr]; omega) (Same.refl _) hL (fun j => V.str (rows.getD j ("", 0)).1) (fun _ => rfl) (fun j y C1 C hy sC k => ?_) fun C2 sC eC => ?_
        · obtain ⟨r', p', hr', rfl, hT'⟩ := row_at (dA ((t1.trans s2).trans sC)) hy
          refine ⟨_, rfl, p', _, _, _, rfl, rfl, hT', rfl, ?_⟩
          have := k C1 (Same.refl _)
          rw [List.getD_eq_getElem?_getD, hr'] at this
          exact this
        rw [lr, range_rows fun r => V.str r.1] at eC
        have em : (rows.map fun r => V.str r.1) = (rows.map (·.1)).map V.str := by rw [List.map_map]; rfl
        rw [em] at eC
        refine ⟨L, _, rfl, .inl (.inl (.inl eC)), rfl, ?_, _, rfl, ?_⟩
        · rw [List.all_eq_true]
          intro v hv
          obtain ⟨y, _, rfl⟩ := List.mem_map.mp hv
          rfl
        show if (if true = true then !inV (.str z) ((rows.map (·.1)).map V.str) else _) = true then _ else _
        rw [if_pos rfl, inV_strs]
        have et : (fr4.take (i + 1)).filter (fun z => !decide (z ∈ rows.map (·.1))) = (fr4.take i).filter (fun z => !decide (z ∈ rows.map (·.1))) ++ (if z ∈ rows.map (·.1) then [] else [z]) := by
          rw [List.take_add_one, hq, List.filter_append]
          by_cases hm : z ∈ rows.map (·.1)
          · rw [if_pos hm]; simp only [Option.toList_some, List.filter_cons, List.filter_nil, decide_eq_true hm]; rfl
          · rw [if_neg hm]; simp only [Option.toList_some, List.filter_cons, List.filter_nil, decide_eq_false hm]; rfl
        have sC2 := s2.trans sC
        have e2' := sC _ _ e2
        by_cases hm : z ∈ rows.map (·.1)
        · rw [if_pos hm, List.append_nil] at et
          rw [decide_eq_true hm]
          exact iteF ⟨sC2, by rw [et]; exact e2'⟩
        · rw [if_neg hm] at et
          rw [decide_eq_false hm]
          refine iteT ⟨_, rfl, _, e2', ?_, keep_new sC2 hFR, by rw [upd_same, et, List.map_append]; rfl⟩
          rw [List.length_map]
          refine sz5' (Nat.le_trans (List.length_filter_le _ _) ?_)
          rw [List.length_take]
          exact Nat.le_trans (Nat.min_le_right _ _) (by decide)
    · rintro G3 ⟨s3, e3⟩
      have e13 : fr4.take (fr4.map V.str).length = fr4 := List.take_of_length_le (by rw [List.length_map]; exact Nat.le_refl _)
      rw [e13] at e3
      obtain ⟨z, zr, ez⟩ := List.exists_cons_of_ne_nil (fresh_some fr)
      rw [ez] at e3
      have mz : z ∈ fr4.filter (fun z => !decide (z ∈ rows.map (·.1))) := by rw [ez]; simp
      obtain ⟨m1, m2⟩ := List.mem_filter.mp mz
      have znew : z ∉ rows.map (·.1) := by simpa using m2
      have zname := fr4_names z m1
      have t3 := t1.trans s3
      have rok := of_row ro rm
      have ax : xr.length = rows.length := lr
      have D3 : ∀ {G : Hp}, Same G3 G → Dr b n H G := fun s => D2.trans (Dr.same (t3.trans s) D2.bag)
      have dAh : ∀ {G : Hp}, Same G3 G → DtAll K (hide G b) xr (rows.map rowPy) := fun s => DtAll.same (D2.hide.trans (Fx.of (t3.trans s)).hide) hrA
      have D0 : Dr b n H G3 := D3 (Same.refl _)
      have nbb : ∀ {G : Hp} {T : Addr}, Same G3 G → G T = none → T ≠ b := fun s h => (D3 s).ne h
      have dAh : ∀ {G : Hp}, Same G3 G → DtAll K (hide G b) xr (rows.map rowPy) := fun s => DtAll.same (D2.hide.trans (Fx.of (t3.trans s)).hide) hrA
      have D0 : Dr b n H G3 := D3 (Same.refl _)
      have nbb : ∀ {G : Hp} {T : Addr}, Same G3 G → G T = none → T ≠ b := fun s h => (D3 s).ne h
      have dAh : ∀ {G : Hp}, Same G3 G → DtAll K (hide G b) xr (rows.map rowPy) := fun s => DtAll.same (D2.hide.trans (Fx.of (t3.trans s)).hide) hrA
      have D0 : Dr b n H G3 := D3 (Same.refl _)
      have nbb : ∀ {G : Hp} {T : Addr}, Same G3 G → G T = none → T ≠ b := fun s h => (D3 s).ne h
      have dAh : ∀ {G : Hp}, Same G3 G → DtAll K (hide G b) xr (rows.map rowPy) := fun s => DtAll.same (D2.hide.trans (Fx.of (t3.trans s)).hide) hrA
      have D0 : Dr b n H G3 := D3 (Same.refl _)
      have nbb : ∀ {G : Hp} {T : Addr}, Same G3 G → G T = none → T ≠ b := fun s h => (D3 s).ne h
      have dAh : ∀ {G : Hp}, Same G3 G → DtAll K (hide G b) xr (rows.map rowPy) := fun s => DtAll.same (D2.hide.trans (Fx.of (t3.trans s)).hide) hrA
      have D0 : Dr b n H G3 := D3 (Same.refl _)
      have nbb : ∀ {G : Hp} {T : Addr}, Same G3 G → G T = none → T ≠ b := fun s h => (D3 s).ne h
      have fin : ∀ (G : Hp) (p : Addr) (us : List V) (more : List (Str × Int)), Same G3 G → RowsOk more → G3 p = none → G p = some (.lst us) → DtAll K (hide G b) us (more.map rowPy) → Q (.ref p) G := fun G p us more sG mo hp ep dA => by
        have np := D0.ne hp
        exact q G p more (D3 sG) mo np (D0.free hp) (.lst (.inl (.inl (by rw [hide_ne np]; exact ep))) dA)
      have lt : ∀ k, (xr.take k).length ≤ 12 := fun k => by rw [List.length_take]; omega
      have ld : ∀ k, (xr.drop k).length ≤ 12 := fun k => by rw [List.length_drop]; omega
      have lrt : (rows.take at').length = at' := by rw [List.length_take]; omega
      have cP : ((at' : Int) + 1) = ((at' + 1 : Nat) : Int) := by omega
      have one1 : (1 : Nat) ≤ sizeLine := by decide
      have two2 : (2 : Nat) ≤ sizeLine := by decide
      refine ⟨_, rfl, rfl, _, rfl, ite2 (fun c0 => ?_) (fun c0 => ?_)⟩
      · skip
        refine ⟨_, rfl, _, rfl, _, rfl, rw_, _, rfl, sq t3, fun F hF => ?_⟩
        rw [cutV_to (by omega)]
        (generalize hG : L2.upd _ F _ = J1; have u1 := same_of hG hF; have eF := at_of hG; clear hG)
        refine ⟨_, rfl, FR, _, _, _, rfl, rfl, .inl (.inl (u1 _ _ e3)), atI_nat (j := 0) rfl, _, rfl, two2, fun T hT => ?_⟩
        (generalize hG : L2.upd _ T _ = J2; have u2 := same_of hG hT; have eT := at_of hG; clear hG)
        refine ⟨one1, fun B hB => ?_⟩
        (generalize hG : L2.upd _ B _ = J3; have u3 := same_of hG hB; have eB := at_of hG; clear hG)
        refine ⟨F, B, _, _, rfl, rfl, u3 _ _ (u2 _ _ eF), eB, sz5 (by have := lt at'; rw [List.length_singleton]; omega), fun C hC => ?_⟩
        (generalize hG : L2.upd _ C _ = J4; have u4 := same_of hG hC; have eC := at_of hG; clear hG)
        have u14 := ((u1.trans u2).trans u3).trans u4
        refine ⟨_, rfl, _, rfl, _, _, rfl, rfl, _, rfl, rw_, _, rfl, sq (t3.trans u14), fun R hR => ?_⟩
        rw [cP, cutV_from (by omega)]
        (generalize hG : L2.upd _ R _ = J5; have u5 := same_of hG hR; have eR := at_of hG; clear hG)
        refine ⟨C, R, _, _, rfl, rfl, u5 _ _ eC, eR, sz5 (by have := lt at'; have := ld (at' + 1); rw [List.length_append, List.length_singleton]; omega), fun J hJ => ?_⟩
        (generalize hG : L2.upd _ J _ = J6; have u6 := same_of hG hJ; have eJ := at_of hG; clear hG)
        have u16 := (u14.trans u5).trans u6
        have nT : T ≠ b := nbb u1 hT
        have eT6 : J6 T = some (.tup [.str ((z, r.2)).1, .int ((z, r.2)).2]) := u6 _ _ (u5 _ _ (u4 _ _ (u3 _ _ eT)))
        have dT : Dt K (hide J6 b) (.ref T) (rowPy ((z, r.2))) := .tup (.inl (.inl (by rw [hide_ne nT]; exact eT6))) (.cons (.str _) (.cons (.int _) .nil))
        refine fin J6 J _ (rows.take at' ++ [(z, r.2)] ++ rows.drop (at' + 1)) u16 ?_ ((u14.trans u5).free hJ) eJ ?_
        · refine put_ok ro ⟨zname, rok.2⟩ (by rw [List.length_append, List.length_append, List.length_take, List.length_drop, List.length_singleton]; omega) (out_ok ro) (fun m => znew (by obtain ⟨x, hx, e⟩ := List.mem_map.mp m; have e : x.1 = z := e; rw [← e]; exact List.mem_map_of_mem (mem_out hx)))
        · have dd := dAh u16
          have := DtAll.append (DtAll.append (DtAll.take at' dd) (.cons dT .nil)) (DtAll.drop (at' + 1) dd)
          rw [List.map_append, List.map_append, List.map_take, List.map_drop]
          exact this
      refine ⟨_, rfl, rfl, _, rfl, ite2 (fun c1 => ?_) (fun c1 => ?_)⟩
      · skip
        refine ⟨_, rfl, _, rfl, _, rfl, rw_, _, rfl, sq t3, fun F hF => ?_⟩
        rw [cutV_to (by omega)]
        (generalize hG : L2.upd _ F _ = J1; have u1 := same_of hG hF; have eF := at_of hG; clear hG)
        refine ⟨_, rfl, _, rfl, _, _, rfl, rfl, _, _, rfl, rfl, (by show (0 : Int) < 5; decide), two2, fun T hT => ?_⟩
        (generalize hG : L2.upd _ T _ = J2; have u2 := same_of hG hT; have eT := at_of hG; clear hG)
        refine ⟨one1, fun B hB => ?_⟩
        (generalize hG : L2.upd _ B _ = J3; have u3 := same_of hG hB; have eB := at_of hG; clear hG)
        refine ⟨F, B, _, _, rfl, rfl, u3 _ _ (u2 _ _ eF), eB, sz5 (by have := lt at'; rw [List.length_singleton]; omega), fun C hC => ?_⟩
        (generalize hG : L2.upd _ C _ = J4; have u4 := same_of hG hC; have eC := at_of hG; clear hG)
        have u14 := ((u1.trans u2).trans u3).trans u4
        refine ⟨_, rfl, _, rfl, _, _, rfl, rfl, _, rfl, rw_, _, rfl, sq (t3.trans u14), fun R hR => ?_⟩
        rw [cP, cutV_from (by omega)]
        (generalize hG : L2.upd _ R _ = J5; have u5 := same_of hG hR; have eR := at_of hG; clear hG)
        refine ⟨C, R, _, _, rfl, rfl, u5 _ _ eC, eR, sz5 (by have := lt at'; have := ld (at' + 1); rw [List.length_append, List.length_singleton]; omega), fun J hJ => ?_⟩
        (generalize hG : L2.upd _ J _ = J6; have u6 := same_of hG hJ; have eJ := at_of hG; clear hG)
        have u16 := (u14.trans u5).trans u6
        have nT : T ≠ b := nbb u1 hT
        have eT6 : J6 T = some (.tup [.str ((r.1, (r.2 + 1) % 5)).1, .int ((r.1, (r.2 + 1) % 5)).2]) := u6 _ _ (u5 _ _ (u4 _ _ (u3 _ _ eT)))
        have dT : Dt K (hide J6 b) (.ref T) (rowPy ((r.1, (r.2 + 1) % 5))) := .tup (.inl (.inl (by rw [hide_ne nT]; exact eT6))) (.cons (.str _) (.cons (.int _) .nil))
        refine fin J6 J _ (rows.take at' ++ [(r.1, (r.2 + 1) % 5)] ++ rows.drop (at' + 1)) u16 ?_ ((u14.trans u5).free hJ) eJ ?_
        · refine put_ok ro ⟨rok.1, Int.emod_nonneg _ (by decide), (by have := Int.emod_lt_of_pos (r.2 + 1) (show (0 : Int) < 5 by decide); show (r.2 + 1) % 5 ≤ 4; omega)⟩ (by rw [List.length_append, List.length_append, List.length_take, List.length_drop, List.length_singleton]; omega) (out_ok ro) (show r.1 ∉ _ from gone ro hri)
        · have dd := dAh u16
          have := DtAll.append (DtAll.append (DtAll.take at' dd) (.cons dT .nil)) (DtAll.drop (at' + 1) dd)
          rw [List.map_append, List.map_append, List.map_take, List.map_drop]
          exact this
      refine ⟨_, rfl, rfl, _, rfl, ?_⟩
      by_cases hh : way = 2 ∧ 1 < rows.length
      · refine iteT' (by rw [eqV_int]; exact decide_eq_true hh.1) ⟨_, rfl, _, _, rfl, .inl ⟨_, sq t3, rfl⟩, _, _, rfl, rfl, _, rfl, iteT' (decide_eq_true (by omega)) ?_⟩
        refine ⟨_, rfl, _, rfl, _, rfl, rw_, _, rfl, sq t3, fun F hF => ?_⟩
        rw [cutV_to (by omega)]
        (generalize hG : L2.upd _ F _ = J1; have u1 := same_of hG hF; have eF := at_of hG; clear hG)
        refine ⟨_, rfl, _, rfl, _, _, rfl, rfl, _, rfl, rw_, _, rfl, sq (t3.trans u1), fun R hR => ?_⟩
        rw [cP, cutV_from (by omega)]
        (generalize hG : L2.upd _ R _ = J2; have u2 := same_of hG hR; have eR := at_of hG; clear hG)
        refine ⟨F, R, _, _, rfl, rfl, u2 _ _ eF, eR, sz5 (by have := lt at'; have := ld (at' + 1); omega), fun J hJ => ?_⟩
        (generalize hG : L2.upd _ J _ = J3; have u3 := same_of hG hJ; have eJ := at_of hG; clear hG)
        have u13 := (u1.trans u2).trans u3
        refine fin J3 J _ (rows.take at' ++ rows.drop (at' + 1)) u13 ?_ ((u1.trans u2).free hJ) eJ ?_
        · exact mk_rows (by rw [List.length_append, List.length_take, List.length_drop]; omega) (by rw [List.length_append, List.length_take, List.length_drop]; omega) (fun x m => of_row ro (mem_out m)) (out_ok ro)
        · have dd := dAh u13
          have := DtAll.append (DtAll.take at' dd) (DtAll.drop (at' + 1) dd)
          rw [List.map_append, List.map_take, List.map_drop]
          exact this
      refine andR ?_ fun c2 y => ⟨_, rfl, _, _, rfl, .inl ⟨_, sq t3, rfl⟩, _, _, rfl, rfl, _, rfl, iteF' (decide_eq_false fun z => hh ⟨?_, by omega⟩) y⟩
      · skip
        refine ⟨_, rfl, rfl, _, rfl, ite2 (fun c3 => ?_) (fun c3 => ?_)⟩
        · skip
          refine ⟨_, rfl, _, rfl, _, rfl, rw_, _, rfl, sq t3, fun F hF => ?_⟩
          rw [cutV_from (by omega)]
          (generalize hG : L2.upd _ F _ = J1; have u1 := same_of hG hF; have eF := at_of hG; clear hG)
          refine ⟨_, rfl, _, rfl, _, rfl, rw_, _, rfl, sq (t3.trans u1), fun R hR => ?_⟩
          rw [cutV_to (by omega)]
          (generalize hG : L2.upd _ R _ = J2; have u2 := same_of hG hR; have eR := at_of hG; clear hG)
          refine ⟨F, R, _, _, rfl, rfl, u2 _ _ eF, eR, sz5 (by have := lt at'; have := ld at'; omega), fun J hJ => ?_⟩
          (generalize hG : L2.upd _ J _ = J3; have u3 := same_of hG hJ; have eJ := at_of hG; clear hG)
          have u13 := (u1.trans u2).trans u3
          refine fin J3 J _ (rows.drop at' ++ rows.take at') u13 ?_ ((u1.trans u2).free hJ) eJ ?_
          · exact turned ro at'
          · have dd := dAh u13
            have := DtAll.append (DtAll.drop at' dd) (DtAll.take at' dd)
            rw [List.map_append, List.map_take, List.map_drop]
            exact this
        refine ⟨_, rfl, rfl, _, rfl, ?_⟩
        by_cases h4 : way = 4 ∧ rows.length < 12
        · refine iteT' (by rw [eqV_int]; exact decide_eq_true h4.1) ⟨_, rfl, _, _, rfl, .inl ⟨_, sq t3, rfl⟩, _, _, rfl, rfl, _, rfl, iteT' (decide_eq_true (by omega)) ?_⟩
          refine ⟨_, rfl, _, rfl, _, rfl, rw_, _, rfl, sq t3, fun F hF => ?_⟩
          rw [cutV_to (by omega)]
          (generalize hG : L2.upd _ F _ = J1; have u1 := same_of hG hF; have eF := at_of hG; clear hG)
          refine ⟨_, rfl, FR, _, _, _, rfl, rfl, .inl (.inl (u1 _ _ e3)), atI_nat (j := 0) rfl, two2, fun T hT => ?_⟩
          (generalize hG : L2.upd _ T _ = J2; have u2 := same_of hG hT; have eT := at_of hG; clear hG)
          refine ⟨one1, fun B hB => ?_⟩
          (generalize hG : L2.upd _ B _ = J3; have u3 := same_of hG hB; have eB := at_of hG; clear hG)
          refine ⟨F, B, _, _, rfl, rfl, u3 _ _ (u2 _ _ eF), eB, sz5 (by have := lt at'; rw [List.length_singleton]; omega), fun C hC => ?_⟩
          (generalize hG : L2.upd _ C _ = J4; have u4 := same_of hG hC; have eC := at_of hG; clear hG)
          have u14 := ((u1.trans u2).trans u3).trans u4
          refine ⟨_, rfl, _, rfl, _, rfl, rw_, _, rfl, sq (t3.trans u14), fun R hR => ?_⟩
          rw [cutV_from (by omega)]
          (generalize hG : L2.upd _ R _ = J5; have u5 := same_of hG hR; have eR := at_of hG; clear hG)
          refine ⟨C, R, _, _, rfl, rfl, u5 _ _ eC, eR, sz5 (by have := lt at'; have := ld (at'); rw [List.length_append, List.length_singleton]; omega), fun J hJ => ?_⟩
          (generalize hG : L2.upd _ J _ = J6; have u6 := same_of hG hJ; have eJ := at_of hG; clear hG)
          have u16 := (u14.trans u5).trans u6
          have nT : T ≠ b := nbb u1 hT
          have eT6 : J6 T = some (.tup [.str ((z, 0)).1, .int ((z, 0)).2]) := u6 _ _ (u5 _ _ (u4 _ _ (u3 _ _ eT)))
          have dT : Dt K (hide J6 b) (.ref T) (rowPy ((z, 0))) := .tup (.inl (.inl (by rw [hide_ne nT]; exact eT6))) (.cons (.str _) (.cons (.int _) .nil))
          refine fin J6 J _ (rows.take at' ++ [(z, 0)] ++ rows.drop (at')) u16 ?_ ((u14.trans u5).free hJ) eJ ?_
          · refine put_ok ro ⟨zname, Int.le_refl 0, (by show (0 : Int) ≤ 4; decide)⟩ (by rw [List.length_append, List.length_append, List.length_take, List.length_drop, List.length_singleton]; omega) (by rw [List.take_append_drop]; exact ro.nd) (fun m => znew (by obtain ⟨x, hx, e⟩ := List.mem_map.mp m; have e : x.1 = z := e; rw [← e]; exact List.mem_map_of_mem (mem_out hx)))
          · have dd := dAh u16
            have := DtAll.append (DtAll.append (DtAll.take at' dd) (.cons dT .nil)) (DtAll.drop (at') dd)
            rw [List.map_append, List.map_append, List.map_take, List.map_drop]
            exact this
        refine andR ?_ fun c5 y => ⟨_, rfl, _, _, rfl, .inl ⟨_, sq t3, rfl⟩, _, _, rfl, rfl, _, rfl, iteF' (decide_eq_false fun z => h4 ⟨?_, by omega⟩) y⟩
        · refine ⟨_, rfl, rw_, xr, rfl, .inl (sq t3), fun J hJ => ?_⟩
          (generalize hG : L2.upd _ J _ = J1; have u1 := same_of hG hJ; have eJ := at_of hG; clear hG)
          exact fin J1 J _ rows u1 ro hJ eJ (dAh u1)
        · rw [eqV_int] at c5
          exact of_decide_eq_true c5
      · rw [eqV_int] at c2
        exact of_decide_eq_true c2
end

end TS

namespace TS
open PySem PySem.Spec PyProof.Rows L2 TL
/-! ### equal right -/
def prV (r : Str × Int) : Key × V := (Sum.inr r.1, .int r.2)
theorem merge_new : ∀ {kvs acc : List (Key × V)}, ((acc ++ kvs).map (·.1)).Nodup → mergeK acc kvs = acc ++ kvs
  | [], acc, _ => by rw [List.append_nil]; rfl
  | kv :: r, acc, h => by
    have e : putK acc kv.1 kv.2 = acc ++ [kv] := by
      refine putK_new _ (valV_none fun x hx e => ?_)
      rw [List.map_append, List.nodup_append] at h
      exact h.2.2 x.1 (List.mem_map_of_mem hx) kv.1 (by simp) e
    show mergeK (putK acc kv.1 kv.2) r = _
    rw [e, merge_new (by rw [List.append_assoc]; exact h), List.append_assoc]
    rfl
theorem rows_pairs {K : PySem.W.Frag} {H : Hp} : ∀ {rows : List (Str × Int)} {xs : List V}, DtAll K H xs (rows.map rowPy) → ∃ ps : List Addr, xs = ps.map V.ref ∧ Paired (fun p kv => SqT K H p [kV kv.1, kv.2]) ps (rows.map prV)
  | [], _, h => by cases h; exact ⟨[], rfl, .nil⟩
  | r :: rs, _, h => by
    cases h with
    | cons h0 t =>
      obtain ⟨ps, rfl, hp⟩ := rows_pairs t
      obtain ⟨a, ys, rfl, hT, hA⟩ := h0.tup_inv
      cases hA with
      | cons y0 t1 => cases t1 with
      | cons y1 t2 => cases t2 with
      | nil =>
      cases y0
      cases y1
      exact ⟨a :: ps, rfl, .cons hT hp⟩
theorem rows_eqv : ∀ a b : List (Str × Int), PyData.eqvAll (a.map rowPy) (b.map rowPy) = decide (a = b)
  | [], [] => rfl
  | [], b :: r => rfl
  | a :: r, [] => rfl
  | (x, p) :: r, (y, q) :: s => by
    show ((x == y && (p == q && true)) && PyData.eqvAll (r.map rowPy) (s.map rowPy)) = _
    rw [rows_eqv r s]
    by_cases h1 : x = y
    · by_cases h2 : p = q
      · subst h1 h2
        simp
      · have e : (p == q) = false := by simpa using h2
        rw [e]
        simp [h2]
    · have e : (x == y) = false := by simpa using h1
      rw [e]
      simp [h1]
theorem name_lay {z : Str} (h : nameS z = true) : (PyData.str z).canLay0 = true := by
  unfold nameS at h
  obtain ⟨_, h3⟩ := Bool.and_eq_true_iff.mp h
  show z.cps.all (· < 0x110000) = true
  rw [← Array.all_toList, List.all_eq_true]
  intro c m
  exact decide_eq_true (Nat.lt_of_le_of_lt (of_decide_eq_true (Bool.and_eq_true_iff.mp (List.all_eq_true.mp h3 c m)).2) (by decide))
theorem rows_lay {rows : List (Str × Int)} (ro : RowsOk rows) : ∀ e ∈ rows.map rowPy, e.canLay0 = true ∧ e.depth ≤ 30 := fun e he => by
  obtain ⟨r, hr, rfl⟩ := List.mem_map.mp he
  constructor
  · show PyData.canLayAll0 [.str r.1, .int r.2] = true
    unfold PyData.canLayAll0
    rw [name_lay (ro.names r hr)]
    rfl
  · show max 0 (max 0 0) + 1 ≤ 30
    decide
theorem rows_eqD {K : PySem.W.Frag} {G : Hp} {x y : V} {a b : List (Str × Int)} {Q : VK} (ha : Dt K G x (.list (a.map rowPy))) (hb : Dt K G y (.list (b.map rowPy))) (ra : RowsOk a) (rb : RowsOk b) (q : Q (.bl (decide (a = b))) G) : rEqD K x y G Q := by
  have l1 := rows_lay ra
  have l2 := rows_lay rb
  refine ⟨.list (a.map rowPy), .list (b.map rowPy), ha.dp (by unfold PyData.canLay0; exact lay_all fun e he => (l1 e he).1), hb.dp (by unfold PyData.canLay0; exact lay_all fun e he => (l2 e he).1), shaped_list l1, shaped_list l2, ?_⟩
  have e : PyData.eqv (.list (a.map rowPy)) (.list (b.map rowPy)) = decide (a = b) := by
    unfold PyData.eqv
    exact rows_eqv a b
  rw [e]
  exact q
theorem rows_dct {K : PySem.W.Frag} {G : Hp} {p : Addr} : ∀ {rows : List (Str × Int)}, G p = some (.dK (rows.map prV)) → Dt K G (.ref p) (.dict (((rows.map fun r => (Sum.inr r.1 : Key)).map kD).zip (rows.map fun r => PyData.int r.2))) := fun {rows} e => by
  refine .dct (xs := rows.map fun r => V.int r.2) ?_ (by simp) (places_dt rows)
  rw [e]
  congr 2
  rw [List.zip_map']
  rfl
def spEqW (K : PySem.W.Frag) : Sp := fun vs H Q _ => ∃ (a rw_ oa ma : Addr) (rows more : List (Str × Int)), vs = [.ref a, .ref rw_, .ref oa, .ref ma] ∧ RowsOk rows ∧ RowsOk more ∧ WordsAt K H a rows ∧ WordsAt K H oa more ∧
  Dt K H (.ref rw_) (.list (rows.map rowPy)) ∧ Dt K H (.ref ma) (.list (more.map rowPy)) ∧ ∀ G, Same H G → Q (.bl true) G
section
variable {P : Program} {w : World} {K : PySem.W.Frag} {mg : Str → Option Value} {base : Heap}
abbrev s__law_equal_right : Stmt := top 28
theorem sc__law_equal_right : FnScope ["_law_words", "_law_rows_here", "_law_other", "_law_more", "_law_due", "_law_odd", "_law_thing"] ["_law_words", "_law_rows_here", "_law_other", "_law_more"] (defScope s__law_equal_right) := ⟨rfl, rfl, rfl, by decide +kernel, rfl, by decide +kernel, by decide +kernel⟩

set_option maxHeartbeats 1000000 in
theorem ok_equal_right (Y : Sys K) (bt : Bt mg) (T : IsC K (wcls K)) (mq_Words : Meth K (wcls K) "__eq__" (He.ma K (wcls K) "__eq__")) (ne_Words : NeC K (wcls K)) (ap_Words : ApK K (wcls K)) (p_Words___eq__ : PromA CX0 P w K mg base 1 (He.ma K (wcls K) "__eq__") ["self", "other"] (spWEq K))
    (cl_Words : Cls K (wcls K)) (mm_Words_names : Meth K (wcls K) "names" (He.ma K (wcls K) "names")) (p_Words_names : PromA CX0 P w K mg base 1 (He.ma K (wcls K) "names") ["self"] (spWNames K))
    (ms_Words : Meth K (wcls K) "__str__" (He.ma K (wcls K) "__str__")) (p_Words___str__ : PromA CX0 P w K mg base 1 (He.ma K (wcls K) "__str__") ["self"] (spWStr K))
    (g_NotThere : mg "NotThere" = some (.ref (He.ga K "NotThere"))) (x_NotThere : OwnT K (He.ga K "NotThere") "found" "LookupError.__new__" keyT)
    (pi_NotThere : PromA CX0 P w K mg base 1 (He.ma K (He.ga K "NotThere") "__init__") ["self", "found"] (spIni (He.ga K "NotThere") "found"))
    (t_NotThere : ExcC K (He.ga K "NotThere") (wcls K)) (n_NotThere : He.ga K "NotThere" ≠ wcls K) (i_NotThere : exI K (He.ga K "NotThere") = true) (k_NotThere : PySem.W.kitOne K (.ref (He.ga K "NotThere")) (.ref (wcls K)) = some false)
    (D : Def K mg "_law_equal_right" s__law_equal_right) : PromG P w K mg base 6 "_law_equal_right" ["_law_words", "_law_rows_here", "_law_other", "_law_more"] (spEqW K) := by
  refine promG_mk D sc__law_equal_right (fun vs H Q E h => ?_) (fun _ _ _ _ _ _ us hl => match us, hl with | [_, _, _, _], _ => rfl) (fun f cdv A outer s H vs Q E hgd hr h => ?_)
  · obtain ⟨a, rw_, oa, ma, rows, more, rfl, _⟩ := h
    rfl
  · obtain ⟨a, rw_, oa, ma, rows, more, rfl, ro, mo, wa, wo, hrw, hmr, q⟩ := h
    refine ⟨_, (pss_cons (ps_set (i := 4) sc__law_equal_right.nd rfl (Or.inl rfl) (pe_cmpR (op_eqDK (K := K) hr.units) (pv 1) (pv 3) (nomark _)))
      (pss_cons (ps_if (pt_cmpR op_ne (pe_callB (id := "repr") (reprK (K := K) Y hgd hr.units) (by rfl) bt.repr_ (by decide +kernel) (pa_cons (pe_lst (pa_cons (pe_cmpR (op_eqLR (K := K) mq_Words ap_Words p_Words___eq__ (hr.mono (by decide))) (pv 0) (pv 2) (nomark _)) (pa_cons (pe_cmpR (op_eqLR (K := K) mq_Words ap_Words p_Words___eq__ (hr.mono (by decide))) (pv 2) (pv 0) (nomark _)) (pa_cons (pe_cmpR (op_neLK (K := K) mq_Words ne_Words ap_Words p_Words___eq__ (hr.mono (by decide))) (pv 0) (pv 2) (nomark _)) pa_nil)))) pa_nil)) (pe_callB (id := "repr") (reprK (K := K) Y hgd hr.units) (by rfl) bt.repr_ (by decide +kernel) (pa_cons (pe_lst (pa_cons (pv 4) (pa_cons (pv 4) (pa_cons (pe_not (pv 4)) pa_nil)))) pa_nil)) (nomark _)) (pss_one (ps_ret pe_bl)) pss_nil)
      (pss_cons (ps_set (i := 5) sc__law_equal_right.nd rfl (Or.inl rfl) (pe_lst (pa_cons pe_non (pa_cons (pv 1) (pa_cons (pe_callTy (T := "tuple") (tupleK (K := K)) (by rfl) bt.tuple_ (by decide +kernel) (pa_cons (pv 1) pa_nil)) (pa_cons (pe_callTy (T := "str") (str_own ms_Words p_Words___str__ (hr.mono (by decide))) (by rfl) bt.str_ (by decide +kernel) (pa_cons (pv 0) pa_nil)) (pa_cons (pe_pm0 cl_Words mm_Words_names p_Words_names (hr.mono (by decide)) (pv 0)) (pa_cons pe_int (pa_cons pe_dnewK (pa_cons (pe_callTy (T := "dict") (call_dictP rfl) (by rfl) bt.dict_ (by decide +kernel) (pa_cons (pv 1) pa_nil)) (pa_cons (pe_exV bas_Key x_NotThere pi_NotThere (hr.mono (by decide)) rfl g_NotThere (pa_cons pe_str pa_nil)) pa_nil)))))))))))
      (pss_one (ps_ret (pe_cmpR (op_eqNil (K := K) hr.units) (pe_lc (own := [("_law_thing", 6)]) (g := gName 6) rfl sc__law_equal_right.nd (pi_listK (K := K) rfl (pv 5)) (blkOk_by (N := ["_law_words", "_law_rows_here", "_law_other", "_law_more", "_law_due", "_law_odd", "_law_thing"]) (sc := defScope s__law_equal_right) (by decide +kernel)) (fun _ _ _ _ _ => (pg_name (i := 6) sc__law_equal_right.nd rfl (Or.inl rfl))) (fun _ _ _ _ _ => (pts_one (PW.pt (pw_or (pt_cmpR (op_eqLX (K := K) mq_Words ap_Words t_NotThere p_Words___eq__ (hr.mono (by decide))) (pv 0) (pv 6) (nomark _)) (pw_or1 (pt_cmpR (op_eqRX (K := K) mq_Words ap_Words t_NotThere n_NotThere p_Words___eq__ (hr.mono (by decide))) (pv 6) (pv 0) (nomark _))))))) (fun _ _ _ _ _ => (pv 6))) (pe_lst pa_nil) (nomark _))))))), ?_⟩
    have few := ro.few
    obtain ⟨due, edue⟩ : ∃ due, due = decide (rows = more) := ⟨_, rfl⟩
    have edue2 : decide (more = rows) = due := by
      rw [edue]
      by_cases h : rows = more
      · rw [h]
      · rw [decide_eq_false h, decide_eq_false (fun e => h e.symm)]
    refine ⟨_, rfl, _, rfl, rows_eqD hrw hmr ro mo ?_⟩
    rw [← edue]
    obtain ⟨dx, D1, kvs, w1, _, _⟩ := id wa
    obtain ⟨dy, D2, kvt, v1, _, _⟩ := id wo
    refine ⟨_, rfl, _, rfl, .inl ⟨a, dx, _, rfl, w1, .inr ⟨oa, wcls K, _, _, rfl, v1, .inl rfl⟩, a, .ref oa, rows, rfl, wa, ro, .inl ⟨oa, more, rfl, wo, mo, fun G1 s1 => ⟨_, rfl, ?_⟩⟩⟩⟩
    rw [← edue]
    refine ⟨_, rfl, _, rfl, .inl ⟨oa, dy, _, rfl, s1 _ _ v1, .inr ⟨a, wcls K, _, _, rfl, s1 _ _ w1, .inl rfl⟩, oa, .ref a, more, rfl, wo.same s1, mo, .inl ⟨a, rows, rfl, wa.same s1, ro, fun G2 s2 => ⟨_, rfl, ?_⟩⟩⟩⟩
    rw [edue2]
    have s12 := s1.trans s2
    refine ⟨_, rfl, _, rfl, a, dx, _, rfl, s12 _ _ w1, .inr ⟨oa, wcls K, _, _, rfl, s12 _ _ v1, .inl rfl⟩, a, .ref oa, rows, rfl, wa.same s12, ro, .inl ⟨oa, more, rfl, wo.same s12, mo, fun G3 s3 => ⟨_, rfl, ?_⟩⟩⟩
    rw [← edue]
    refine ⟨(by show 3 ≤ sizeLine; decide), fun L1 hL1 => ?_⟩
    (generalize hG : L2.upd _ L1 _ = G4; have t1 := same_of hG hL1; have e1 := at_of hG; clear hG)
    have shb : Shows (.list [.bool due, .bool due, .bool (!due)]) := by cases due <;> exact ⟨by decide +kernel, by decide +kernel, by decide +kernel⟩
    refine ⟨.ref L1, _, rfl, .lst (.inl (.inl e1)) (.cons (.bl due) (.cons (.bl due) (.cons (.bl (!due)) .nil))), shb.ok, shb.deep, shb.size, ?_⟩
    refine ⟨_, rfl, _, rfl, _, rfl, _, rfl, (by show 3 ≤ sizeLine; decide), fun M1 hM1 => ?_⟩
    (generalize hG : L2.upd _ M1 _ = G5; have t2 := same_of hG hM1; have e2 := at_of hG; clear hG)
    refine ⟨.ref M1, _, rfl, .lst (.inl (.inl e2)) (.cons (.bl due) (.cons (.bl due) (.cons (.bl (!due)) .nil))), shb.ok, shb.deep, shb.size, rfl, _, rfl, iteF' noDiff ?_⟩
    have s5 := ((s12.trans s3).trans t1).trans t2
    obtain ⟨_, xr, er, hrL, hrA⟩ := hrw.list_inv
    cases er
    have lr : xr.length = rows.length := by rw [hrA.length, List.length_map]
    -- things of other kinds
    refine ⟨_, rfl, _, rfl, rw_, xr, rfl, .inl ⟨s5.seq hrL, fun tp htp => ?_⟩⟩
    (generalize hG : L2.upd _ tp _ = G6; have u1 := same_of hG htp; have etp := at_of hG; clear hG)
    have s6 := s5.trans u1
    refine ⟨_, rfl, a, dx, _, rfl, s6 _ _ w1, a, rows, rfl, wa.same s6, ro, fun G7 u2 => ⟨_, rfl, ?_⟩⟩
    have s7 := s6.trans u2
    refine ⟨_, rfl, a, dx, _, rfl, s7 _ _ w1, rfl, a, rows, rfl, wa.same s7, few, fun G8 np u3 hnp enp => ?_⟩
    have s8 := s7.trans u3
    refine fun dd hdd => ?_
    (generalize hG : L2.upd _ dd _ = G9; have u4 := same_of hG hdd; have edd := at_of hG; clear hG)
    have s9 := s8.trans u4
    obtain ⟨ps, eps, hps⟩ := rows_pairs (DtAll.same s9 hrA)
    refine ⟨_, rfl, rw_, ps, _, rfl, by rw [← eps]; exact s9.seq hrL, hps, fun PD hPD => ?_⟩
    rw [merge_new (acc := []) (by
      rw [List.nil_append, List.map_map]
      exact List.pairwise_map.mpr ((List.pairwise_map.mp ro.nd).imp fun z e => z (Sum.inr.inj e))), List.nil_append]
    (generalize hG : L2.upd _ PD _ = G10; have u5 := same_of hG hPD; have ePD := at_of hG; clear hG)
    have s10 := s9.trans u5
    refine ⟨by decide, fun xa hxa => ⟨xa, _, rfl, upd_same .., fun db hdb ndb => ⟨rfl, ?_⟩⟩⟩
    generalize hG : L2.upd (L2.upd (L2.upd G10 xa _) db _) xa _ = G11
    have exa : G11 xa = some (exo xa (He.ga K "NotThere") (some db)) := by rw [← hG]; exact upd_same ..
    have edb : G11 db = some (exd db [("found", .str "a")]) := by rw [← hG, upd_ne ndb]; exact upd_same ..
    have u6 : Same G10 G11 := fun b o e => by
      have n1 : b ≠ xa := ne_of_none e hxa
      have n2 : b ≠ db := fun z => by
        rw [z] at e n1
        rw [upd_ne n1] at hdb
        rw [e] at hdb
        cases hdb
      rw [← hG, upd_ne n1, upd_ne n2, upd_ne n1]
      exact e
    clear hG
    have s11 := s10.trans u6
    have nxa : xa ≠ a := fun z => by rw [z, s10 _ _ w1] at hxa; cases hxa
    refine ⟨(by show 9 ≤ sizeLine; decide), fun O hO => ?_⟩
    (generalize hG : L2.upd _ O _ = G12; have u7 := same_of hG hO; have eO := at_of hG; clear hG)
    have s12' := s11.trans u7
    have u27 : Same G6 G12 := ((((u2.trans u3).trans u4).trans u5).trans u6).trans u7
    have odd : ∀ x ∈ ([V.non, .ref rw_, .ref tp, .str (shownW rows), .ref np, .int 5, .ref dd, .ref PD, .ref xa] : List V), (∃ d, Dt K G12 x d) ∨ x = .ref xa := by
      intro x hx
      simp only [List.mem_cons, List.not_mem_nil, or_false] at hx
      rcases hx with rfl | rfl | rfl | rfl | rfl | rfl | rfl | rfl | rfl
      · exact .inl ⟨_, .non⟩
      · exact .inl ⟨_, Dt.same s12' hrw⟩
      · exact .inl ⟨_, .tup (.inl (.inl (u27 _ _ etp))) (DtAll.same s12' hrA)⟩
      · exact .inl ⟨_, .str _⟩
      · exact .inl ⟨_, .lst (.inl (.inl ((((u4.trans u5).trans u6).trans u7) _ _ enp))) (names_dt rows)⟩
      · exact .inl ⟨_, .int _⟩
      · exact .inl ⟨_, .dct (ks := []) (xs := []) (ds := []) (((u5.trans u6).trans u7) _ _ edd) rfl .nil⟩
      · exact .inl ⟨_, rows_dct ((u6.trans u7) _ _ ePD)⟩
      · exact .inr rfl
    refine ⟨_, rfl, O, rfl, ⟨_, .inl (.inl eO)⟩, fun R hR => ?_⟩
    refine lc_it walk_list (fun i G => Same G12 G ∧ G R = some (.lst [])) ⟨Same.new (Same.refl _) hR, upd_same ..⟩ (fun i G _ p => p.1.seq (.inl (.inl eO))) ?_ ?_
    · rintro i x F1 F2 hi ⟨sF, eF⟩ ⟨rfl, hx⟩
      have sA := s12'.trans sF
      have j1 := sA _ _ w1
      have waF := wa.same sA
      rcases odd x (List.mem_of_getElem? hx) with ⟨d, hd⟩ | rfl
      · have hd1 := Dt.same sF hd
        have nc : NotC K F2 (wcls K) x := ⟨_, hd1.ty, T.data d⟩
        refine ⟨rfl, _, rfl, _, rfl, .inl ⟨a, dx, _, rfl, j1, .inl ⟨d, hd1⟩, a, x, rows, rfl, waF, ro, .inr (.inl ⟨nc, false, rfl, _, rfl, iteF ?_⟩)⟩⟩
        exact ⟨_, rfl, _, rfl, .inl ⟨d, a, dx, _, hd1, rfl, j1, a, x, rows, rfl, waF, ro, .inr (.inl ⟨nc, false, rfl, _, rfl, iteF ⟨sF, eF⟩⟩)⟩⟩
      · have x1 := sF _ _ (u7 _ _ exa)
        have x2 := sF _ _ (u7 _ _ edb)
        refine ⟨rfl, _, rfl, _, rfl, .inr ⟨a, dx, _, xa, db, rfl, j1, rfl, x1, a, .ref xa, rows, rfl, waF, ro, .inr (.inr ⟨xa, _, db, _, rfl, x1, x2, i_NotThere, k_NotThere, false, rfl, _, rfl, iteF ?_⟩)⟩⟩
        exact ⟨_, rfl, _, rfl, .inr ⟨a, dx, _, xa, db, rfl, x1, rfl, j1, nxa, a, .ref xa, rows, rfl, waF, ro, .inr (.inr ⟨xa, _, db, _, rfl, x1, x2, i_NotThere, k_NotThere, false, rfl, _, rfl, iteF ⟨sF, eF⟩⟩)⟩⟩
    · rintro F1 ⟨sF, eF⟩
      refine ⟨(by show 0 ≤ sizeLine; decide), fun E1 hE1 => ?_⟩
      (generalize hG : L2.upd _ E1 _ = F2; have sE1 := same_of hG hE1; have eE1 := at_of hG; clear hG)
      exact ⟨R, E1, [], rfl, rfl, .inl (.inl (sE1 _ _ eF)), .inl (.inl eE1), q _ ((s12'.trans sF).trans sE1)⟩
end

end TS

namespace TS
open PySem PySem.Spec PyProof.Rows L2 TL
/-! ### the law -/
def spLaw (K : PySem.W.Frag) : Sp := fun vs H Q _ => ∃ (a : Addr) (ns : List Int), vs = [.ref a] ∧ SqL K H a (ns.map V.int) ∧ ns.length ≤ 63 ∧ ∀ H', Q (.bl true) H'
theorem rowsL_true {ds : List PyData} (h1 : 1 ≤ ds.length) (h2 : ds.length ≤ 12) (a : ∀ d ∈ ds, rowD d = true) (nd : (ds.map nmOf).Nodup) : rowsL ds = true := by
  unfold rowsL
  rw [decide_eq_true h1, decide_eq_true h2, List.all_eq_true.mpr a, decide_eq_true nd]
  rfl
theorem rows_L {rows : List (Str × Int)} (ro : RowsOk rows) : rowsL (rows.map rowPy) = true := by
  refine rowsL_true (by rw [List.length_map]; exact ro.some_) (by rw [List.length_map]; exact ro.few) (fun d hd => ?_) (by rw [List.map_map]; exact ro.nd)
  obtain ⟨r, hr, rfl⟩ := List.mem_map.mp hd
  show (nameS r.1 && (decide (0 ≤ r.2) && decide (r.2 ≤ 4))) = true
  rw [ro.names r hr, decide_eq_true (ro.lo r hr), decide_eq_true (ro.hi r hr)]
  rfl
theorem rows_back (rows : List (Str × Int)) : (rows.map rowPy).map rowOf = rows := by
  rw [List.map_map]
  exact List.map_id rows
theorem sm_rows {rows : List (Str × Int)} (ro : RowsOk rows) : Sm 2 276 (.list (rows.map rowPy)) := by
  refine Sm.list (m := 12) (k := 1) (n := 22) (fun d hd => ?_) (by rw [List.length_map]; exact ro.few)
  obtain ⟨r, hr, rfl⟩ := List.mem_map.mp hd
  have h1 := ro.lo r hr
  have h2 := ro.hi r hr
  refine Sm.tuple (m := 2) (k := 0) (n := 10) (fun e he => ?_) (by simp)
  simp only [List.mem_cons, List.not_mem_nil, or_false] at he
  rcases he with rfl | rfl
  · have h := ro.names r hr
    unfold nameS at h
    obtain ⟨h1, h3⟩ := Bool.and_eq_true_iff.mp h
    obtain ⟨_, h2⟩ := Bool.and_eq_true_iff.mp h1
    exact Sm.str (fun c m => Nat.lt_of_le_of_lt (of_decide_eq_true (Bool.and_eq_true_iff.mp (List.all_eq_true.mp h3 c m)).2) (by decide)) (Nat.le_trans (of_decide_eq_true h2) (by decide))
  · exact Sm.int (by omega) (by omega)
/-- Words(rows), rows being what they must be -/
theorem words_of {K : PySem.W.Frag} {H : Hp} {a dx : Addr} {x : V} {d : PyData} {rows : List (Str × Int)} {C : Hp → Prop} {E : XK} (ro : RowsOk rows) (ha : H a = none) (hdx : H dx = none) (ne : dx ≠ a) (h : Dt K H x d) (hs : d = .list (rows.map rowPy) ∨ d = .tuple (rows.map rowPy))
    (k : ∀ G, Same H G → WordsAt K G a rows → C G) : spWIni K [.ref a, x] (L2.upd (L2.upd H dx (.own a)) a (.ins (wcls K) dx [])) (fun v G => v = .non ∧ C G) E := by
  have s1 : Same H (L2.upd (L2.upd H dx (.own a)) a (.ins (wcls K) dx [])) := fun b o e => by
    rw [upd_ne (ne_of_none e ha), upd_ne (ne_of_none e hdx)]
    exact e
  have rl := rows_L ro
  have es : seqD d = some (rows.map rowPy) := by rcases hs with rfl | rfl <;> rfl
  have wd : d.weight ≤ 100000 := by
    have := (sm_rows ro).to.2.2.2
    rcases hs with rfl | rfl
    · exact Nat.le_trans this (by decide)
    · unfold PyData.weight at this ⊢
      exact Nat.le_trans this (by decide)
  refine ⟨a, dx, _, d, rfl, upd_same .., Dt.same s1 h, wd, fun ds e => ?_, fun ds e _ G fx wa => ⟨rfl, ?_⟩, fun c => ?_⟩
  · rw [es] at e
    cases e
    rw [List.length_map]
    exact Nat.le_trans ro.few (by decide)
  · rw [es] at e
    cases e
    rw [rows_back] at wa
    exact k G (fun b o e => fx b o (ne_of_none e ha) (s1 _ _ e)) wa
  · have : rowsD d = true := by unfold rowsD; rw [es]; exact rl
    rw [this] at c
    cases c
theorem SqT.hide {K : PySem.W.Frag} {G : Hp} {b t : Addr} {l xs : List V} (hb : G b = some (.lst l)) (h : SqT K G t xs) : SqT K (hide G b) t xs := by
  rcases h with (h | ⟨q, h⟩) | h
  · exact .inl (.inl (by rw [hide_ne fun e => by rw [e, hb] at h; cases h]; exact h))
  · exact .inl (.inr ⟨q, by rw [hide_ne fun e => by rw [e, hb] at h; cases h]; exact h⟩)
  · exact .inr h
theorem WordsAt.hide {K : PySem.W.Frag} {G : Hp} {b a : Addr} {l : List V} {rows : List (Str × Int)} (hb : G b = some (.lst l)) (h : WordsAt K G a rows) : WordsAt K (hide G b) a rows := by
  obtain ⟨dx, D, kvs, e1, e2, e3⟩ := h
  exact ⟨dx, D, kvs, by rw [hide_ne fun e => by rw [e, hb] at e1; cases e1]; exact e1, by rw [hide_ne fun e => by rw [e, hb] at e2; cases e2]; exact e2, e3.len, fun i r q => let ⟨t, x, y⟩ := e3.at_ i r q; ⟨t, x, SqT.hide hb y⟩⟩
theorem keepF {H H3 G : Hp} {b : Addr} (s : Same H H3) (f : Fx b H3 G) (h : H b = none) : Same H G := fun p o e => f p o (ne_of_none e h) (s p o e)
section
variable {P : Program} {w : World} {K : PySem.W.Frag} {mg : Str → Option Value} {base : Heap}
abbrev s_law : Stmt := top 29
theorem sc_law : FnScope ["_law_script", "_law_k", "_law_box_here", "_law_rows_here", "_law_handed", "_law_words", "_law_turn", "_law_more"] ["_law_script"] (defScope s_law) := ⟨rfl, rfl, rfl, by decide +kernel, rfl, by decide +kernel, by decide +kernel⟩

set_option maxHeartbeats 1000000 in
theorem ok_law (bt : Bt mg) (p__law_cell : Prom P w K mg base 1 "_law_cell" ["_law_script", "_law_k"] (spCell K)) (p__law_box : Prom P w K mg base 1 "_law_box" ["_law_cell_here"] spBag) (p__law_take : Prom P w K mg base 1 "_law_take" ["_law_box_here", "_law_many"] spTake)
    (p__law_rows : Prom P w K mg base 3 "_law_rows" ["_law_box_here"] (spDRows K)) (g_Words : mg "Words" = some (.ref (wcls K))) (m_Words : Mk K (wcls K) (He.ma K (wcls K) "__init__")) (p_Words___init__ : PromA (L2.CX P w) P w K mg base 4 (He.ma K (wcls K) "__init__") ["self", "rows"] (spWIni K))
    (p__law_told_right : PromG P w K mg base 6 "_law_told_right" ["_law_words", "_law_rows_here"] (spTR K)) (p__law_asked_right : PromG P w K mg base 7 "_law_asked_right" ["_law_words", "_law_rows_here"] (spTR K)) (p__law_near : Prom P w K mg base 2 "_law_near" ["_law_box_here", "_law_rows_here"] (spNear K))
    (p__law_equal_right : PromG P w K mg base 6 "_law_equal_right" ["_law_words", "_law_rows_here", "_law_other", "_law_more"] (spEqW K))
    {fL : Addr} {fdL : FuncData} (FL : FunD K "law" "law" (defArgs s_law) (defBody s_law) (defScope s_law) [] [] fL fdL) : FnG P w K mg base CX0 9 fL fdL ["_law_script"] (spLaw K) := by
  refine fnG_mk FL sc_law (fun vs H Q E h => ?_) (fun f cdv A outer s H vs Q E hgd hr h => ?_)
  · obtain ⟨a, ns, rfl, _⟩ := h
    rfl
  · obtain ⟨a, ns, rfl, hS, hl, q⟩ := h
    refine ⟨_, (pss_cons (ps_for PassesOwn.never rfl (pi_range1 rfl bt.range_ (pa_cons (pe_callB (id := "max") (call_max2 rfl) (by rfl) bt.max_ (by decide +kernel) (pa_cons pe_int (pa_cons (pe_callB (id := "min") (call_min2 rfl) (by rfl) bt.min_ (by decide +kernel) (pa_cons pe_int (pa_cons (pe_callB (id := "len") (lenK (K := K)) (by rfl) bt.len_ (by decide +kernel) (pa_cons (pv 0) pa_nil)) pa_nil))) pa_nil))) pa_nil)) (pg_name (i := 1) sc_law.nd rfl (Or.inl rfl)) (pss_cons (ps_set (i := 2) sc_law.nd rfl (Or.inl rfl) (pe_pc p__law_box (hr.mono (by decide)) rfl (pa_cons (pe_pc p__law_cell (hr.mono (by decide)) rfl (pa_cons (pv 0) (pa_cons (pv 1) pa_nil))) pa_nil)))
      (pss_cons (ps_set (i := 3) sc_law.nd rfl (Or.inl rfl) (pe_pc p__law_rows (hr.mono (by decide)) rfl (pa_cons (pv 2) pa_nil)))
      (pss_cons (ps_set (i := 4) sc_law.nd rfl (Or.inl rfl) (pe_callTy (T := "list") (listK (K := K)) (by rfl) bt.list_ (by decide +kernel) (pa_cons (pv 3) pa_nil)))
      (pss_cons (ps_set (i := 5) sc_law.nd rfl (Or.inl rfl) (pe_makeS m_Words p_Words___init__ takes0 (hr.mono (by decide)) rfl g_Words (pa_cons (pe_ix (ix_listK (K := K)) (pe_lst (pa_cons (pv 4) (pa_cons (pe_callTy (T := "tuple") (tupleK (K := K)) (by rfl) bt.tuple_ (by decide +kernel) (pa_cons (pv 4) pa_nil)) pa_nil))) (pe_pc p__law_take (hr.mono (by decide)) rfl (pa_cons (pv 2) (pa_cons pe_int pa_nil))) (fun _ _ => rfl)) pa_nil)))
      (pss_cons (ps_expr (pe_appendK (K := K) rfl (pv 4) (pe_tup (pa_cons pe_str (pa_cons pe_int pa_nil)))))
      (pss_cons (ps_expr (pe_bm0 PySem.F.plainAttrs_list PySem.F.slot_list_reverse PySem.F.type_list_reverse mt_reverse (pv 4)))
      (pss_cons (ps_if (PW.pt (pw_or (pt_not (pt_val (pe_pcG p__law_told_right hgd (hr.mono (by decide)) rfl (pa_cons (pv 5) (pa_cons (pv 3) pa_nil))))) (pw_or1 (pt_not (pt_val (pe_pcG p__law_asked_right hgd (hr.mono (by decide)) rfl (pa_cons (pv 5) (pa_cons (pv 3) pa_nil)))))))) (pss_one (ps_ret pe_bl)) pss_nil)
      (pss_cons (ps_for PassesOwn.never rfl (pi_range1 rfl bt.range_ (pa_cons pe_int pa_nil)) (pg_name (i := 6) sc_law.nd rfl (Or.inl rfl)) (pss_cons (ps_set (i := 7) sc_law.nd rfl (Or.inl rfl) (pe_pc p__law_near (hr.mono (by decide)) rfl (pa_cons (pv 2) (pa_cons (pv 3) pa_nil))))
      (pss_one (ps_if (pt_not (pt_val (pe_pcG p__law_equal_right hgd (hr.mono (by decide)) rfl (pa_cons (pv 5) (pa_cons (pv 3) (pa_cons (pe_makeS m_Words p_Words___init__ takes0 (hr.mono (by decide)) rfl g_Words (pa_cons (pe_callTy (T := "tuple") (tupleK (K := K)) (by rfl) bt.tuple_ (by decide +kernel) (pa_cons (pv 7) pa_nil)) pa_nil)) (pa_cons (pv 7) pa_nil))))))) (pss_one (ps_ret pe_bl)) pss_nil))))
      (pss_one (ps_if (pt_not (pt_val (pe_pcG p__law_told_right hgd (hr.mono (by decide)) rfl (pa_cons (pv 5) (pa_cons (pv 3) pa_nil))))) (pss_one (ps_ret pe_bl)) pss_nil)))))))))))
      (pss_one (ps_ret pe_bl))), ?_⟩
    have hn3 : ∀ k : Int, k = (if (if (ns.map V.int).length < (8 : Int) then ((ns.map V.int).length : Int) else 8) > 2 then (if (ns.map V.int).length < (8 : Int) then ((ns.map V.int).length : Int) else 8) else 2) → 0 ≤ k ∧ k ≤ 8 := by
      intro k hk
      rw [hk]
      split <;> split <;> omega
    refine ⟨_, rfl, _, _, rfl, .inl ⟨_, hS, rfl⟩, _, _, rfl, _, _, rfl, _, rfl, ?_, ?_, ?_⟩
    · have := hn3 _ rfl
      omega
    · have := hn3 _ rfl
      omega
    have hb12 := (hn3 _ rfl).2
    refine for_it walk_range (fun i σ H' => (∃ s1 s2 s3 s4 s5 s6 s7 : Option V, σ = [some (.ref a), s1, s2, s3, s4, s5, s6, s7]) ∧ Same H H') ⟨⟨_, _, _, _, _, _, _, rfl⟩, Same.refl H⟩ (fun _ _ _ _ _ => trivial) ?_ (fun σ G p => q G)
    rintro i x σ H1' H1 hi ⟨⟨s1, s2, s3, s4, s5, s6, s7, rfl⟩, e1⟩ ⟨rfl, rfl⟩
    refine ⟨_, rfl, _, rfl, a, ns, i, (by show [V.ref a, V.int (0 + (i : Int))] = _; rw [Int.zero_add]), e1.seq hS, by omega, fun c => ?_⟩
    refine ⟨c, rfl, fun b o hb bg => ?_⟩
    have hbH : H b = none := e1.free hb
    (generalize hG : L2.upd _ b _ = H2; have sb := same_of hG hb; have eb := at_of hG; clear hG)
    refine ⟨_, rfl, b, 890000000, rfl, ⟨o, eb, bg.mono (by decide)⟩, fun H3 rw_ rows d3 ro fr hrw ⟨xs, exs, dxs⟩ nrw hrows => ?_⟩
    have e3 : Same H H3 := keepF (e1.trans sb) d3.fx hbH
    refine ⟨_, rfl, rw_, xs, rfl, .inl (.inl (.inl exs)), fun h hh => ?_⟩
    have nhb : h ≠ b := d3.ne hh
    (generalize hG : L2.upd _ h _ = H4; have sh := same_of hG hh; have eh := at_of hG; clear hG)
    refine ⟨_, rfl, _, rfl, h, xs, rfl, .inl ⟨.inl (.inl eh), fun tp htp => ?_⟩⟩
    (generalize hG : L2.upd _ tp _ = H5; have st := same_of hG htp; have etp := at_of hG; clear hG)
    refine ⟨(by show 2 ≤ sizeLine; decide), fun Lh hLh => ?_⟩
    (generalize hG : L2.upd _ Lh _ = H6; have sL := same_of hG hLh; have eL := at_of hG; clear hG)
    have D6 : Dr b 890000000 H3 H6 := Dr.same ((sh.trans st).trans sL) d3.bag
    have nLh : Lh ≠ b := (Dr.same (sh.trans st) d3.bag).ne hLh
    have ntp : tp ≠ b := (Dr.same sh d3.bag).ne htp
    refine ⟨_, rfl, b, _, 889999999, 2, rfl, D6.bag.choose_spec.1, D6.bag.choose_spec.2, by decide, by decide +kernel, fun x7 o7 l7 u7 g7 => ?_⟩
    (generalize hG : L2.upd _ b _ = H7; have d7 := dr_of hG g7; clear hG)
    have D7 := D6.trans d7
    have eh7 : H7 h = some (.lst xs) := d7.at nhb (sL _ _ (st _ _ eh))
    have dx7 : DtAll K H7 xs (rows.map rowPy) := DtAll.same (D7.hide.trans hide_same) dxs
    obtain ⟨v, hv, hvm⟩ := atI_in (xs := [V.ref h, .ref tp]) l7 u7
    obtain ⟨d, dv, kd⟩ : ∃ d, Dt K H7 v d ∧ (d = .list (rows.map rowPy) ∨ d = .tuple (rows.map rowPy)) := by
      simp only [List.mem_cons, List.not_mem_nil, or_false] at hvm
      rcases hvm with rfl | rfl
      · exact ⟨_, .lst (.inl (.inl eh7)) dx7, .inl rfl⟩
      · exact ⟨_, .tup (.inl (.inl (d7.at ntp (sL _ _ etp)))) dx7, .inr rfl⟩
    refine ⟨Lh, _, _, _, rfl, rfl, .inl (.inl (d7.at nLh eL)), hv, fun wa dx hwa hdx ne => words_of ro hwa hdx ne dv kd fun G8 s8 wAt => ?_⟩
    have eh8 := s8 _ _ eh7
    refine ⟨_, rfl, .inl ⟨rfl, _, .inl (.inl eh8)⟩, (by show 2 ≤ sizeLine; decide), fun lt hlt => ?_⟩
    (generalize hG : L2.upd _ lt _ = G9; have s9 := same_of hG hlt; have elt := at_of hG; clear hG)
    have eh9 := s9 _ _ eh8
    have lxs : xs.length ≤ 12 := by rw [dx7.length, List.length_map]; exact ro.few
    refine ⟨h, xs, _, rfl, rfl, eh9, sz5' (by omega), ?_⟩
    refine ⟨_, rfl, .inl ⟨rfl, _, .inl (.inl (upd_same ..))⟩, h, _, rfl, rfl, upd_same .., ?_⟩
    generalize hG : L2.upd (L2.upd G9 h _) h _ = G10
    have fxh : Fx h G9 G10 := hG ▸ (Fx.refl h G9).upd.upd
    clear hG
    have hh3 : H3 h = none := hh
    have fx10 : Fx b H3 G10 := fun p o np e => fxh p o (ne_of_none e hh3) (s9 _ _ (s8 _ _ (D7.at np e)))
    have bag10 : ∃ o, G10 b = some o ∧ Bag 889999999 o := let ⟨o, e, g⟩ := d7.bag; ⟨o, fxh _ _ (Ne.symm nhb) (s9 _ _ (s8 _ _ e)), g⟩
    have sH10 : Same H G10 := keepF e3 fx10 hbH
    have dR : Dt K (hide G10 b) (.ref rw_) (.list (rows.map rowPy)) := Dt.same fx10.hide hrows
    have wA9 : WordsAt K (hide G9 h) wa rows := WordsAt.hide eh9 (wAt.same s9)
    have wA : WordsAt K G10 wa rows := wA9.same (fxh.hide.trans hide_same)
    refine ⟨_, rfl, _, rfl, wa, rw_, rows, rfl, wA, ro, Dt.same hide_same dR, fun G11 s11 => ⟨_, rfl, iteF ⟨_, rfl, _, rfl, wa, rw_, rows, rfl, wA.same s11, ro, Dt.same (hide_same.trans s11) dR, fun G12 s12 => ⟨_, rfl, iteF ?_⟩⟩⟩⟩
    have s1012 := s11.trans s12
    have bag12 : ∃ o, G12 b = some o ∧ Bag 889999999 o := let ⟨o, e, g⟩ := bag10; ⟨o, s1012 _ _ e, g⟩
    have wA12 : WordsAt K (hide G12 b) wa rows := by
      obtain ⟨o, e, g⟩ := bag12
      obtain ⟨l, rfl⟩ := g.is
      exact WordsAt.hide e (wA.same s1012)
    have dR12 := Dt.same (Fx.of (b := b) s1012).hide dR
    refine ⟨3, rfl, by decide, by decide, ?_⟩
    refine for_it walk_range (fun j σ G => (∃ s6 s7 : Option V, σ = [some (.ref a), some (.int (0 + (i : Int))), some (.ref b), some (.ref rw_), some (.ref h), some (.ref wa), s6, s7]) ∧ Same H G ∧ (∃ o, G b = some o ∧ Bag (880000000 - 10 * j) o) ∧ Dt K (hide G b) (.ref rw_) (.list (rows.map rowPy)) ∧ WordsAt K (hide G b) wa rows)
      ⟨⟨_, _, rfl⟩, sH10.trans s1012, let ⟨o, e, g⟩ := bag12; ⟨o, e, g.mono (by decide)⟩, dR12, wA12⟩ (fun _ _ _ _ _ => trivial) ?_ ?_
    · rintro j x σ GG G hj ⟨⟨s6, s7, rfl⟩, eG, bG, rG, wG⟩ ⟨rfl, rfl⟩
      have hj3 : j < 3 := hj
      refine ⟨_, rfl, _, rfl, b, rw_, 880000000 - 10 * (j + 1), rows, rfl, let ⟨o, e, g⟩ := bG; ⟨o, e, g.mono (by omega)⟩, ro, fr, rG, fun G1 m_ more dN mo nm hm dM => ?_⟩
      obtain ⟨_, ys, er, hmL, hmA⟩ := (Dt.same hide_same dM).list_inv
      cases er
      refine ⟨_, rfl, _, rfl, _, rfl, m_, ys, rfl, .inl ⟨hmL, fun tq htq => ?_⟩⟩
      (generalize hG : L2.upd _ tq _ = G2; have t1 := same_of hG htq; have etq := at_of hG; clear hG)
      have dT : Dt K G2 (.ref tq) (.tuple (more.map rowPy)) := .tup (.inl (.inl etq)) (DtAll.same t1 hmA)
      refine fun wb dxb hwb hdb neb => words_of mo hwb hdb neb dT (.inr rfl) fun G3 t2 wB => ?_
      have s13 := t1.trans t2
      have wG1 := wG.same dN.hide
      have rG1 := Dt.same dN.hide rG
      refine ⟨_, rfl, wa, rw_, wb, m_, rows, more, rfl, ro, mo, wG1.same (hide_same.trans s13), wB, Dt.same (hide_same.trans s13) rG1, Dt.same (hide_same.trans s13) dM, fun G4 t3 => ⟨_, rfl, iteF ?_⟩⟩
      have s14 := s13.trans t3
      refine ⟨⟨_, _, rfl⟩, keepF (keepF eG dN.fx hbH) (Fx.of s14) hbH, let ⟨o, e, g⟩ := dN.bag; ⟨o, s14 _ _ e, g⟩, Dt.same (Fx.of (b := b) s14).hide rG1, wG1.same (Fx.of (b := b) s14).hide⟩
    · rintro σ G ⟨⟨s6, s7, rfl⟩, eG, bG, rG, wG⟩
      refine ⟨_, rfl, _, rfl, wa, rw_, rows, rfl, wG.same hide_same, ro, Dt.same hide_same rG, fun G1 t1 => ⟨_, rfl, iteF ?_⟩⟩
      exact ⟨⟨_, _, _, _, _, _, _, rfl⟩, eG.trans t1⟩
end

end TS

namespace TS
open PySem PySem.Spec PyProof.Rows L2 TL
section
variable {P : Program} {w : World} {K : PySem.W.Frag} {mg : Str → Option Value} {base : Heap}
abbrev s__law_cell : Stmt := top 17
theorem sc__law_cell : FnScope ["_law_script", "_law_k"] ["_law_script", "_law_k"] (defScope s__law_cell) := ⟨rfl, rfl, rfl, by decide +kernel, rfl, by decide +kernel, by decide +kernel⟩

theorem ok_cell (bt : Bt mg) (D : Def K mg "_law_cell" s__law_cell) : Prom P w K mg base 1 "_law_cell" ["_law_script", "_law_k"] (spCell K) := by
  refine prom_mk D sc__law_cell (fun vs H Q E h => ?_) (fun _ _ _ _ _ _ us hl => match us, hl with | [_, _], _ => rfl) (fun f cdv A outer s H vs Q E hr h => ?_)
  · obtain ⟨a, ns, k, rfl, _⟩ := h
    rfl
  · obtain ⟨a, ns, k, rfl, hS, hk, q⟩ := h
    refine ⟨_, (pss_cons (ps_if (pt_cmpR op_lt (pv 1) (pe_callB (id := "len") (lenK (K := K)) (by rfl) bt.len_ (by decide +kernel) (pa_cons (pv 0) pa_nil)) (nomark _)) (pss_one (ps_ret (pe_ix (ix_listK (K := K)) (pv 0) (pv 1) (fun _ _ => rfl)))) pss_nil)
      (pss_one (ps_ret (pe_op op_add (pe_op op_mul pe_int (pv 1)) pe_int)))), ?_⟩
    refine ⟨_, rfl, _, rfl, _, _, rfl, .inl ⟨_, hS, rfl⟩, _, _, rfl, rfl, _, rfl, ?_⟩
    refine ite2 (fun c => ?_) (fun c => ?_)
    · have c' := of_decide_eq_true c
      rw [List.length_map] at c'
      have hk' : k < ns.length := by omega
      exact ⟨_, rfl, _, rfl, a, _, _, .int ns[k], rfl, rfl, hS, atI_nat (by rw [List.getElem?_map, List.getElem?_eq_getElem hk']; rfl), q _⟩
    · exact ⟨_, rfl, _, _, rfl, rfl, .inl ⟨by decide, by decide⟩, _, _, rfl, rfl, q _⟩
abbrev s__law_box : Stmt := top 18
theorem sc__law_box : FnScope ["_law_cell_here"] ["_law_cell_here"] (defScope s__law_box) := ⟨rfl, rfl, rfl, by decide +kernel, rfl, by decide +kernel, by decide +kernel⟩

theorem ok_bag (bt : Bt mg) (D : Def K mg "_law_box" s__law_box) : Prom P w K mg base 1 "_law_box" ["_law_cell_here"] spBag := by
  refine prom_mk D sc__law_box (fun vs H Q E h => ?_) (fun _ _ _ _ _ _ us hl => match us, hl with | [_], _ => rfl) (fun f cdv A outer s H vs Q E hr h => ?_)
  · obtain ⟨c, rfl, _⟩ := h
    rfl
  · obtain ⟨c, rfl, q⟩ := h
    refine ⟨_, (pss_one (ps_ret (pe_lst (pa_cons (pe_callB (id := "max") (call_max2 rfl) (by rfl) bt.max_ (by decide +kernel) (pa_cons pe_int (pa_cons (pe_op op_sub (pv 0) (pe_op op_pow pe_int pe_int)) pa_nil))) (pa_cons (pe_op op_mod (pv 0) pe_int) (pa_cons pe_int pa_nil)))))), ?_⟩
    refine ⟨_, rfl, _, _, rfl, rfl, ⟨by decide, by decide, by decide⟩, _, _, rfl, rfl, _, _, rfl, ?_⟩
    refine ⟨_, rfl, _, _, rfl, rfl, (by show (0 : Int) < 2147483629; decide), (by show 3 ≤ sizeLine; decide), fun p hp => q p _ hp ?_⟩
    refine ⟨_, _, _, rfl, ?_, Int.emod_nonneg _ (by decide), Int.emod_lt_of_pos _ (by decide), Int.le_refl 0, by decide⟩
    split <;> omega
abbrev s__law_take : Stmt := top 19
theorem sc__law_take : FnScope ["_law_box_here", "_law_many", "_law_digit", "_law_number"] ["_law_box_here", "_law_many"] (defScope s__law_take) := ⟨rfl, rfl, rfl, by decide +kernel, rfl, by decide +kernel, by decide +kernel⟩

theorem pow_small {x : Int} {n : Nat} (h0 : 0 ≤ x) (h1 : x < 2 ^ 60) : x.natAbs < 2 ^ 64 := by
  have : (2 : Int) ^ 60 = 1152921504606846976 := by decide
  have h2 : (2 : Nat) ^ 64 = 18446744073709551616 := by decide
  omega
theorem ok_take (D : Def K mg "_law_take" s__law_take) : Prom P w K mg base 1 "_law_take" ["_law_box_here", "_law_many"] spTake := by
  refine prom_mk D sc__law_take (fun vs H Q E h => ?_) (fun _ _ _ _ _ _ us hl => match us, hl with | [_, _], _ => rfl) (fun f cdv A outer s H vs Q E hr h => ?_)
  · obtain ⟨b, o, n, many, rfl, _⟩ := h
    rfl
  · obtain ⟨b, o, n, many, rfl, hb, ⟨x, y, z, rfl, hx, hy, hy', hz, hn⟩, hm, hm', q⟩ := h
    have hL : ∀ {H : Hp} {xs : List V}, H b = some (.lst xs) → SqL K H b xs := fun h => .inl (.inl h)
    refine ⟨_, (pss_cons (ps_if (pt_cmpR op_gt (pe_ix (ix_listK (K := K)) (pv 0) pe_int (fun _ _ => rfl)) pe_int (nomark _)) (pss_cons (ps_set (i := 2) sc__law_take.nd rfl (Or.inl rfl) (pe_op op_mod (pe_ix (ix_listK (K := K)) (pv 0) pe_int (fun _ _ => rfl)) (pv 1)))
      (pss_cons (ps_asg (pe_op op_fdivW (pe_ix (ix_listK (K := K)) (pv 0) pe_int (fun _ _ => rfl)) (pv 1)) (pg_sub (pv 0) pe_int set_list))
      (pss_one (ps_ret (pv 2))))) pss_nil)
      (pss_cons (ps_asg (pe_op op_add (pe_ix (ix_listK (K := K)) (pv 0) pe_int (fun _ _ => rfl)) pe_int) (pg_sub (pv 0) pe_int set_list))
      (pss_cons (ps_set (i := 3) sc__law_take.nd rfl (Or.inl rfl) (pe_op op_mod (pe_op op_pow (pe_op op_add (pe_op op_add (pe_ix (ix_listK (K := K)) (pv 0) pe_int (fun _ _ => rfl)) (pe_op op_mul pe_int (pe_ix (ix_listK (K := K)) (pv 0) pe_int (fun _ _ => rfl)))) pe_int) pe_int) pe_int))
      (pss_cons (ps_set (i := 3) sc__law_take.nd rfl (Or.inl rfl) (pe_op op_mod (pe_op op_pow (pe_op op_add (pv 3) (pe_op op_mul pe_int (pe_ix (ix_listK (K := K)) (pv 0) pe_int (fun _ _ => rfl)))) pe_int) pe_int))
      (pss_one (ps_ret (pe_op op_mod (pe_op op_fdivW (pv 3) pe_int) (pv 1)))))))), ?_⟩
    refine ⟨_, rfl, b, _, _, _, rfl, rfl, hL hb, rfl, _, _, rfl, rfl, _, rfl, ?_⟩
    refine ite2 (fun c => ?_) (fun c => ?_)
    · have c' := of_decide_eq_true c
      refine ⟨_, rfl, b, _, _, _, rfl, rfl, hL hb, rfl, _, rfl, _, _, rfl, rfl, hm, ?_⟩
      refine ⟨_, rfl, b, _, _, _, rfl, rfl, hL hb, rfl, _, rfl, _, _, rfl, rfl, ?_, ?_⟩
      · exact wide_div (b := 201) hm (by have h1 : (2 : Int) ^ 200 = 1606938044258990275541962092341162602522202993782792835301376 := by decide +kernel
                                         have h3 : (2 : Nat) ^ 201 = 3213876088517980551083924184682325205044405987565585670602752 := by decide +kernel
                                         rw [h1] at hm'
                                         rw [h3]
                                         omega) (by decide) (by decide)
      · refine ⟨_, rfl, b, _, _, 0, rfl, rfl, hb, rfl, _, rfl, ?_⟩
        exact q _ _ (Int.emod_nonneg _ (by omega)) (Int.emod_lt_of_pos _ hm) ⟨_, _, _, rfl, Int.ediv_nonneg hx (by omega), hy, hy', hz, by omega⟩
    · refine ⟨_, rfl, b, _, _, _, rfl, rfl, hL hb, rfl, _, _, rfl, rfl, _, rfl, b, _, _, 2, rfl, rfl, hb, rfl, ?_⟩
      have hb1 : (L2.upd H b (.lst [.int x, .int y, .int (z + 1)])) b = some (.lst [.int x, .int y, .int (z + 1)]) := upd_same
      refine ⟨_, rfl, b, _, _, _, rfl, rfl, hL hb1, rfl, _, rfl, b, _, _, _, rfl, rfl, hL hb1, rfl, _, _, rfl, rfl, .inl ⟨by decide, by decide⟩, _, _, rfl, rfl, _, _, rfl, rfl, _, _, rfl, rfl, ⟨by decide, by decide, ?_⟩, _, _, rfl, rfl, (by show (0 : Int) < 2147483647; decide), ?_⟩
      · exact pow_small (n := 0) (by omega) (by have : (2 : Int) ^ 60 = 1152921504606846976 := by decide
                                                omega)
      · have r0 := Int.emod_nonneg ((y + 7919 * (z + 1) + 31) ^ 5) (show (2147483647 : Int) ≠ 0 by decide)
        have r1 := Int.emod_lt_of_pos ((y + 7919 * (z + 1) + 31) ^ 5) (show (0 : Int) < 2147483647 by decide)
        refine ⟨_, rfl, _, rfl, b, _, _, _, rfl, rfl, hL hb1, rfl, _, _, rfl, rfl, .inl ⟨by decide, by decide⟩, _, _, rfl, rfl, _, _, rfl, rfl, ⟨by decide, by decide, ?_⟩, _, _, rfl, rfl, (by show (0 : Int) < 2147483587; decide), ?_⟩
        · exact pow_small (n := 0) (Int.add_nonneg r0 (by omega)) (by have : (2 : Int) ^ 60 = 1152921504606846976 := by decide
                                                                      omega)
        · refine ⟨_, rfl, _, _, rfl, rfl, wide_div (b := 10) (by decide) (by decide) (by decide) (by decide), _, rfl, _, _, rfl, rfl, hm, ?_⟩
          exact q _ _ (Int.emod_nonneg _ (by omega)) (Int.emod_lt_of_pos _ hm) ⟨_, _, _, rfl, hx, hy, hy', by omega, by omega⟩
end

end TS

namespace TS
open PySem PySem.Spec PyProof.Rows L2 TL
/-! ### the head and the end -/
def fn : List He.DefD := ([defD "is_whole" s_is_whole, defD "is_name" s_is_name, defD "is_row" s_is_row, defD "are_rows" s_are_rows, defD "_law_cell" s__law_cell, defD "_law_box" s__law_box, defD "_law_take" s__law_take, defD "_law_names" s__law_names, defD "_law_rows" s__law_rows, defD "_law_told_right" s__law_told_right, defD "_law_refused" s__law_refused, defD "_law_asked_right" s__law_asked_right, defD "_law_near" s__law_near, defD "_law_equal_right" s__law_equal_right, defD "law" s_law, methD "NoWords" "__init__" "NoWords.__init__" s_NoWords___init__, methD "NotThere" "__init__" "NotThere.__init__" s_NotThere___init__, methD "Words" "__init__" "Words.__init__" s_Words___init__, methD "Words" "names" "Words.names" s_Words_names, methD "Words" "told_of" "Words.told_of" s_Words_told_of] : List He.DefD) ++ ([methD "Words" "places" "Words.places" s_Words_places, methD "Words" "place_of" "Words.place_of" s_Words_place_of, methD "Words" "has" "Words.has" s_Words_has, methD "Words" "__len__" "Words.__len__" s_Words___len__, methD "Words" "__eq__" "Words.__eq__" s_Words___eq__, methD "Words" "__str__" "Words.__str__" s_Words___str__, methD "Words" "__repr__" "Words.__repr__" s_Words___repr__] : List He.DefD)
def gl : List Str := (["is_whole", "is_name", "is_row", "are_rows", "_law_cell", "_law_box", "_law_take", "_law_names", "_law_rows", "_law_told_right", "_law_refused", "_law_asked_right", "_law_near", "_law_equal_right", "law", "TermError", "Absent", "NoWords", "NotThere", "Words"] : List Str)
def fl (K : PySem.W.Frag) : List Bool := ([famB K "TermError", ownB K "NoWords" "found", famTB K "Absent" "KeyError.__init__", ownTB K "NotThere" "found" "LookupError.__new__" keyT, excB K (He.ga K "NotThere") (He.ga K "Words") "LookupError.__new__" keyT, (He.Fa.exm "NotThere" "NotThere" true).ok K, (He.Fa.cls "Words").ok K, (He.Fa.noat "Words" "by_name").ok K, (He.Fa.mkr "Words").ok K, (He.Fa.meth "Words" "names").ok K, (He.Fa.meth "Words" "told_of").ok K, (He.Fa.meth "Words" "places").ok K, (He.Fa.meth "Words" "place_of").ok K, (He.Fa.meth "Words" "has").ok K, (He.Fa.meth "Words" "__len__").ok K, (He.Fa.meth "Words" "__eq__").ok K, (He.Fa.meth "Words" "__str__").ok K, (He.Fa.meth "Words" "__repr__").ok K, isCB K (He.ga K "Words"), neB K (He.ga K "Words")] : List Bool) ++ ([apKB K (He.ga K "Words"), (He.Fa.int "MOST_SIGNS" 8).ok K, (He.Fa.int "MOST_PLACES" 4).ok K, (He.Fa.int "MOST_WORDS" 12).ok K, (He.Fa.str "SMALL" "abcdefghijklmnopqrstuvwxyz").ok K] : List Bool)
def more (K : PySem.W.Frag) : Bool := (fl K).all id
def chk : PySem.W.Frag → Bool := chkX gl more
abbrev R : PySem.W.OpenRow := PySem.W.OpenLaw.row PySem.Challenge.rw_termshelf_k05_words_told
abbrev hk : PySem.W.Hook := hookX 6 chk fn
def ob (s : PySem.W.SharedT) : He.AlD := obsX 6 chk fn (HandSHeadRun.getT s)
def loose : List PySem.Str := (["TermError", "Absent", "NoWords", "NotThere", "SMALL", "MOST_SIGNS", "is_whole", "is_name", "MOST_WORDS", "MOST_PLACES", "is_row", "are_rows", "Words", "_law_cell", "_law_box", "_law_take", "_law_names", "_law_rows", "_law_letters", "_law_signs", "_law_told_right", "_law_refused", "_law_asked_right", "_law_near", "_law_equal_right"] : List PySem.Str)
theorem run (w : World) : HandSHeadRun.RunEq R (PySem.W.view R.prog [29]) hk ob 6000 loose w := by
  intro os
  kernel_rfl
theorem facts {w : World} {K : PySem.W.Frag} {h : Heap} {mg : Str → Option Value} {f : Addr} (X : K.In h) (G : h.Ns mainGlobals mg) (hfa : mg ("law" : Str) = some (.ref f)) (c : chk K = true) (c1 : fn.all (fun d => d.ok K) = true)
    (c2 : fn.map (fun d => He.fnW K d.at_) = fn.map He.DefD.val) : LawAt PySem.Challenge.rw_termshelf_k05_words_told w mg 9 63 "_law_script" h f K := by
  obtain ⟨ca, cb⟩ := He.ba c
  obtain ⟨cs, cbt⟩ := He.ba ca
  obtain ⟨cg, cm⟩ := He.ba cb
  have fx : ∀ (i : Nat) (b : Bool), (fl K)[i]? = some b → b = true := fun i b hb => List.all_eq_true.mp cm b (List.mem_of_getElem? hb)
  have Y := sysB_ok cs
  have bt := bt_of X G cbt
  have g : ∀ (x : Str), x ∈ gl → (He.Fa.glo x).ok K = true := fun x hx => List.all_eq_true.mp cg x hx
  have gg : ∀ (x : Str), x ∈ gl → mg x = some (.ref (He.ga K x)) := fun x hx => He.glo_ok X G (g x hx)
  have D : ∀ {x : Str} {st : Stmt} (i : Nat), fn[i]? = some (defD x st) → x ∈ gl → Def K mg x st := fun i hi hx => def_of X G c1 c2 i hi (g _ hx)
  have d_is_whole : Def K mg "is_whole" s_is_whole := D 0 rfl (by decide +kernel)
  have d_is_name : Def K mg "is_name" s_is_name := D 1 rfl (by decide +kernel)
  have d_is_row : Def K mg "is_row" s_is_row := D 2 rfl (by decide +kernel)
  have d_are_rows : Def K mg "are_rows" s_are_rows := D 3 rfl (by decide +kernel)
  have d__law_cell : Def K mg "_law_cell" s__law_cell := D 4 rfl (by decide +kernel)
  have d__law_box : Def K mg "_law_box" s__law_box := D 5 rfl (by decide +kernel)
  have d__law_take : Def K mg "_law_take" s__law_take := D 6 rfl (by decide +kernel)
  have d__law_names : Def K mg "_law_names" s__law_names := D 7 rfl (by decide +kernel)
  have d__law_rows : Def K mg "_law_rows" s__law_rows := D 8 rfl (by decide +kernel)
  have d__law_told_right : Def K mg "_law_told_right" s__law_told_right := D 9 rfl (by decide +kernel)
  have d__law_refused : Def K mg "_law_refused" s__law_refused := D 10 rfl (by decide +kernel)
  have d__law_asked_right : Def K mg "_law_asked_right" s__law_asked_right := D 11 rfl (by decide +kernel)
  have d__law_near : Def K mg "_law_near" s__law_near := D 12 rfl (by decide +kernel)
  have d__law_equal_right : Def K mg "_law_equal_right" s__law_equal_right := D 13 rfl (by decide +kernel)
  have d_law : Def K mg "law" s_law := D 14 rfl (by decide +kernel)
  have d_NoWords___init__ : DefM K (He.ma K (He.ga K "NoWords") "__init__") "__init__" "NoWords.__init__" s_NoWords___init__ := meth_of c1 c2 15 rfl
  have d_NotThere___init__ : DefM K (He.ma K (He.ga K "NotThere") "__init__") "__init__" "NotThere.__init__" s_NotThere___init__ := meth_of c1 c2 16 rfl
  have d_Words___init__ : DefM K (He.ma K (He.ga K "Words") "__init__") "__init__" "Words.__init__" s_Words___init__ := meth_of c1 c2 17 rfl
  have d_Words_names : DefM K (He.ma K (He.ga K "Words") "names") "names" "Words.names" s_Words_names := meth_of c1 c2 18 rfl
  have d_Words_told_of : DefM K (He.ma K (He.ga K "Words") "told_of") "told_of" "Words.told_of" s_Words_told_of := meth_of c1 c2 19 rfl
  have d_Words_places : DefM K (He.ma K (He.ga K "Words") "places") "places" "Words.places" s_Words_places := meth_of c1 c2 20 rfl
  have d_Words_place_of : DefM K (He.ma K (He.ga K "Words") "place_of") "place_of" "Words.place_of" s_Words_place_of := meth_of c1 c2 21 rfl
  have d_Words_has : DefM K (He.ma K (He.ga K "Words") "has") "has" "Words.has" s_Words_has := meth_of c1 c2 22 rfl
  have d_Words___len__ : DefM K (He.ma K (He.ga K "Words") "__len__") "__len__" "Words.__len__" s_Words___len__ := meth_of c1 c2 23 rfl
  have d_Words___eq__ : DefM K (He.ma K (He.ga K "Words") "__eq__") "__eq__" "Words.__eq__" s_Words___eq__ := meth_of c1 c2 24 rfl
  have d_Words___str__ : DefM K (He.ma K (He.ga K "Words") "__str__") "__str__" "Words.__str__" s_Words___str__ := meth_of c1 c2 25 rfl
  have d_Words___repr__ : DefM K (He.ma K (He.ga K "Words") "__repr__") "__repr__" "Words.__repr__" s_Words___repr__ := meth_of c1 c2 26 rfl
  have g_TermError := gg "TermError" (by decide +kernel)
  have g_Absent := gg "Absent" (by decide +kernel)
  have g_NoWords := gg "NoWords" (by decide +kernel)
  have g_NotThere := gg "NotThere" (by decide +kernel)
  have g_Words := gg "Words" (by decide +kernel)
  have fam := famB_ok (fx 0 _ rfl)
  have x_NoWords := ownB_ok (fx 1 _ rfl)
  have famA := famTB_ok (fx 2 _ rfl)
  have x_NT := ownTB_ok (fx 3 _ rfl)
  obtain ⟨t_NT, i_NT, k_NT, n_NT⟩ := excB_ok bas_Key (fx 4 _ rfl)
  have e_NT := He.exm_ok (fx 5 _ rfl)
  have cl := He.cls_ok (fx 6 _ rfl)
  have nb := He.noat_ok (fx 7 _ rfl)
  have mk := He.mkr_ok (fx 8 _ rfl)
  have m_names := He.meth_ok (fx 9 _ rfl)
  have m_told_of := He.meth_ok (fx 10 _ rfl)
  have m_places := He.meth_ok (fx 11 _ rfl)
  have m_place_of := He.meth_ok (fx 12 _ rfl)
  have m_has := He.meth_ok (fx 13 _ rfl)
  have m___len__ := He.meth_ok (fx 14 _ rfl)
  have m___eq__ := He.meth_ok (fx 15 _ rfl)
  have m___str__ := He.meth_ok (fx 16 _ rfl)
  have m___repr__ := He.meth_ok (fx 17 _ rfl)
  have T := isCB_ok cl (fx 18 _ rfl)
  have ne := neB_ok (fx 19 _ rfl)
  have ap := apKB_ok (fx 20 _ rfl)
  obtain ⟨fL, fdL, FL, mL⟩ := id d_law
  have e := hfa.symm.trans mL
  cases e
  have b := FunD.bindsA (ps := ["_law_script"]) FL fun _ _ _ _ _ _ us hl => match us, hl with | [_], _ => rfl
  refine ⟨X, fdL, spLaw K, fun s v => b s [v] rfl, fun H a ns hl _ hS => ⟨a, ns, rfl, hS, hl, fun _ => rfl⟩, fun base _ _ => ?_⟩
  have p_take := ok_take (P := PySem.Challenge.rw_termshelf_k05_words_told.prog) (w := w) (base := base) d__law_take
  have p_name := ok_is_name (P := PySem.Challenge.rw_termshelf_k05_words_told.prog) (w := w) (base := base) bt (He.int_ok X G (fx 21 _ rfl)) (He.str_ok X G (fx 24 _ rfl)) d_is_name
  have p_whole := ok_is_whole (P := PySem.Challenge.rw_termshelf_k05_words_told.prog) (w := w) (base := base) bt d_is_whole
  have p_row := ok_is_row bt (He.int_ok X G (fx 22 _ rfl)) p_name p_whole d_is_row
  have p_rows := ok_are_rows bt (He.int_ok X G (fx 23 _ rfl)) p_row d_are_rows
  have i_NoWords := ok_NoWords_ini (P := PySem.Challenge.rw_termshelf_k05_words_told.prog) (w := w) (base := base) fam g_TermError x_NoWords d_NoWords___init__
  have ini_NT := ok_NotThere_ini (P := PySem.Challenge.rw_termshelf_k05_words_told.prog) (w := w) (base := base) famA g_Absent x_NT d_NotThere___init__
  have p_wini := ok_Words_ini bt cl nb p_rows g_NoWords x_NoWords i_NoWords d_Words___init__
  have p_len := ok_Words_len (P := PySem.Challenge.rw_termshelf_k05_words_told.prog) (w := w) (base := base) bt cl nb d_Words___len__
  have p_names := ok_Words_names (P := PySem.Challenge.rw_termshelf_k05_words_told.prog) (w := w) (base := base) bt cl nb d_Words_names
  have p_has := ok_Words_has (P := PySem.Challenge.rw_termshelf_k05_words_told.prog) (w := w) (base := base) bt cl nb d_Words_has
  have p_told := ok_Words_told bt cl nb g_NotThere x_NT ini_NT d_Words_told_of
  have p_places := ok_Words_places cl m_told_of p_told d_Words_places
  have p_place_of := ok_Words_place_of cl m_told_of p_told d_Words_place_of
  have p_eq := ok_Words_eq (P := PySem.Challenge.rw_termshelf_k05_words_told.prog) (w := w) (base := base) bt T nb g_Words d_Words___eq__
  have p_str := ok_Words_str (P := PySem.Challenge.rw_termshelf_k05_words_told.prog) (w := w) (base := base) bt cl nb d_Words___str__
  have p_repr := ok_Words_repr bt m___str__ p_str d_Words___repr__
  have p_tr := ok_told_right Y bt cl m_names p_names m___len__ p_len m_places p_places m_place_of p_place_of m___str__ p_str m___repr__ p_repr d__law_told_right
  have p_ref := ok_refused bt cl g_NotThere x_NT e_NT m_places p_places m_place_of p_place_of d__law_refused
  have p_ask := ok_asked_right Y bt cl m_has p_has p_ref d__law_asked_right
  have p_near := ok_near bt p_take d__law_near
  have p_equal := ok_equal_right Y bt T m___eq__ ne ap p_eq cl m_names p_names m___str__ p_str g_NotThere x_NT ini_NT t_NT n_NT i_NT k_NT d__law_equal_right
  have p_lnames := ok_names bt p_take d__law_names
  have p_drows := ok_drows bt p_take p_lnames d__law_rows
  exact ok_law bt (ok_cell bt d__law_cell) (ok_bag bt d__law_box) p_take p_drows g_Words mk p_wini p_tr p_ask p_near p_equal FL

end TS
open PySem PySem.W PySem.Calls PyProof.Rows
set_option maxHeartbeats 0 in
theorem PySem.Challenge.cw_termshelf_k05_words_told_holds : PySem.Challenge.rw_termshelf_k05_words_told.Holds := by
  w_on; o_law
  refine HandSHeadRun.head_any (r := OpenLaw.row PySem.Challenge.rw_termshelf_k05_words_told) (q := view (OpenLaw.row PySem.Challenge.rw_termshelf_k05_words_told).prog [29]) (H := TS.hk) (ob := TS.ob) (M := 6000) (loose := TS.loose) (d := HandSHeadRun.topDef (OpenLaw.row PySem.Challenge.rw_termshelf_k05_words_told).prog 29) (kwd := []) TS.obsX_eq
    (by kernel_rfl) (fun s => by kernel_rfl) TS.run (by kernel_rfl) (by kernel_rfl) (by kernel_rfl) (by rfl) (by first | assumption | decide +kernel) (by decide +kernel) ⟨rfl, rfl, rfl, rfl, rfl, by decide +kernel⟩ ?hw ?hc
  case hw => w_witness2
  case hc =>
    refine TS.walkG (l := PySem.Challenge.rw_termshelf_k05_words_told) (n := 63) (k := 9) (x := "_law_script") rfl (by decide) (by kernel_rfl) ⟨rfl, by decide, by decide⟩ ?F
    intro w mg fa h Y G hmg0
    obtain ⟨K, KX, c, c1, c2⟩ := Y
    have hmg : mg ("law" : PySem.Str) = some (.ref fa) := by
      have e : (HandSHeadRun.topDef (OpenLaw.row PySem.Challenge.rw_termshelf_k05_words_told).prog 29).name = ("law" : PySem.Str) := by kernel_rfl
      rw [← e]
      exact hmg0
    exact ⟨K, TS.facts KX G hmg c c1 c2⟩

