import PyProof.Rows.All
import Wide.All
import OpenK.AllK
import Wide.FinOn
import KE.KStateDown
import Lean
import HandS.ForMost
import HandS.More
import HandS.WordsExc
import HandS.Defaults
import HandS.IsInst
import HandS.Wide
import HandS.Flow
import HandS.Conv
import HandS.Replace
import HandS.EndBits
import HandS.Head0
import HandS.Head1
import HandS.Head2
import HandS.HeadEnd
import HandS.HeadHook1
import HandS.HeadHook2
import HandS.Walk
import HandS.SetBool
import HandS.SetKeys
import KE.GoesMore
import PyProof.EnumMake
import HandS.ExcInit
import HandS.ExcField
import HandS.ExcOwn
import HandS.ClsMeth
import HandS.DictComp
import HandS.WordsDict
import PyProof.ReprLen
import PySem.Challenge.RW_termshelf_k06_words_refused
set_option Elab.async false
set_option linter.all false
set_option maxRecDepth 100000
/-! ### 1. promises of defs that may show things (repr): no guard runs around -/
namespace TS
open PySem PySem.Spec PyProof.Rows L2
structure FnG (P : Program) (w : World) (K : PySem.W.Frag) (mg : Str → Option Value) (base : Heap) (CX : CXT) (k : Nat) (f : Addr) (fd : FuncData) (ps : List Str) (sp : Sp) : Prop where
  len : ∀ vs H Q E, sp vs H Q E → vs.length = ps.length
  run : ∀ (A : Around) (outer : List Env) (s : Shared) (H : Hp) (args : Args) (us : List Value) (vs : List V) (Q : VK) (E : XK), A.guards = some [] → Room k A → Env0 P w K mg base A outer s H →
    BindsTo s fd args (ps.zip us) → Vals vs us → sp vs H Q E → codeAny (model P w) A (.call (.ref f) args) (CR CX outer P w H s Q E) s
section
variable {P : Program} {w : World} {K : PySem.W.Frag} {mg : Str → Option Value} {base : Heap} {CX : CXT} {k : Nat} {f : Addr} {fd : FuncData} {ps : List Str} {sp : Sp}
theorem FnG.of (F : FnOk P w K mg base CX k f fd ps sp) : FnG P w K mg base CX k f fd ps sp := ⟨F.len, fun A outer s H args us vs Q E _ => F.run A outer s H args us vs Q E⟩
/-- the body's rule, the guards told -/
theorem okG {x qual : Str} {params : Arguments} {body : List Stmt} {scope : Scope} {dvs : List V} {kws : List (Str × V)} {N : List Str} (F : FunD K x qual params body scope dvs kws f fd) (S : FnScope N ps scope)
    (len : ∀ vs H Q E, sp vs H Q E → vs.length = ps.length)
    (hbody : ∀ (cdv : Value) (A : Around) (outer : List Env) (s : Shared) (H : Hp) (vs : List V) (Q : VK) (E : XK), (A.deeper (envOfC qual scope s.heap.objs.size f cdv)).guards = some [] →
      Room k (A.deeper (envOfC qual scope s.heap.objs.size f cdv)) → sp vs H Q E →
      ∃ t, PSs (cxOf CX P w K mg base N qual scope f cdv A outer s H E) body t ∧ t { nx := fun _ H' => Q .non H', rt := Q } (start N vs) H) : FnG P w K mg base CX (k + 1) f fd ps sp := by
  obtain ⟨oc, od, dV, kV, doc, pm, an, cdv, ct, osl, rfl, lk, hcd, _, _⟩ := F.ex
  refine ⟨len, fun A outer s H args us vs Q E hg hr e0 hb r hsp => ?_⟩
  have KX : K.In s.heap := e0.mod.kin.keeps fun b o e => (e0.bs b o e).1
  have NL : s.heap.NoLimit := e0.mod.nolimit.keeps fun b o e => (e0.bs b o e).1
  have kinds : ∀ y ∈ ps.zip us, scope.names.lookup y.1 = some .local ∨ (scope.names.lookup y.1 = some .cell ∧ ((cellsFrom (s.heap.objs.size + 1) scope.names []).lookup y.1).isSome = true) := by
    rintro ⟨n, v⟩ hy
    exact (S.par n (List.of_mem_zip hy).1).imp id fun q => ⟨q, PySem.W.cellsFrom_some _ _ _ (.inl q)⟩
  refine codeAny_call_function hr.depth (KX _ _ lk) rfl S.co S.gen rfl (PySem.W.codeRec_of KX hcd) (hb _ _ _ _ (wpAny_newFunctionEnv_cells S.kind kinds fun env he s1 x => ?_))
  subst he
  obtain ⟨t, ht, hq⟩ := hbody cdv A outer s H vs Q E hg (hr.deeper _) hsp
  have I0 := inv_start (CX := CX) (E := E) (f := f) (cd := cdv) (qual := qual) S hr.hd e0 (len _ _ _ _ hsp) r x
  refine ⟨NL.keeps x.toInCall.keep, codeAny_func (wpAny_mono (ht.run [] s1 (start N vs) H _ I0 hq) (fun fl s' hs => ?_) fun _ _ z => z)⟩
  cases fl with
  | ret u => exact let ⟨v, _, H', J, rv, q⟩ := hs; ⟨v, H', J.os, J.bare, J.base, J.hok, rv, q⟩
  | next => exact let ⟨_, H', J, q⟩ := hs; ⟨V.non, H', J.os, J.bare, J.base, J.hok, rfl, q⟩
  | brk => exact let ⟨_, _, _, q⟩ := hs; False.elim q
  | cont => exact let ⟨_, _, _, q⟩ := hs; False.elim q
end
section
variable {X : Cx} {CX : CXT} {k : Nat} {f C : Addr} {fd : FuncData} {ps : List Str} {sp : Sp} {dvs : List V} {ds : List Value} {E : XK} {x m : Str} {p pos apos : Pos} {e o : Expr} {es : List Expr} {ta : TE} {t : TA}
theorem run_G {pins : List (Addr × Obj)} {σ : L2.St} {H : Hp} {s : Shared} {Q : VK} {us : List Value} {vs : List V} (F : FnG X.prog X.w X.K X.mg X.base CX k f fd ps sp) (hgd : X.A.guards = some []) (hr : Room k X.A)
    (hb : Binds X.K fd ps ds) (hd : Vals dvs ds) (hx : Passes CX X E) (I : Inv X pins σ H s) (r : Vals vs us) (h : sp (vs ++ dvs) H Q E) : wpAny (model X.prog X.w) X.A (call (.ref f) us) (EP X pins σ Q) X.xe s := by
  have r2 := r.append hd
  have hl : (us ++ ds).length = ps.length := r2.length.symm.trans (F.len _ _ _ _ h)
  refine wpAny_call (codeAny_mono (F.run X.A X.stack s H ⟨us, []⟩ (us ++ ds) (vs ++ dvs) Q E hgd hr I.env0 (hb s us I.kIn hl) r2 h) fun r s' hq => ?_)
  match r, hq with
  | .error e, hq => exact hx pins σ H s e s' I hq
  | .ok (.ret u), hq => exact I.after hq
theorem pe_callG (F : FnG X.prog X.w X.K X.mg X.base CX k f fd ps sp) (hgd : X.A.guards = some []) (hr : Room k X.A) (hg : Gl X x) (hm : X.mg x = some (.ref f)) (hk : PySem.W.keepIn X.K (.ref f) = true)
    (hb : Binds X.K fd ps ds) (hd : Vals dvs ds) (hx : Passes CX X E) (ha : PA X (e :: es) t) (hdb : (x == ("__debug__" : Str)) = false := by decide)
    (he : starEach (e :: es) X.env = (false, eval e X.env) :: starEach es X.env := by rfl) (hpl : (backTo pos (starEach es X.env)).any (·.1) = false := by rfl) :
    PE X (.Call (.Name x p) (e :: es) [] pos) (tCall sp dvs E t) := by
  refine ⟨fun pins s σ H Q I h => wpAny_Call_Name_kw (ld_glob I hg hm ?_ hdb)⟩
  exact PySem.W.callWith_K (h₀ := X.base) I.ok.mod.kin hk (thn (ha.run pos pins s σ H _ I h) fun us s1 ⟨vs, H1, I1, r, q⟩ => ⟨I1.kIn, run_G F hgd hr hb hd hx I1 r q⟩) he hpl
end

/-! ### 2. data at any depth, dicts too, and how they are shown -/
def kD : Key → PyData
  | .inl i => .int i
  | .inr x => .str x
mutual
inductive Dt (K : PySem.W.Frag) (H : Hp) : V → PyData → Prop
  | non : Dt K H .non .none
  | bl (b : Bool) : Dt K H (.bl b) (.bool b)
  | int (i : Int) : Dt K H (.int i) (.int i)
  | str (x : Str) : Dt K H (.str x) (.str x)
  | lst {a : Addr} {xs : List V} {ds : List PyData} : SqL K H a xs → DtAll K H xs ds → Dt K H (.ref a) (.list ds)
  | tup {a : Addr} {xs : List V} {ds : List PyData} : SqT K H a xs → DtAll K H xs ds → Dt K H (.ref a) (.tuple ds)
  | dct {a : Addr} {ks : List Key} {xs : List V} {ds : List PyData} : H a = some (.dK (ks.zip xs)) → ks.length = xs.length → DtAll K H xs ds → Dt K H (.ref a) (.dict ((ks.map kD).zip ds))
inductive DtAll (K : PySem.W.Frag) (H : Hp) : List V → List PyData → Prop
  | nil : DtAll K H [] []
  | cons {v : V} {vs : List V} {d : PyData} {ds : List PyData} : Dt K H v d → DtAll K H vs ds → DtAll K H (v :: vs) (d :: ds)
end
theorem DtAll.length {K : PySem.W.Frag} {H : Hp} : ∀ {vs : List V} {ds : List PyData}, DtAll K H vs ds → vs.length = ds.length
  | _, _, .nil => rfl
  | _, _, .cons _ t => congrArg (· + 1) (DtAll.length t)
theorem SqT.same {K : PySem.W.Frag} {H H' : Hp} {a : Addr} {xs : List V} (e : Same H H') (h : SqT K H a xs) : SqT K H' a xs := by
  rcases h with (h | ⟨o, h⟩) | h
  · exact .inl (.inl (e _ _ h))
  · exact .inl (.inr ⟨o, e _ _ h⟩)
  · exact .inr h
mutual
theorem Dt.same {K : PySem.W.Frag} {H H' : Hp} (e : Same H H') : ∀ {v : V} {d : PyData}, Dt K H v d → Dt K H' v d
  | _, _, .non => .non
  | _, _, .bl b => .bl b
  | _, _, .int i => .int i
  | _, _, .str x => .str x
  | _, _, .lst h a => .lst (e.seq h) (DtAll.same e a)
  | _, _, .tup h a => .tup (SqT.same e h) (DtAll.same e a)
  | _, _, .dct h l a => .dct (e _ _ h) l (DtAll.same e a)
theorem DtAll.same {K : PySem.W.Frag} {H H' : Hp} (e : Same H H') : ∀ {v : List V} {d : List PyData}, DtAll K H v d → DtAll K H' v d
  | _, _, .nil => .nil
  | _, _, .cons a b => .cons (Dt.same e a) (DtAll.same e b)
end
/-- what the written part tells of the machine's own objects -/
structure Sys (K : PySem.W.Frag) : Prop where
  mods : ∃ o, K.lookup sysModules = some o ∧ o.cls = .type "dict"
  book : PySem.W.nsIn K cStatics sharingNotToldKey = some none
section
variable {X : Cx} {pins : List (Addr × Obj)} {σ : L2.St} {H : Hp} {s : Shared}
theorem noMods (Y : Sys X.K) (I : Inv X pins σ H s) {a : Addr} {o : Obj} (e : s.heap.get? a = some o) (h : o.cls ≠ .type "dict") : sysModules ≠ a := fun z => by
  obtain ⟨o', h1, h2⟩ := Y.mods
  have q := I.kIn _ _ h1
  rw [z, e] at q
  cases q
  exact h h2
theorem keys_read : ∀ {es : List DictEntry} {vs : List (Key × Value)}, Pairs (mixKind X.prog X.w) es vs → ReadsAll s.heap (es.map (·.key)) (vs.map fun kv => kD kv.1) []
  | _, _, .nil => .nil
  | _, _, .cons hk hv t => by
    have q := keys_read t
    rcases keyIs_shape hk with ⟨i, t, e1, e2⟩ | ⟨x, t, e1, e2⟩
    · rw [List.map_cons, List.map_cons, e2]
      show ReadsAll s.heap _ (kD _ :: _) _
      rw [e1]
      exact ReadsAll.cons (as := []) (Reads.int i t) q
    · rw [List.map_cons, List.map_cons, e2]
      show ReadsAll s.heap _ (kD _ :: _) _
      rw [e1]
      exact ReadsAll.cons (as := []) (Reads.str x t) q
theorem vals_read : ∀ {es : List DictEntry} {vs : List (Key × Value)}, Pairs (mixKind X.prog X.w) es vs → es.map (·.val) = vs.map (·.2)
  | _, _, .nil => rfl
  | _, _, .cons _ hv t => by rw [List.map_cons, List.map_cons, hv, vals_read t]
theorem kv_fst {κ : Type} : ∀ {kvs : List (κ × V)} {vs : List (κ × Value)}, KV kvs vs → kvs.map (·.1) = vs.map (·.1)
  | _, _, .nil => rfl
  | _, _, .cons r t => by rw [List.map_cons, List.map_cons, r.1, kv_fst t]
theorem kv_snd {κ : Type} : ∀ {kvs : List (κ × V)} {vs : List (κ × Value)}, KV kvs vs → Vals (kvs.map (·.2)) (vs.map (·.2))
  | _, _, .nil => .nil
  | _, _, .cons r t => .cons r.2 (kv_snd t)
theorem zip_fst {α β : Type} : ∀ {l : List α} {m : List β}, l.length = m.length → (l.zip m).map (·.1) = l
  | [], _, _ => by simp
  | a :: l, [], h => by simp at h
  | a :: l, b :: m, h => by
    rw [List.zip_cons_cons, List.map_cons, zip_fst (by simpa using h)]
theorem zip_snd {α β : Type} : ∀ {l : List α} {m : List β}, l.length = m.length → (l.zip m).map (·.2) = m
  | [], m, h => by cases m <;> simp_all
  | a :: l, [], h => by simp
  | a :: l, b :: m, h => by
    rw [List.zip_cons_cons, List.map_cons, zip_snd (by simpa using h)]
mutual
theorem Dt.reads (Y : Sys X.K) (I : Inv X pins σ H s) : ∀ {v : V} {d : PyData} {u : Value}, Dt X.K H v d → RelV v u → ∃ as, Reads s.heap u d as ∧ sysModules ∉ as
  | _, _, _, .non, r => by
    cases r
    exact ⟨_, Reads.none, by simp⟩
  | _, _, _, .bl b, r => by
    cases r
    exact ⟨_, Reads.bool b, by simp⟩
  | _, _, _, .int i, r => by
    obtain ⟨t, rfl⟩ := r
    exact ⟨_, Reads.int i t, by simp⟩
  | _, _, _, .str x, r => by
    obtain ⟨t, rfl⟩ := r
    exact ⟨_, Reads.str x t, by simp⟩
  | _, _, _, .lst hs ha, r => by
    cases r
    obtain ⟨its, rv, ⟨o, n, ho, hc, _, hd⟩, _⟩ := I.list hs
    obtain ⟨as, hr, hn⟩ := DtAll.reads Y I ha rv
    have ne := noMods Y I ho (by rw [hc]; decide +kernel)
    exact ⟨_, Reads.list ho hc hd hr, fun z => (List.mem_cons.mp z).elim ne hn⟩
  | _, _, _, .tup hs ha, r => by
    cases r
    obtain ⟨its, rv, ⟨o, ho, hc, n, hd⟩, _⟩ := I.tuple hs
    obtain ⟨as, hr, hn⟩ := DtAll.reads Y I ha rv
    exact ⟨_, Reads.tuple ho hc hd hr, hn⟩
  | _, _, _, .dct (a := a) (ks := ks) (xs := xs) (ds := ds) h l ha, r => by
    cases r
    obtain ⟨hz, hS, vs, rk, o, es, ep, ho, hx, hd, _, hp, _⟩ := (show ObjOk X.prog X.w H s.heap a (.dK (ks.zip xs)) from I.hok a _ h)
    have e1 := (kv_fst rk).symm.trans (zip_fst l)
    have e2 := kv_snd rk
    rw [zip_snd l] at e2
    obtain ⟨as, hr, hn⟩ := DtAll.reads Y I ha e2
    have q1 : ReadsAll s.heap (es.toList.map (·.key)) (ks.map kD) [] := by
      have z := keys_read (s := s) hp
      have z2 : vs.map (fun kv => kD kv.1) = ks.map kD := by rw [← e1, List.map_map]; rfl
      rw [z2] at z
      exact z
    have ln : (ks.map kD).length = ds.length := by rw [List.length_map, l, ha.length]
    have q2 := vals_read hp
    refine ⟨a :: [] ++ as, Reads.dict ho hx.1 hd (by rw [zip_fst ln]; exact q1) (by rw [zip_snd ln, q2]; exact hr), fun z => ?_⟩
    rcases List.mem_cons.mp (show sysModules ∈ a :: as from z) with z | z
    · exact absurd z.symm (by simpa using hS)
    · exact hn z
theorem DtAll.reads (Y : Sys X.K) (I : Inv X pins σ H s) : ∀ {vs : List V} {ds : List PyData} {us : List Value}, DtAll X.K H vs ds → Vals vs us → ∃ as, ReadsAll s.heap us ds as ∧ sysModules ∉ as
  | _, _, _, .nil, r => by
    cases r
    exact ⟨_, ReadsAll.nil, by simp⟩
  | _, _, _, .cons h1 h2, r => by
    cases r with
    | cons r1 r2 =>
      obtain ⟨as, q1, n1⟩ := Dt.reads Y I h1 r1
      obtain ⟨bs, q2, n2⟩ := DtAll.reads Y I h2 r2
      exact ⟨_, ReadsAll.cons q1 q2, fun z => (List.mem_append.mp z).elim n1 n2⟩
end
/-- repr(x), x data -/
def rRepr (K : PySem.W.Frag) : List V → Hp → VK → Prop := fun xs H Q => ∃ x d, xs = [x] ∧ Dt K H x d ∧ d.showable = true ∧ d.depth ≤ 40 ∧ d.shown.length ≤ sizeLine ∧ Q (.str d.shown) H
theorem call_repr (Y : Sys X.K) (hgd : X.A.guards = some []) (hu : X.A.units + 64 < cLine) : CallR X (.builtin "repr") (rRepr X.K) := by
  intro pins s σ H xs us Q I r h
  obtain ⟨x, d, rfl, hd, hs, hp, hz, q⟩ := h
  obtain ⟨u, rfl, r1⟩ := vals1 r
  obtain ⟨as, rd, hn⟩ := Dt.reads Y I hd r1
  have fin : ∀ h' v tk, (∀ b o, s.heap.get? b = some o → h'.get? b = some o) → EP X pins σ Q (.str d.shown v) { s with heap := h', toks := tk } := fun h' v tk hk => ⟨.str d.shown, H, I.kept hk, ⟨_, rfl⟩, q⟩
  cases hd with
  | non => cases r1; exact PySem.P.repr_of_none (fin _ _ _ fun _ _ z => z)
  | bl b => cases r1; exact PySem.P.repr_of_bool (fin _ _ _ fun _ _ z => z)
  | int i =>
    obtain ⟨t, rfl⟩ := r1
    exact PySem.P.repr_of_int (by simpa [PyData.showable] using hs) (fin _ _ _ fun _ _ z => z)
  | str y =>
    obtain ⟨t, rfl⟩ := r1
    exact PySem.P.repr_of_str (fin _ _ _ fun _ _ z => z) hz
  | lst h1 h2 => cases r1; exact repr_of_reads' rd hs (fun _ => hn) hgd (by omega) (fun _ _ e => e) fin hz
  | tup h1 h2 => cases r1; exact repr_of_reads' rd hs (fun _ => hn) hgd (by omega) (fun _ _ e => e) fin hz
  | dct h1 h2 h3 => cases r1; exact repr_of_reads' rd hs (fun _ => hn) hgd (by omega) (fun _ _ e => e) fin hz
theorem ns_none {K : PySem.W.Frag} {h : Heap} {a : Addr} {m : Str → Option Value} {n : Str} (X : K.In h) (G : h.Ns a m) (e : PySem.W.nsIn K a n = some none) : m n = none := by
  obtain ⟨o, es, ep, ho, hd, _, hf⟩ := G
  unfold PySem.W.nsIn at e
  split at e
  · rename_i c d es' n' sl q
    have z := X _ _ q
    rw [ho] at z
    cases z
    cases hd
    split at e
    · cases e
    · rename_i he
      rw [← hf]
      unfold nsFind findBy
      rw [← Array.find?_toList, he]
      rfl
  · cases e
theorem unbooked (Y : Sys X.K) (I : Inv X pins σ H s) : NoneBooked s.heap := by
  obtain ⟨mc, h1, h2⟩ := I.nolimit
  exact ⟨mc, h1, ns_none I.kIn h1 Y.book⟩
end
end TS

/-! ### 3. defs by their promises -/
namespace TS
open PySem PySem.Spec PyProof.Rows L2
def Def (K : PySem.W.Frag) (mg : Str → Option Value) (x : Str) (st : Stmt) : Prop := ∃ f fd, FunD K x x (defArgs st) (defBody st) (defScope st) [] [] f fd ∧ mg x = some (.ref f)
def Prom (P : Program) (w : World) (K : PySem.W.Frag) (mg : Str → Option Value) (base : Heap) (k : Nat) (x : Str) (ps : List Str) (sp : Sp) : Prop :=
  ∃ f fd, FnOk P w K mg base CX0 k f fd ps sp ∧ mg x = some (.ref f) ∧ PySem.W.keepIn K (.ref f) = true ∧ Binds K fd ps []
def PromG (P : Program) (w : World) (K : PySem.W.Frag) (mg : Str → Option Value) (base : Heap) (k : Nat) (x : Str) (ps : List Str) (sp : Sp) : Prop :=
  ∃ f fd, FnG P w K mg base CX0 k f fd ps sp ∧ mg x = some (.ref f) ∧ PySem.W.keepIn K (.ref f) = true ∧ Binds K fd ps []
section
variable {X : Cx} {k : Nat} {ps : List Str} {sp : Sp} {x : Str} {p pos : Pos} {e : Expr} {es : List Expr} {t : TA}
theorem pe_pc (pr : Prom X.prog X.w X.K X.mg X.base k x ps sp) (hr : Room k X.A) (hg : Gl X x) (ha : PA X (e :: es) t) (hdb : (x == ("__debug__" : Str)) = false := by decide)
    (he : starEach (e :: es) X.env = (false, eval e X.env) :: starEach es X.env := by rfl) (hpl : (backTo pos (starEach es X.env)).any (·.1) = false := by rfl) :
    PE X (.Call (.Name x p) (e :: es) [] pos) (tCall sp [] E0 t) := by
  obtain ⟨f, fd, F, m, kp, b⟩ := pr
  exact pe_call F hr hg m kp b .nil pass0 ha hdb he hpl
theorem pe_pcG (pr : PromG X.prog X.w X.K X.mg X.base k x ps sp) (hgd : X.A.guards = some []) (hr : Room k X.A) (hg : Gl X x) (ha : PA X (e :: es) t) (hdb : (x == ("__debug__" : Str)) = false := by decide)
    (he : starEach (e :: es) X.env = (false, eval e X.env) :: starEach es X.env := by rfl) (hpl : (backTo pos (starEach es X.env)).any (·.1) = false := by rfl) :
    PE X (.Call (.Name x p) (e :: es) [] pos) (tCall sp [] E0 t) := by
  obtain ⟨f, fd, F, m, kp, b⟩ := pr
  exact pe_callG F hgd hr hg m kp b .nil pass0 ha hdb he hpl
end
section
variable {P : Program} {w : World} {K : PySem.W.Frag} {mg : Str → Option Value} {base : Heap} {N ps : List Str} {k : Nat} {sp : Sp} {x : Str} {st : Stmt}
theorem prom_mk (D : Def K mg x st) (S : FnScope N ps (defScope st)) (len : ∀ vs H Q E, sp vs H Q E → vs.length = ps.length)
    (hb : ∀ (kV doc pm : Value) (an : Option Addr) (cdv ct : Value) (us : List Value), us.length = ps.length → bindArgs (PySem.W.fnOf x x (defArgs st) (defBody st) (defScope st) .none kV doc pm an cdv ct) ⟨us, []⟩ = pure (ps.zip us))
    (body : ∀ (f : Addr) (cdv : Value) (A : Around) (outer : List Env) (s : Shared) (H : Hp) (vs : List V) (Q : VK) (E : XK), Room k (A.deeper (envOfC x (defScope st) s.heap.objs.size f cdv)) → sp vs H Q E →
      ∃ t, PSs (cxOf CX0 P w K mg base N x (defScope st) f cdv A outer s H E).nox (defBody st) t ∧ t { nx := fun _ H' => Q .non H', rt := Q } (start N vs) H) : Prom P w K mg base (k + 1) x ps sp := by
  obtain ⟨f, fd, F, m⟩ := D
  refine ⟨f, fd, F.ok S len fun cdv A outer s H vs Q E hr h => ?_, m, F.kp, F.bindsN hb⟩
  obtain ⟨t, h1, h2⟩ := body f cdv A outer s H vs Q E hr h
  exact ⟨t, h1.nox, h2⟩
theorem promG_mk (D : Def K mg x st) (S : FnScope N ps (defScope st)) (len : ∀ vs H Q E, sp vs H Q E → vs.length = ps.length)
    (hb : ∀ (kV doc pm : Value) (an : Option Addr) (cdv ct : Value) (us : List Value), us.length = ps.length → bindArgs (PySem.W.fnOf x x (defArgs st) (defBody st) (defScope st) .none kV doc pm an cdv ct) ⟨us, []⟩ = pure (ps.zip us))
    (body : ∀ (f : Addr) (cdv : Value) (A : Around) (outer : List Env) (s : Shared) (H : Hp) (vs : List V) (Q : VK) (E : XK), (A.deeper (envOfC x (defScope st) s.heap.objs.size f cdv)).guards = some [] →
      Room k (A.deeper (envOfC x (defScope st) s.heap.objs.size f cdv)) → sp vs H Q E →
      ∃ t, PSs (cxOf CX0 P w K mg base N x (defScope st) f cdv A outer s H E).nox (defBody st) t ∧ t { nx := fun _ H' => Q .non H', rt := Q } (start N vs) H) : PromG P w K mg base (k + 1) x ps sp := by
  obtain ⟨f, fd, F, m⟩ := D
  refine ⟨f, fd, okG F S len fun cdv A outer s H vs Q E hg hr h => ?_, m, F.kp, F.bindsN hb⟩
  obtain ⟨t, h1, h2⟩ := body f cdv A outer s H vs Q E hg hr h
  exact ⟨t, h1.nox, h2⟩
end
section
variable {P : Program} {w : World} {K : PySem.W.Frag} {mg : Str → Option Value} {base : Heap} {N ps : List Str} {k : Nat} {sp : Sp} {x : Str} {st : Stmt} {f : Addr} {fd : FuncData}
theorem fnG_mk (F : FunD K x x (defArgs st) (defBody st) (defScope st) [] [] f fd) (S : FnScope N ps (defScope st)) (len : ∀ vs H Q E, sp vs H Q E → vs.length = ps.length)
    (body : ∀ (f : Addr) (cdv : Value) (A : Around) (outer : List Env) (s : Shared) (H : Hp) (vs : List V) (Q : VK) (E : XK), (A.deeper (envOfC x (defScope st) s.heap.objs.size f cdv)).guards = some [] →
      Room k (A.deeper (envOfC x (defScope st) s.heap.objs.size f cdv)) → sp vs H Q E →
      ∃ t, PSs (cxOf CX0 P w K mg base N x (defScope st) f cdv A outer s H E).nox (defBody st) t ∧ t { nx := fun _ H' => Q .non H', rt := Q } (start N vs) H) : FnG P w K mg base CX0 (k + 1) f fd ps sp := by
  refine okG F S len fun cdv A outer s H vs Q E hg hr h => ?_
  obtain ⟨t, h1, h2⟩ := body f cdv A outer s H vs Q E hg hr h
  exact ⟨t, h1.nox, h2⟩
end
/-- the built-in names that the text leaves alone -/
structure Bt (mg : Str → Option Value) : Prop where
  len_ : mg "len" = none
  isinstance_ : mg "isinstance" = none
  range_ : mg "range" = none
  max_ : mg "max" = none
  min_ : mg "min" = none
  int_ : mg "int" = none
  str_ : mg "str" = none
  bool_ : mg "bool" = none
  repr_ : mg "repr" = none
  all_ : mg "all" = none
  any_ : mg "any" = none
  list_ : mg "list" = none
  tuple_ : mg "tuple" = none
  dict_ : mg "dict" = none
  set_ : mg "set" = none
  sorted_ : mg "sorted" = none
  enumerate_ : mg "enumerate" = none
  zip_ : mg "zip" = none
  reversed_ : mg "reversed" = none
def btNames : List Str := ["len", "isinstance", "range", "max", "min", "int", "str", "bool", "repr", "all", "any", "list", "tuple", "dict", "set", "sorted", "enumerate", "zip", "reversed"]
theorem bt_of {K : PySem.W.Frag} {h : Heap} {mg : Str → Option Value} (X : K.In h) (G : h.Ns mainGlobals mg) (c : btNames.all (fun x => (He.Fa.free x).ok K) = true) : Bt mg := by
  have z : ∀ x ∈ btNames, mg x = none := fun x hx => He.free_ok X G (List.all_eq_true.mp c x hx)
  refine ⟨z _ ?_, z _ ?_, z _ ?_, z _ ?_, z _ ?_, z _ ?_, z _ ?_, z _ ?_, z _ ?_, z _ ?_, z _ ?_, z _ ?_, z _ ?_, z _ ?_, z _ ?_, z _ ?_, z _ ?_, z _ ?_, z _ ?_⟩ <;> decide +kernel

/-! ### 4. heaps: what is kept but for one object -/
def Fx (b : Addr) (H H' : Hp) : Prop := ∀ a o, a ≠ b → H a = some o → H' a = some o
def hide (H : Hp) (b : Addr) : Hp := fun a => if a = b then none else H a
theorem hide_self {H : Hp} {b : Addr} : hide H b b = none := by unfold hide; rw [if_pos rfl]
theorem hide_ne {H : Hp} {a b : Addr} (h : a ≠ b) : hide H b a = H a := by unfold hide; rw [if_neg h]
theorem hide_same {H : Hp} {b : Addr} : Same (hide H b) H := fun a o e => by
  unfold hide at e
  split at e
  · cases e
  · exact e
theorem Fx.refl (b : Addr) (H : Hp) : Fx b H H := fun _ _ _ e => e
theorem Fx.trans {b : Addr} {H H1 H2 : Hp} (x : Fx b H H1) (y : Fx b H1 H2) : Fx b H H2 := fun a o h e => y a o h (x a o h e)
theorem Fx.of {b : Addr} {H H' : Hp} (s : Same H H') : Fx b H H' := fun a o _ e => s a o e
theorem Fx.upd {b : Addr} {H H' : Hp} {o : HO} (x : Fx b H H') : Fx b H (upd H' b o) := fun a u h e => by
  rw [upd_ne h]
  exact x a u h e
theorem Fx.new {b p : Addr} {H H' : Hp} {o : HO} (x : Fx b H H') (h : H' p = none) : Fx b H (L2.upd H' p o) := fun a u ha e => by
  have q := x a u ha e
  rw [upd_ne (ne_of_none q h)]
  exact q
theorem Fx.hide {b : Addr} {H H' : Hp} (x : Fx b H H') : Same (hide H b) (hide H' b) := fun a o e => by
  have h : a ≠ b := fun z => by rw [z, hide_self] at e; cases e
  rw [hide_ne h] at e ⊢
  exact x a o h e
theorem Fx.sq {K : PySem.W.Frag} {b a : Addr} {H H' : Hp} {xs : List V} (x : Fx b H H') (h : a ≠ b) (s : SqL K H a xs) : SqL K H' a xs := by
  rcases s with (q | ⟨o, q⟩) | q
  · exact .inl (.inl (x _ _ h q))
  · exact .inl (.inr ⟨o, x _ _ h q⟩)
  · exact .inr q
theorem Same.new {H H' : Hp} {p : Addr} {o : HO} (s : Same H H') (h : H' p = none) : Same H (L2.upd H' p o) := fun a u e => by
  have q := s a u e
  rw [upd_ne (ne_of_none q h)]
  exact q
theorem sq_hide {K : PySem.W.Frag} {H : Hp} {a b : Addr} {xs : List V} (h : a ≠ b) (s : SqL K H a xs) : SqL K (hide H b) a xs := by
  rcases s with (q | ⟨o, q⟩) | q
  · exact .inl (.inl (by rw [hide_ne h]; exact q))
  · exact .inl (.inr ⟨o, by rw [hide_ne h]; exact q⟩)
  · exact .inr q
/-! ### 5. bags of draws -/
def Bag (n : Nat) (o : HO) : Prop := ∃ x y z : Int, o = .lst [.int x, .int y, .int z] ∧ 0 ≤ x ∧ 0 ≤ y ∧ y < 2147483629 ∧ 0 ≤ z ∧ z + n ≤ 1000000000
theorem Bag.mono {m n : Nat} {o : HO} (h : Bag n o) (l : m ≤ n) : Bag m o := let ⟨x, y, z, e, a, b, c, d, f⟩ := h; ⟨x, y, z, e, a, b, c, d, by omega⟩
theorem Bag.is {n : Nat} {o : HO} (h : Bag n o) : ∃ xs, o = .lst xs := let ⟨_, _, _, e, _⟩ := h; ⟨_, e⟩
/-- a cell of the script, or a number of its own -/
def spCell (K : PySem.W.Frag) : Sp := fun vs H Q _ => ∃ (a : Addr) (ns : List Int) (k : Nat), vs = [.ref a, .int k] ∧ SqL K H a (ns.map V.int) ∧ k ≤ 100 ∧ ∀ c, Q (.int c) H
def spBag : Sp := fun vs H Q _ => ∃ c : Int, vs = [.int c] ∧ ∀ p o, H p = none → Bag 900000000 o → Q (.ref p) (upd H p o)
/-- a draw below many -/
def spTake : Sp := fun vs H Q _ => ∃ (b : Addr) (o : HO) (n : Nat) (many : Int), vs = [.ref b, .int many] ∧ H b = some o ∧ Bag (n + 1) o ∧ 0 < many ∧ many < 2 ^ 200 ∧
  ∀ (d : Int) (o' : HO), 0 ≤ d → d < many → Bag n o' → Q (.int d) (upd H b o')
/-! ### 6. rules whose readings name K itself (for blocks) -/
def rLenK (K : PySem.W.Frag) : List V → Hp → VK → Prop := fun xs H Q => ∃ x n, xs = [x] ∧ LenV K x H n ∧ Q (.int n) H
def rListOf (K : PySem.W.Frag) : List V → Hp → VK → Prop := fun xs H Q => ∃ p ys, xs = [.ref p] ∧ (SqL K H p ys ∨ SqT K H p ys) ∧ ∀ l, H l = none → Q (.ref l) (upd H l (.lst ys))
def rTupleOf (K : PySem.W.Frag) : List V → Hp → VK → Prop := fun xs H Q => ∃ p ys, xs = [.ref p] ∧ ((SqL K H p ys ∧ ∀ l, H l = none → Q (.ref l) (upd H l (.tup ys))) ∨ (SqT K H p ys ∧ Q (.ref p) H))
def rJoin (K : PySem.W.Frag) : V → List V → Hp → VK → Prop := fun x xs H Q => ∃ a p, ∃ ys : List Str, x = .str a ∧ xs = [.ref p] ∧ (SqL K H p (ys.map V.str) ∨ SqT K H p (ys.map V.str)) ∧
  (ys.map (·.length)).sum + ys.length * a.length ≤ 16777216 ∧ Q (.str (Txt.join a ys)) H
section
variable {X : Cx} {K : PySem.W.Frag}
theorem ix_listK (hK : X.K = K := by rfl) : IxR X (rIxL K) := by subst hK; exact ix_list
theorem ix_tupK (hK : X.K = K := by rfl) : IxR X (rIxT K) := by subst hK; exact ix_tup
theorem sl_listK (hK : X.K = K := by rfl) : SlR X (rSlL K) := by subst hK; exact sl_list
theorem lenK (hK : X.K = K := by rfl) : CallR X (.builtin "len") (rLenK K) := by subst hK; exact call_len
theorem isiK (hK : X.K = K := by rfl) : CallR X (.builtin "isinstance") (rIsi K) := by subst hK; exact call_isi
theorem isiTK (hK : X.K = K := by rfl) : CallR X (.builtin "isinstance") (rIsiT K) := by subst hK; exact call_isiT
theorem allK (hc : X.calm = true) (hK : X.K = K := by rfl) : CallR X (.builtin "all") (rAll K) := by subst hK; exact cr_all hc
theorem listK (hK : X.K = K := by rfl) : CallR X (.type "list") (rListOf K) := by subst hK; exact call_list_of
theorem tupleK (hK : X.K = K := by rfl) : CallR X (.type "tuple") (rTupleOf K) := by subst hK; exact call_tuple_of
theorem reprK (Y : Sys K) (hgd : X.A.guards = some []) (hu : X.A.units + 64 < cLine) (hK : X.K = K := by rfl) : CallR X (.builtin "repr") (rRepr K) := by subst hK; exact call_repr Y hgd hu
theorem op_inK (hK : X.K = K := by rfl) : OpR X (compareOp .In) (rIn K false) := by subst hK; exact op_in_seq
theorem op_notInK (hK : X.K = K := by rfl) : OpR X (compareOp .NotIn) (rIn K true) := by subst hK; exact op_notIn_seq
theorem op_eqDK (hu : X.A.units + 64 < cLine) (hK : X.K = K := by rfl) : OpR X (compareOp .Eq) (rEqD K) := by subst hK; exact op_eqD hu
theorem op_neDK (hu : X.A.units + 64 < cLine) (hK : X.K = K := by rfl) : OpR X (compareOp .NotEq) (rNeD K) := by subst hK; exact op_neD hu
variable {o e : Expr} {es : List Expr} {to te : TE} {t : TA} {apos cpos : Pos}
theorem pe_joinK (hK : X.K = K) (ho : PE X o to) (he : PE X e te) (hs : starEach [e] X.env = [(false, eval e X.env)] := by rfl) (hbase : attributeBase o "join" X.env (eval o X.env) = eval o X.env := by rfl)
    (hline : (apos.endLine == cpos.line) = true := by rfl) : PE X (.Call (.Attribute o "join" apos) [e] [] cpos) (tM1 (rJoin K) to te) := by
  subst hK
  exact pe_join ho he hs hbase hline
theorem pe_appendK (hK : X.K = K) (ho : PE X o to) (he : PE X e te) (hs : starEach [e] X.env = [(false, eval e X.env)] := by rfl) (hbase : attributeBase o "append" X.env (eval o X.env) = eval o X.env := by rfl)
    (hfew : ((backTo cpos (starEach [e] X.env)).all (fun x => !x.1) && (backToKw cpos (keywordEach [] X.env)).all (fun x => x.1.isSome)
      && decide ([e].length + ([] : List Keyword).length + (if ([] : List Keyword).isEmpty then 0 else 1) < 30)) = true := by rfl)
    (hline : (apos.endLine == cpos.line) = true := by rfl) : PE X (.Call (.Attribute o "append" apos) [e] [] cpos) (tBM K "list" rAppend to (tCons te tNil)) := by
  subst hK
  exact pe_bm PySem.F.plainAttrs_list PySem.F.slot_list_append PySem.F.type_list_append mt_append ho (pa_cons he pa_nil hs) hbase hfew hline hs rfl
theorem pi_listK {tg : Expr} (hK : X.K = K) (hl : PE X e te) : PI X tg e (iList K te) := by subst hK; exact pi_list hl
theorem pi_tupK {tg : Expr} (hK : X.K = K) (hl : PE X e te) : PI X tg e (iTup K te) := by subst hK; exact pi_tup hl
theorem pi_enumK {p pos tpos : Pos} {elts : List Expr} {kk : Nat} (hK : X.K = K) (hg : Gl X "enumerate") (hm : X.mg "enumerate" = none) (ha : PA X [e] t) (hs : starEach [e] X.env = [(false, eval e X.env)] := by rfl) :
    PI X (.Tuple elts kk tpos) (.Call (.Name "enumerate" p) [e] [] pos) (iEnum K t) := by subst hK; exact pi_enum hg hm ha hs
theorem pi_revK {tg : Expr} {p pos : Pos} (hK : X.K = K) (hg : Gl X "reversed") (hm : X.mg "reversed" = none) (ha : PA X [e] t) (hs : starEach [e] X.env = [(false, eval e X.env)] := by rfl) :
    PI X tg (.Call (.Name "reversed" p) [e] [] pos) (iRev K t) := by subst hK; exact pi_reversed hg hm ha hs
end
end TS

/-! ### the end of a law, the guards told; the head's facts by any Bool of the written part -/
namespace TS
open PySem PySem.Spec PyProof.Rows L2
theorem law_callG {P : Program} {w : World} {K : PySem.W.Frag} {mg mb : Str → Option Value} {k : Nat} {fa a : Addr} {fd : FuncData} {x : Str} {sp : Sp} {s₁ : Shared} {vs : List Value} {ns : List Int}
    (KX : K.In s₁.heap) (hns : s₁.heap.Ns mainGlobals mg) (hb : s₁.heap.Ns builtinsNs mb) (hbb : ∀ x : Str, x ≠ "__name__" → mb x = bootBuiltins x) (hlim : s₁.heap.NoLimit) (hg : s₁.gens = #[])
    (ha : s₁.heap.get? a = some { cls := .type "list", data := .seq vs.toArray }) (hi : IntsAre vs ns) (hl : ns.length ≤ sizeLine) (hr : Room k callerA)
    (F : ∀ base : Heap, K.In base → base.Ns mainGlobals mg → FnG P w K mg base CX0 k fa fd [x] sp) (hbind : ∀ (s : Shared) (u : Value), BindsTo s fd ⟨[u], []⟩ [(x, u)])
    (hsp : ∀ H : Hp, Only H → SqL K H a (ns.map V.int) → sp [.ref a] H (fun v _ => v = .bl true) E0) :
    codeAny (model P w) callerA (.call (.ref fa) ⟨[.ref a], []⟩) (fun r s' => r = .ok (.ret (.bool true)) ∧ OldK s₁.heap s'.heap ∧ s'.os = s₁.os ∧ AllBare s'.gens) s₁ := by
  have rv := vals_ints hi
  have lenV := hi.length
  have go : ∀ H : Hp, Only H → SqL K H a (ns.map V.int) → HOk P w H s₁.heap → (∀ b u, H b = some u → b = a ∧ K.lookup a = none) →
      codeAny (model P w) callerA (.call (.ref fa) ⟨[.ref a], []⟩) (fun r s' => r = .ok (.ret (.bool true)) ∧ OldK s₁.heap s'.heap ∧ s'.os = s₁.os ∧ AllBare s'.gens) s₁ := by
    intro H hO hS hok hA
    have free : ∀ {b : Addr} {o : Obj}, s₁.heap.get? b = some o → (∀ n sl, o ≠ ⟨.type "list", none, .seq vs.toArray n, sl⟩ ) → H b = none := fun {b o} e d => by
      cases q : H b with
      | none => rfl
      | some u =>
        obtain ⟨rfl, _⟩ := hA b u q
        rw [ha] at e
        exact absurd (Option.some.inj e).symm (d _ _)
    have nsK : ∀ {b : Addr} {m : Str → Option Value}, s₁.heap.Ns b m → (hidT s₁.heap H).Ns b m := fun {b m} ⟨o, es, ep, e, d, r⟩ =>
      ⟨o, es, ep, hidT_get e (free e fun n sl z => by rw [z] at d; cases d), d, r⟩
    have KB : K.In (hidT s₁.heap H) := fun b o e => hidT_get (KX b o e) (by
      cases q : H b with
      | none => rfl
      | some u =>
        obtain ⟨rfl, z⟩ := hA b u q
        rw [z] at e
        cases e)
    have e0 : Env0 P w K mg (hidT s₁.heap H) callerA [] s₁ H :=
      ⟨rfl, ⟨KB, nsK hns, ⟨mb, nsK hb, hbb⟩, let ⟨mc, h1, h2⟩ := hlim; ⟨mc, nsK h1, h2⟩⟩, fun b o e => of_hidT e, Nat.le_of_eq (hidT_size _ _), trivial, (fun b z => nomatch z), hok, .of_eq hg⟩
    refine codeAny_mono ((F _ KB (nsK hns)).run callerA [] s₁ H ⟨[.ref a], []⟩ [.ref a] [.ref a] _ _ rfl hr e0 (hbind s₁ (.ref a)) (.cons rfl .nil) (hsp H hO hS)) fun r s' h => ?_
    match r, h with
    | .error e, h => exact False.elim h
    | .ok (.ret u), ⟨v, H', os, bare, un, hok', r', q⟩ =>
      obtain rfl : v = .bl true := q
      obtain rfl : u = Value.bool true := r'
      refine ⟨rfl, OldK.of_keep fun b o e => ?_, os, bare⟩
      rcases hO b with z | ⟨ob, xs, z⟩
      · exact un.keep b o e z (fun z => nomatch z) (fun z => nomatch z)
      · obtain ⟨e1, _⟩ := hok b _ z
        obtain ⟨e2, _⟩ := hok' b _ (un.frzs b ob _ z)
        rw [e] at e1
        cases e1
        exact e2
  cases hk : K.lookup a with
  | some o =>
    have e := KX a o hk
    rw [ha] at e
    cases e
    exact go (fun _ => none) (fun _ => .inl rfl) (.inr ⟨_, vs.toArray, _, hk, rfl, rfl, rfl, by rw [List.size_toArray, lenV]; exact hl, by simpa using rv⟩) (fun b u z => nomatch (show (none : Option HO) = some u from z)) (fun b u z => nomatch (show (none : Option HO) = some u from z))
  | none =>
    have one : ∀ {b : Addr} {u : HO}, (if b = a then some (HO.frz { cls := .type "list", data := .seq vs.toArray } (.lst (ns.map V.int))) else none) = some u → b = a ∧ u = .frz { cls := .type "list", data := .seq vs.toArray } (.lst (ns.map V.int)) := fun {b u} z => by
      by_cases hb : b = a
      · rw [if_pos hb] at z
        exact ⟨hb, (Option.some.inj z).symm⟩
      · rw [if_neg hb] at z
        cases z
    refine go (fun b => if b = a then some (.frz { cls := .type "list", data := .seq vs.toArray } (.lst (ns.map V.int))) else none) (fun b => ?_) (.inl (.inr ⟨_, if_pos rfl⟩)) (fun b u z => ?_) (fun b u z => ⟨(one z).1, hk⟩)
    · by_cases hb : b = a
      · exact .inr ⟨_, _, if_pos hb⟩
      · exact .inl (if_neg hb)
    · obtain ⟨rfl, rfl⟩ := one z
      exact ⟨ha, by rw [List.length_map]; exact hl, vs, _, rv, ha⟩
/-- what F gives of the law -/
structure LawAt (l : PySem.W.OpenLaw) (w : World) (mg : Str → Option Value) (k n : Nat) (x : Str) (h : Heap) (fa : Addr) (K : PySem.W.Frag) : Prop where
  kin : K.In h
  fn : ∃ (fd : FuncData) (sp : Sp), (∀ (s : Shared) (u : Value), BindsTo s fd ⟨[u], []⟩ [(x, u)]) ∧
    (∀ (H : Hp) (a : Addr) (ns : List Int), ns.length ≤ n → Only H → SqL K H a (ns.map V.int) → sp [.ref a] H (fun v _ => v = .bl true) E0) ∧
    ∀ base : Heap, K.In base → base.Ns mainGlobals mg → FnG l.prog w K mg base CX0 k fa fd [x] sp
theorem walkG {l : PySem.W.OpenLaw} {n k : Nat} {q : Program} {loose : List Str} {XP : (Str → Option Value) → Heap → Prop} {YP : World → Heap → Prop} {d : DefRec} {x : Str}
    (hn : l.most = some n) (hn2 : n ≤ sizeLine) (hdf : d.params.defaults = []) (hr : Room k callerA)
    (F : ∀ (w : World) (mg : Str → Option Value) (fa : Addr) (h : Heap), YP w h → h.Ns mainGlobals mg → mg d.name = some (.ref fa) → ∃ K, LawAt l w mg k n x h fa K) :
    PySem.W.WalkO q loose XP YP l.row.toRowW d [] (fun f vs => PySem.call f vs) := by
  refine Att.attach_call hn hdf fun w s₀ s₁ mg mb fa o pm cd doc a vs ns G Y ho hd hcd hmg hobj hints hlen hg => ?_
  obtain ⟨K, KX, fd, sp, hb, hsp, hF⟩ := F w mg fa _ Y G.T.g hmg
  exact law_callG KX G.T.g G.T.b G.T.builtins G.T.nolimit hg hobj hints (Nat.le_trans hlen hn2) hr hF hb fun H hO hS => hsp H a ns hlen hO hS
/-! ### the head -/
def asX (g : Addr → Option Obj) : Nat → List Addr
  | 0 => [mainGlobals, cStatics]
  | n + 1 => He.growD g (asX g n)
def frX (n : Nat) (g : Addr → Option Obj) : PySem.W.Frag := He.frG g (asX g n ++ [sysModules])
def obsX (n : Nat) (chk : PySem.W.Frag → Bool) (fn : List He.DefD) (g : Addr → Option Obj) : He.AlD :=
  (chk (frX n g) && fn.all (fun d => d.ok (frX n g)), fn.map fun d => He.fnW (frX n g) d.at_)
def hookX (n : Nat) (chk : PySem.W.Frag → Bool) (fn : List He.DefD) : PySem.W.Hook where
  α := He.AlD
  obs := fun s => obsX n chk fn s.heap.get?
  val := fun _ => (true, fn.map He.DefD.val)
  says := fun _ h => ∃ K : PySem.W.Frag, K.In h ∧ chk K = true ∧ fn.all (fun d => d.ok K) = true ∧ fn.map (fun d => He.fnW K d.at_) = fn.map He.DefD.val
  of := fun _ s e => ⟨_, He.frG_in, (He.ba (congrArg (·.1) e)).1, (He.ba (congrArg (·.1) e)).2, congrArg (·.2) e⟩
  keeps := fun _ _ _ ⟨K, hK, c⟩ k => ⟨K, PySem.W.Frag.In.keeps hK k, c⟩
theorem obsX_eq {n : Nat} {chk : PySem.W.Frag → Bool} {fn : List He.DefD} (s : PySem.W.SharedT) : obsX n chk fn (HandSHeadRun.getT s) = (hookX n chk fn).obs s.abs := by
  have e : HandSHeadRun.getT s = s.abs.heap.get? := funext (HandSHeadRun.getT_eq s)
  show obsX n chk fn (HandSHeadRun.getT s) = obsX n chk fn s.abs.heap.get?
  rw [e]
/-- a def's datum: a top statement -/
def defD (x : Str) (st : Stmt) : He.DefD := ⟨(x, none), x, x, defArgs st, defBody st, defScope st, [], []⟩
theorem def_of {K : PySem.W.Frag} {h : Heap} {mg : Str → Option Value} {fn : List He.DefD} (X : K.In h) (G : h.Ns mainGlobals mg) (c1 : fn.all (fun d => d.ok K) = true) (c2 : fn.map (fun d => He.fnW K d.at_) = fn.map He.DefD.val)
    {x : Str} {st : Stmt} (i : Nat) (hi : fn[i]? = some (defD x st)) (hg : (He.Fa.glo x).ok K = true) : Def K mg x st := by
  have e1 : He.fnW K (defD x st).at_ = (defD x st).val := by
    have h1 := congrArg (·[i]?) c2
    simp only [List.getElem?_map, hi, Option.map_some] at h1
    exact Option.some.inj h1
  obtain ⟨fd, F⟩ := He.DefD.funD e1 (List.all_eq_true.mp c1 _ (List.mem_of_getElem? hi))
  exact ⟨He.ga K x, fd, F, He.glo_ok X G hg⟩
/-- what is asked of the machine's own objects -/
def sysB (K : PySem.W.Frag) : Bool := (match K.lookup sysModules with | some o => decide (o.cls = .type "dict") | none => false) && decide (PySem.W.nsIn K cStatics sharingNotToldKey = some none)
theorem sysB_ok {K : PySem.W.Frag} (h : sysB K = true) : Sys K := by
  obtain ⟨h1, h2⟩ := He.ba h
  refine ⟨?_, of_decide_eq_true h2⟩
  cases e : K.lookup sysModules with
  | none => rw [e] at h1; cases h1
  | some o => rw [e] at h1; exact ⟨o, rfl, of_decide_eq_true h1⟩
def chkX (gl : List Str) (more : PySem.W.Frag → Bool) (K : PySem.W.Frag) : Bool := (sysB K && btNames.all fun x => (He.Fa.free x).ok K) && ((gl.all fun x => (He.Fa.glo x).ok K) && more K)
end TS

set_option maxHeartbeats 2000000
/-! ### comprehensions of any kind: one walk for every clause, whatever is done with what comes -/
namespace TS
open PySem PySem.Spec PyProof.Rows L2 PpSet
/-- one turn of a clause: what comes, its store, its tests; then what is done with it -/
def Steps (P : Program) (w : World) (A : Around) (it : Value) (tg : Expr) (cs : List Expr) (env : Env) (act : (Shared → Prop) → Shared → Prop) (E : Value → Shared → Prop) (stop next : Shared → Prop) (s : Shared) : Prop :=
  wpAny (model P w) A (pyNext it) (fun r t => match r with
    | none => stop t
    | some v => wpAny (model P w) A (letOwnedTupleGo tg it v) (fun _ t => wpAny (model P w) A (assign tg env v) (fun _ t => wpAny (model P w) A (forIn cs true fun c r => if r = true then do let ok ← isTrue c env (eval c env); pure (ForInStep.yield ok) else pure (ForInStep.yield r))
        (fun b t => if b = true then act next t else next t) E t) E t) E t) E s
/-- a clause's code goes by such turns -/
def Goes (P : Program) (w : World) (A : Around) (c : Code) (it : Value) (tg : Expr) (cs : List Expr) (env : Env) (act : (Value → Shared → Prop) → (Shared → Prop) → Shared → Prop) : Prop :=
  ∀ (R : Result → Shared → Prop) (I : Nat → Shared → Prop), (∀ n s, I n s → Steps P w A it tg cs env (act (notedBy (model P w) A env fun e t => R (.error e) t)) (notedBy (model P w) A env fun e t => R (.error e) t) (R (.ok .next)) (fun t => ∃ m, m < n ∧ I m t) s) →
    ∀ n s, I n s → codeAny (model P w) A c R s
/-- the turns of one clause, as readings: W by the turn and a measure, Out behind the last one, Body what is asked of an item that passes -/
def Rounds (J : It) (g : TG) (tt : TT) (τ : L2.St) (W : Nat → Nat → Hp → Prop) (Out : Hp → Prop) (ws : L2.St → L2.St) (Body : (Hp → Prop) → L2.St → Hp → Prop) : Prop :=
  ∀ i m H, W i m H → (J.stop i H ∧ Out H) ∨ (J.go i H ∧ ∃ Nx : Hp → Prop, (∀ G, Nx G → ∃ k, k < m ∧ W (i + 1) k G) ∧ ∀ x G, J.yld i H x G → g x τ G fun σ2 H2 => ws σ2 = τ ∧ tt σ2 H2 fun b H3 => if b = true then Body Nx σ2 H3 else Nx H3)
theorem walk_clause {Y : Cx} {c : Code} {tg : Expr} {cs : List Expr} {g : TG} {tt : TT} {it : Addr} {fp : List Addr} {tn : Nat → Heap → Prop} {J : It} {act : (Value → Shared → Prop) → (Shared → Prop) → Shared → Prop} {R : Result → Shared → Prop}
    {pins : List (Addr × Obj)} {τ : L2.St} {W : Nat → Nat → Hp → Prop} {Out : Hp → Prop} {vs : List Nat} {Body : (Hp → Prop) → L2.St → Hp → Prop}
    (goes : Goes Y.prog Y.w Y.A c (.ref it) tg cs Y.env act) (calm : Y.calm = true) (mute : Y.xe = fun _ _ => False) (T : Turn Y.prog Y.w Y.K tg J fp it tn) (pg : PG Y tg g) (pt : PTs Y cs tt)
    (free : ∀ (σ : L2.St) (H : Hp) (s : Shared), Inv Y pins σ H s → ∀ b ∈ fp, H b = none → FpOk Y pins H b)
    (rounds : Rounds J g tt τ W Out (fun σ => wipe σ vs) Body)
    (done : ∀ s H, Inv Y pins τ H s → Out H → R (.ok .next) s)
    (acts : ∀ (E : Value → Shared → Prop) (h : Heap) (s : Shared) (σ2 : L2.St) (H : Hp) (Nx : Hp → Prop) (next : Shared → Prop), Inv Y (pins ++ pinsAt fp h) σ2 H s → wipe σ2 vs = τ → Body Nx σ2 H →
      (∀ s' H' σ', Inv Y (pins ++ pinsAt fp h) σ' H' s' → τ.length = σ'.length → (∀ (j : Nat) v, τ[j]? = some (some v) → σ'[j]? = some (some v)) → Nx H' → next s') → act E next s)
    {s : Shared} {H : Hp} {m : Nat} (I : Inv Y pins τ H s) (st : tn 0 s.heap) (nf : ∀ b ∈ fp, H b = none) (w0 : W 0 m H) : codeAny (model Y.prog Y.w) Y.A c R s := by
  refine goes R (fun n t => ∃ i G, Inv Y pins τ G t ∧ tn i t.heap ∧ (∀ b ∈ fp, G b = none) ∧ W i n G) (fun n t ⟨i, G, IG, sG, nG, wG⟩ => ?_) m s ⟨0, H, I, st, nf, w0⟩
  have fG := fun b hb => free _ _ _ IG b hb (nG b hb)
  rcases rounds i n G wG with ⟨hs, ho⟩ | ⟨hg, Nx, hN, step⟩
  · refine thnF (T.done Y rfl rfl rfl calm i pins t τ G (fun _ _ => False) IG fG sG hs) fun r t1 h => ?_
    obtain ⟨rfl, I1⟩ := h
    exact done t1 G I1 ho
  refine thnF (T.item Y rfl rfl rfl calm i pins t τ G (fun _ _ => False) IG fG sG hg) fun r t1 h => ?_
  obtain ⟨u, rfl, h⟩ := h
  refine thnF h fun _ t2 h => ?_
  obtain ⟨x, G2, I2, rx, hy, s2, n2⟩ := h
  have P2 := I2.pinned (fun b hb => free _ _ _ I2 b hb (n2 b hb)) (T.obj _ _ s2)
  have leave : ∀ (t' : Shared) (G' : Hp) (σ' : L2.St), Inv Y (pins ++ pinsAt fp t2.heap) σ' G' t' → τ.length = σ'.length → (∀ (j : Nat) v, τ[j]? = some (some v) → σ'[j]? = some (some v)) → Nx G' →
      ∃ k, k < n ∧ ∃ i G, Inv Y pins τ G t' ∧ tn i t'.heap ∧ (∀ b ∈ fp, G b = none) ∧ W i k G := fun t' G' σ' I' l e nx => by
    obtain ⟨k, lk, wk⟩ := hN G' nx
    have at_ : ∀ b ∈ fp, ∀ o, t2.heap.get? b = some o → t'.heap.get? b = some o ∧ G' b = none := fun b hb o eo =>
      have p := I'.pin (b, o) (List.mem_append_right _ (List.mem_append_right _ (mem_pinsAt hb eo)))
      ⟨p.1, p.2.1⟩
    exact ⟨k, lk, i + 1, G', I'.unpinned.weak l e, T.keep _ _ _ s2 fun b hb o eo => (at_ b hb o eo).1, fun b hb => let ⟨o, eo, _⟩ := T.obj _ _ s2 b hb; (at_ b hb o eo).2, wk⟩
  have stored := pg.run _ t2 τ G2 x u _ P2 rx (step x G2 hy)
  rw [mute] at stored
  refine thnF stored fun _ t3 h => ?_
  obtain ⟨σ3, G3, I3, hw, h⟩ := h
  have hl : τ.length = σ3.length := by rw [← show wipe σ3 vs = τ from hw, wipe_length]
  have he : ∀ (j : Nat) v, τ[j]? = some (some v) → σ3[j]? = some (some v) := fun j v e => by
    rw [← show wipe σ3 vs = τ from hw] at e
    exact (wipe_some e).1
  have tested := pt.run _ t3 σ3 G3 _ I3 h
  rw [mute] at tested
  refine thnF tested fun b t4 h => ?_
  obtain ⟨G4, I4, h⟩ := h
  cases b with
  | false => exact leave t4 G4 σ3 I4 hl he h
  | true => exact acts _ t2.heap t4 σ3 G4 Nx _ I4 hw h leave
section
variable {X : Cx} {pins : List (Addr × Obj)} {σ : L2.St} {H : Hp} {s : Shared}
/-- a fresh object of the block's, laid by a constructor -/
def Makes (X : Cx) (mk : Sem Value) (o : Addr → HO) : Prop := ∀ (pins : List (Addr × Obj)) (σ : L2.St) (H : Hp) (s : Shared) (Q : Value → Shared → Prop) (E : Value → Shared → Prop), Inv X pins σ H s →
  (∀ (D : Addr) (t : Shared), D = s.heap.objs.size → H D = none → (∀ b u, s.heap.get? b = some u → t.heap.get? b = some u) → t.heap.objs.size = D + 1 → Inv X pins σ (upd H D (o D)) t → Q (.ref D) t) → wpAny (model X.prog X.w) X.A mk Q E s
/-- a comprehension: its constructor, its first clause's turns; what is done with an item is told by Body and act -/
theorem comp_any {Q : VK} {ce tg iter : Expr} {cs : List Expr} {rest : List Comprehension} {scope : Scope} {own : List (PySem.Str × Nat)} {pos : Pos} {wi : TI} {g : TG} {tt : TT} {mk : Sem Value} {o : Addr → HO} {use : Option (Value → Sem Unit)} {Qf : Value → Shared → Prop}
    {act : Value → Env → (Value → Shared → Prop) → (Shared → Prop) → Shared → Prop} {Body : Addr → (Hp → Prop) → L2.St → Hp → Prop}
    (hcl : clausesOf ce = ⟨tg, iter, cs, 0⟩ :: rest) (hmk : Makes X mk o) (goes : ∀ (it acc : Addr) (env : Env), Goes X.prog X.w X.A (.compLoop ce 0 (.ref it) (.ref acc) env) (.ref it) tg cs env (act (.ref acc) env))
    (start : ∀ (R : Result → Shared → Prop) (s : Shared) (it acc : Value) (env : Env), codeAny (model X.prog X.w) X.A (.compLoop ce 0 it acc env) R s →
      wpAny (model X.prog X.w) X.A (pyIter it) (fun it' t => codeAny (model X.prog X.w) X.A (.compLoop ce 0 it' acc env) R t) (notedBy (model X.prog X.w) X.A env fun x t => R (.error x) t) s → codeAny (model X.prog X.w) X.A (.compStart ce 0 it acc env) R s)
    (calm : X.calm = true) (nod : X.N.Nodup) (I : Inv X pins σ H s) (pit : PI X tg iter wi) (bk : BlkOk X.N X.env.scope scope own)
    (ptg : ∀ (s : Shared) (H : Hp) (C : Addr) (cl : List (PySem.Str × Addr)) (fp : List Addr), PG (X.blk s H scope (compEnvC scope cl C X.env) fp) tg g) (ptt : ∀ (s : Shared) (H : Hp) (C : Addr) (cl : List (PySem.Str × Addr)) (fp : List Addr), PTs (X.blk s H scope (compEnvC scope cl C X.env) fp) cs tt)
    (fold : ∀ x, foldedSetIterable iter X.env x = pure x)
    (rd : wi σ H fun J H1 => ∀ D, H1 D = none → ∃ W : Nat → Nat → Hp → Prop, (∃ m, W 0 m (upd H1 D (o D))) ∧ Rounds J g tt (wipe σ (own.map (·.2))) W (fun G => Q (.ref D) G) (fun σ => wipe σ (own.map (·.2))) (Body D))
    (acts : ∀ (s0 : Shared) (H0 : Hp) (C : Addr) (cl : List (PySem.Str × Addr)) (fp : List Addr) (D : Addr) (E : Value → Shared → Prop) (pins : List (Addr × Obj)) (s : Shared) (σ2 : L2.St) (G : Hp) (Nx : Hp → Prop) (next : Shared → Prop), Inv (X.blk s0 H0 scope (compEnvC scope cl C X.env) fp) pins σ2 G s →
      wipe σ2 (own.map (·.2)) = wipe σ (own.map (·.2)) → Body D Nx σ2 G →
      (∀ s' H' σ', Inv (X.blk s0 H0 scope (compEnvC scope cl C X.env) fp) pins σ' H' s' → (wipe σ (own.map (·.2))).length = σ'.length → (∀ (j : Nat) v, (wipe σ (own.map (·.2)))[j]? = some (some v) → σ'[j]? = some (some v)) → Nx H' → next s') → act (.ref D) (compEnvC scope cl C X.env) E next s)
    (back : ∀ D C t m G, Inv X pins σ G t → Q (.ref D) G → t.heap.Ns C m → FpOk X pins G C → compPost (model X.prog X.w) X.A X.xe use Qf (.ref D) C (.ok .next) t) :
    wpAny (model X.prog X.w) X.A (comprehension ce scope X.env pos mk false (eval iter X.env) use) Qf X.xe s := by
  have reach : ∀ y ∈ scope.names, y.2 = .free → ∃ c, X.env.cells.lookup y.1 = some c := fun y hy e => I.ok.has _ (bk.free y hy e)
  refine wpAny_comprehension_free (use := use) hcl fold (closure_ok reach) bk.kind (fun y hy e => (bk.uniq y hy).trans (congrArg some e)) (thn (pit.run pins s σ H _ I rd) fun _ _ h1 => thn h1 fun _ t2 h2 => ?_)
  obtain ⟨it, fp, tn, J, G2, rfl, I2, T, sT, fr, h⟩ := h2
  refine hmk pins σ G2 t2 _ _ I2 fun D t3 eD nD up size I3 => newEnv_comp ?_
  obtain ⟨W, ⟨m, w0⟩, rounds⟩ := h D nD
  have old : ∀ b ∈ fp, b < t2.heap.objs.size := fun b hb => let ⟨u, e, _⟩ := T.obj _ _ sT b hb; Heap.lt_size e
  have fr3 : ∀ b ∈ fp, FpOk X pins (upd G2 D (o D)) b ∧ b < t3.heap.objs.size := fun b hb => by
    have l := old b hb
    exact ⟨⟨(upd_ne (by rw [eD]; exact Nat.ne_of_lt l)).trans (fr b hb).1, (fr b hb).2⟩, by rw [size, eD]; exact Nat.lt_succ_of_lt l⟩
  have I4 := block_start I3 bk nod fr3
  have k4 : ∀ b u, t2.heap.get? b = some u → (pushCells (t3.heap.push { cls := .type "dict", data := .dict #[] }) scope.names).get? b = some u := fun b u e => pushCells_keeps _ _ _ _ (Heap.get?_push_of_some _ (up b u e))
  generalize ecl : cellsFrom (t3.heap.objs.size + 1) scope.names (cloFrom X.env.cells scope.names []) = cl at I4
  generalize eG : upd G2 D (o D) = G3 at I3 I4 w0 fr3
  generalize eC : t3.heap.objs.size = C at I4
  have lC : (compEnvC scope cl C X.env).locals = C := rfl
  refine start _ _ _ _ _ ?_ (T.self X.A 0 _ _ _ (T.keep _ _ _ sT fun b hb u e => k4 b u e) ?_)
  all_goals
    show codeAny _ _ (.compLoop ce 0 (.ref it) (.ref D) (compEnvC scope cl C X.env)) (compPost (model X.prog X.w) X.A X.xe use Qf (.ref D) C) _
    refine walk_clause (Y := X.blk t3 G3 scope (compEnvC scope cl C X.env) fp) (pins := []) (goes it D _) calm rfl T (ptg t3 G3 C cl fp) (ptt t3 G3 C cl fp) (fun τ G t J b hb hn => ⟨hn, (J.ok.exf b hb).1, J.ok.exfs b hb, .inl hb, fun x c e => (J.ok.exf b hb).2 x c e, fun p hp => absurd (show p ∈ ([] : List (Addr × Obj)) ++ [] from hp) (by simp)⟩)
      rounds (fun t G J q => ?_) (fun E h t σ2 G Nx next J e hb fin => acts t3 G3 C cl fp D E _ t σ2 G Nx next J e hb fin) I4 (T.keep _ _ _ sT fun b hb u e => k4 b u e) (fun b hb => (fr3 b hb).1.1) w0
    have K : Inv X pins σ G t := I3.call' (ch := fp) J.os J.base J.hok J.bare fun b hb => let ⟨_, f1, _, f3, f4, f5⟩ := (fr3 b hb).1; ⟨f3, f1, f4, f5⟩
    obtain ⟨mm, hn, _⟩ := J.loc
    exact back D C t mm G K q hn (I3.fpOk (Nat.le_of_eq eC) J.free)
end
end TS

set_option maxHeartbeats 2000000
/-! ### 7. set comprehensions of ints and texts, and how many there are -/
namespace TS
open PySem PySem.Spec PyProof.Rows L2 PpSet
section
variable {X : Cx}
theorem setK_fresh {P : Program} {w : World} {h : Heap} : (h.push { cls := .type "set", dict := none, data := .set #[] 0 (.fresh 0 0 (!w.params.followText "set-order")) }).SetOf (mixKind P w) h.objs.size (fun _ => false) 0 :=
  ⟨_, #[], 0, _, Heap.get?_push_size h rfl, ⟨rfl, rfl, rfl⟩, rfl, (fun e z => by simp at z), (fun k => by simp), (by decide), (by rfl), rfl⟩
theorem makes_set : Makes X (newSet (.type "set")) fun D => SetK X.prog X.w D (fun _ => false) 0 := fun pins σ H s Q E I q => by
  refine newSet_ok (q _ _ rfl (I.hok.fresh (Nat.le_refl _)) (fun b u e => Heap.get?_push_of_some _ e) (Heap.size_push ..) ?_)
  exact I.laid (t' := s.toks) (fun b u e => Heap.get?_push_of_some _ e) (Nat.le_refl _) (setK_new setK_fresh)
theorem addK_ok {pins : List (Addr × Obj)} {σ : L2.St} {H : Hp} {s : Shared} {E : Value → Shared → Prop} {D : Addr} {S : Key → Bool} {n : Nat} {k : Key} {u : Value} {Q : Value → Shared → Prop} (J : Inv X pins σ H s) (eD : H D = some (SetK X.prog X.w D S n)) (rk : RelV (kV k) u)
    (room : n + 1 < scanBound) (q : ∀ t, Inv X pins σ (upd H D (SetK X.prog X.w D (fun j => S j || decide (j = k)) (if S k = true then n else n + 1))) t → Q .none t) : wpAny (model X.prog X.w) X.A (call (.builtin "set.add") [.ref D, u]) Q E s := by
  refine call_set_add (kV_is rk) (key_scan rk) (setK_get J eD) room fun hp sb nw => ?_
  have there : ∃ v, hp.get? D = some v := let ⟨o, _, _, _, ho, _⟩ := nw; ⟨o, ho⟩
  exact q _ (J.write (e := D) (t' := s.toks + 1) (by rw [eD]; trivial) (.inl rfl) (fun b v hb hv => (sb.2 b hb).trans hv) there (setK_new nw))
/-- what is asked of an item that goes into the set D -/
def setBody (P : Program) (w : World) (te : TE) (D : Addr) (Nx : Hp → Prop) (σ2 : L2.St) (H3 : Hp) : Prop :=
  te σ2 H3 fun y H4 => ∃ (k : Key) (S : Key → Bool) (n : Nat), y = kV k ∧ H4 D = some (SetK P w D S n) ∧ n + 1 < scanBound ∧ Nx (upd H4 D (SetK P w D (fun j => S j || decide (j = k)) (if S k = true then n else n + 1)))
/-- {elt for target in iter if ..}, elt an int or a text: D the new set -/
def tScK (P : Program) (w : World) (wi : TI) (g : TG) (tt : TT) (te : TE) (vs : List Nat) : TE := fun σ H Q => wi σ H fun J H1 => ∀ D, H1 D = none → ∃ Wt : Nat → Nat → Hp → Prop, (∃ m, Wt 0 m (upd H1 D (SetK P w D (fun _ => false) 0))) ∧ ∀ i m H, Wt i m H →
  (J.stop i H ∧ Q (.ref D) H) ∨ (J.go i H ∧ ∃ Nx : Hp → Prop, (∀ G, Nx G → ∃ m', m' < m ∧ Wt (i + 1) m' G) ∧ ∀ x G, J.yld i H x G → g x (wipe σ vs) G fun σ2 H2 => wipe σ2 vs = wipe σ vs ∧ tt σ2 H2 fun b H3 =>
    if b = true then te σ2 H3 fun y H4 => ∃ (k : Key) (S : Key → Bool) (n : Nat), y = kV k ∧ H4 D = some (SetK P w D S n) ∧ n + 1 < scanBound ∧ Nx (upd H4 D (SetK P w D (fun j => S j || decide (j = k)) (if S k = true then n else n + 1))) else Nx H3)
/-- as a value -/
theorem pe_scK {elt tg iter : Expr} {ifs : List Expr} {scope : Scope} {own : List (PySem.Str × Nat)} {pos : Pos} {wi : TI} {g : TG} {tt : TT} {te : TE} (calm : X.calm = true) (nod : X.N.Nodup) (pit : PI X tg iter wi) (bk : BlkOk X.N X.env.scope scope own)
    (ptg : ∀ (s : Shared) (H : Hp) (C : Addr) (cl : List (PySem.Str × Addr)) (fps : List Addr), PG (X.blk s H scope (compEnvC scope cl C X.env) fps) tg g) (ptt : ∀ (s : Shared) (H : Hp) (C : Addr) (cl : List (PySem.Str × Addr)) (fps : List Addr), PTs (X.blk s H scope (compEnvC scope cl C X.env) fps) ifs tt)
    (pel : ∀ (s : Shared) (H : Hp) (C : Addr) (cl : List (PySem.Str × Addr)) (fps : List Addr), PE (X.blk s H scope (compEnvC scope cl C X.env) fps) elt te) (fold : ∀ x, foldedSetIterable iter X.env x = pure x := by intro _; rfl) :
    PE X (.SetComp elt [⟨tg, iter, ifs, 0⟩] scope pos) (tScK X.prog X.w wi g tt te (own.map (·.2))) := by
  refine ⟨fun pins s σ H Q I rd => ?_⟩
  rw [eval_SetComp]
  refine comp_any (rest := []) (Body := setBody X.prog X.w te) (act := fun acc env E next s => wpAny (model X.prog X.w) X.A (eval elt env) (fun v t => wpAny (model X.prog X.w) X.A (call (.builtin "set.add") [acc, v]) (fun _ t => next t) E t) E s) rfl makes_set
    (fun it acc env R I turn n s h => compLoopS_any I turn n h) (fun R s it acc env h0 h => codeAny_compStart_set h0 h) calm nod I pit bk ptg ptt fold rd (fun s0 H0 C cl fp D E pins s σ2 G Nx next J e hb fin => ?_)
    fun D C t m G J q hn f => ⟨m, hn, fun h2 sb => ?_⟩
  · refine thnF ((pel s0 H0 C cl fp).run _ s σ2 G _ J hb) fun v t h => ?_
    obtain ⟨y, G2, J2, ry, k, S, n, rfl, eD, room, nx⟩ := h
    refine addK_ok (X := X.blk s0 H0 scope (compEnvC scope cl C X.env) fp) J2 eD ry room fun t2 J3 => fin t2 _ σ2 J3 (by rw [← e, wipe_length]) (fun j x q => ?_) nx
    rw [← e] at q
    exact (wipe_some q).1
  · obtain ⟨f0, f1, _, f3, f4, f5⟩ := f
    exact ⟨.ref D, G, J.turned (t' := t.toks) (fun b o hb e => (sb.2 b hb).trans e) f0 f1 f3 f4 f5, rfl, q⟩
def rLenSet (P : Program) (w : World) : List V → Hp → VK → Prop := fun xs H Q => ∃ (a : Addr) (S : Key → Bool) (n : Nat), xs = [.ref a] ∧ H a = some (SetK P w a S n) ∧ n < 2 ^ 40 ∧ Q (.int n) H
theorem len_setK : CallR X (.builtin "len") (rLenSet X.prog X.w) := by
  intro pins s σ H xs us Q J r rd
  obtain ⟨a, S, n, rfl, ea, hn, q⟩ := rd
  obtain ⟨u, rfl, ra⟩ := vals1 r
  cases ra
  have ⟨o, es, ep, t, ho, hx, hd, h1, h2, h3, h4, h5⟩ := setK_get J ea
  subst h5
  exact call_len_set ho hx hd h4 (by have := hn; omega) ⟨.int es.size, H, J.kept fun _ _ z => z, ⟨_, rfl⟩, q⟩
end
end TS

set_option maxHeartbeats 2000000
/-! ### 8. enumerate over a tuple; readings by either of two ways -/
namespace PySem
open Sem (wp)
open AutoSeq1 (wpAny_loadPart')
theorem ts_enum_newT (l : Addr) (items : Array Value) (n : Nat) (dct : Option Addr) (sl : Array (Option Value)) :
    Meets (Builtin.«enumerate.__new__» ⟨[.type "enumerate", .ref l], []⟩) (fun _ R s => s.heap.get? l = some { cls := .type "tuple", dict := dct, data := .seq items n, slots := sl } ∧
      R (.ok (.ret (.ref (s.heap.push { cls := .type "tuple_iterator", data := .fields #[.ref l, .int 0 0] }).objs.size)))
        { s with heap := (s.heap.push { cls := .type "tuple_iterator", data := .fields #[.ref l, .int 0 0] }).push { cls := .type "enumerate", data := .fields #[.none, .bool false, .ref s.heap.objs.size, rawInt 0, .none, .none] } }) :=
  .of_wp fun prog w A R s h => by
    obtain ⟨hp, g, d, tk, os⟩ := s
    obtain ⟨there, rest⟩ := h
    have se := sub_enumerate
    have tup : Heap.IsTuple (Shared.heap ⟨hp, g, d, tk, os⟩) l items := ⟨_, there, rfl, n, rfl⟩
    wp_walk using wpAny_loadPart' there
    refine wpAny_stack_any fun st => wpAny_pure ?_
    split
    · rename_i c _ _ _ _ _
      cases (c == Value.type "enumerate")
      · wp_walk using wpAny_loadPart' there, wpAny_pyIter_tuple tup
        exact ⟨_, rfl, rest⟩
      · wp_walk using wpAny_loadPart' there, wpAny_pyIter_tuple tup
        exact ⟨_, rfl, rest⟩
    · wp_walk using wpAny_loadPart' there, wpAny_pyIter_tuple tup
      exact ⟨_, rfl, rest⟩
theorem ts_call_enumT {prog : Program} {w : World} {A : Around} {E : Value → Shared → Prop} {s : Shared} {l : Addr} {items : Array Value} {Q : Value → Shared → Prop} (tup : s.heap.IsTuple l items)
    (q : ∀ G, IsEnum G (s.heap.objs.size + 1) s.heap.objs.size 0 .none → G.IsTupleIter s.heap.objs.size l 0 → (∀ b o, s.heap.get? b = some o → G.get? b = some o) → Q (.ref (s.heap.objs.size + 1)) { s with heap := G }) :
    wpAny (model prog w) A (call (.type "enumerate") [.ref l]) Q E s := by
  obtain ⟨⟨c, dct, dt, sl⟩, there, ec, n, ed⟩ := tup
  replace ec : c = .type "tuple" := ec
  replace ed : dt = .seq items n := ed
  subst ec ed
  refine callType_new F.called_enumerate (by decide) (F.typeCall_enumerate_1 _) (F.newCall_enumerate_1 _) (fun z => F.args_object_init_2 z _) F.entry_enumerate_new (ts_enum_newT l items n dct sl) ⟨there, ?_⟩
  have sz : (s.heap.push { cls := .type "tuple_iterator", data := .fields #[.ref l, .int 0 0] }).objs.size = s.heap.objs.size + 1 := Heap.size_push ..
  show _ ∧ _
  rw [sz]
  have en : IsEnum ((s.heap.push { cls := .type "tuple_iterator", data := .fields #[.ref l, .int 0 0] }).push
      { cls := .type "enumerate", data := .fields #[.none, .bool false, .ref s.heap.objs.size, rawInt 0, .none, .none] }) (s.heap.objs.size + 1) s.heap.objs.size 0 .none := by
    have z := Heap.get?_push_size (s.heap.push { cls := .type "tuple_iterator", data := .fields #[.ref l, .int 0 0] })
      (o := { cls := .type "enumerate", data := .fields #[.none, .bool false, .ref s.heap.objs.size, rawInt 0, .none, .none] }) rfl
    rw [sz] at z; exact z
  exact ⟨⟨_, en, rfl⟩, q _ en ⟨_, Heap.get?_push_of_some _ (Heap.get?_push_size _ rfl), rfl, rfl⟩ fun b o x => Heap.get?_push_of_some _ (Heap.get?_push_of_some _ x)⟩
end PySem
namespace TS
open PySem PySem.Spec PyProof.Rows L2
/-- the tuple at a, the items in new pairs with their places -/
def IteT (K : PySem.W.Frag) (a : Addr) : It :=
  ⟨fun i H => ∃ (xs : List V) (x : V), SqT K H a xs ∧ xs[i]? = some x,
    fun i H v G => ∃ T x, v = .ref T ∧ H T = none ∧ G = upd H T (.tup [.int (i : Nat), x]) ∧ ∀ xs, SqT K H a xs → xs[i]? = some x,
    fun i H => ∃ xs : List V, SqT K H a xs ∧ xs.length ≤ i⟩
theorem turn_enumT {P : Program} {w : World} {K : PySem.W.Frag} {elts : List Expr} {kk : Nat} {tpos : Pos} (a e it : Addr) :
    Turn P w K (.Tuple elts kk tpos) (IteT K a) [e, it] e (fun i h => (∃ old, IsEnum h e it i old) ∧ h.IsTupleIter it a i ∧ e ≠ it) where
  mem := by simp
  obj := fun i h st b hb => by
    obtain ⟨⟨old, en⟩, ⟨o, ho, hc, hd⟩, _⟩ := st
    have e' : b = e ∨ b = it := by simpa using hb
    rcases e' with z | z
    · rw [z]; exact ⟨_, en, fun v q => nomatch q⟩
    · rw [z]; exact ⟨o, ho, fun v q => by rw [hd] at q; cases q⟩
  keep := fun i h G st k => let ⟨⟨old, en⟩, ti, ne⟩ := st; ⟨⟨old, k e (by simp) _ en⟩, ti.at fun o q => k it (by simp) o q, ne⟩
  item := by
    intro X hP hw hK hc i pins s σ H E J hf st hg
    subst hP hw hK
    obtain ⟨⟨old, en⟩, ti, ne⟩ := st
    obtain ⟨xs, x, hq, hx⟩ := hg
    obtain ⟨its, rv, p, hz⟩ := J.tuple hq
    obtain ⟨u, hu, ru⟩ := rv.get hx
    have p' : s.heap.IsTuple a its.toArray := p
    have lte : e < s.heap.objs.size := Heap.lt_size en
    have lti : it < s.heap.objs.size := by obtain ⟨_, q, _⟩ := ti; exact Heap.lt_size q
    have nai : a ≠ it := fun z => by
      obtain ⟨o, ho, hc1, hd1⟩ := ti
      obtain ⟨o2, ho2, hc2, _⟩ := p'
      rw [z, ho] at ho2
      cases ho2
      rw [hc1] at hc2
      exact absurd hc2 (by decide +kernel)
    have nae : e ≠ a := fun z => by
      obtain ⟨o2, ho2, hc2, _⟩ := p'
      rw [← z] at ho2
      have en' : s.heap.get? e = some _ := en
      rw [en'] at ho2
      cases ho2
      exact absurd (show Value.type "enumerate" = Value.type "tuple" from hc2) (by decide +kernel)
    have ui : its.toArray[i]? = some u := by simpa using hu
    have lt : i < its.toArray.size := by
      rcases Nat.lt_or_ge i its.toArray.size with z | z
      · exact z
      · rw [Array.getElem?_eq_none z] at ui; cases ui
    have hd := J.ok.hd hc
    refine wpAny_pyNext_enum_itemD (Draws.tuple (by exact hd) it a nai its.toArray) en ⟨ti, p'⟩ lt ne (by simp [ne, nae]) fun y G tk hy ho st' hT hsz hk => ?_
    rw [ui] at hy
    cases hy
    refine ⟨_, rfl, wpAny_letOwnedTupleGo_enum (s := { s with heap := G, toks := tk + 1 }) ho fun G2 en' sb => ?_⟩
    have hT2 : G2.get? s.heap.objs.size = some { cls := .type "tuple", data := .seq #[.int i tk, u] } := (sb.2 _ (Nat.ne_of_gt lte)).trans hT
    have new : ObjOk X.prog X.w (upd H s.heap.objs.size (.tup [.int (i : Nat), x])) G2 s.heap.objs.size (.tup [.int (i : Nat), x]) :=
      ⟨by show 2 ≤ sizeLine; decide, [.int i tk, u], .cons ⟨_, rfl⟩ (.cons ru .nil), ⟨_, hT2, rfl, _, rfl⟩⟩
    have J1 : Inv X pins σ (upd H s.heap.objs.size (.tup [.int (i : Nat), x])) { s with heap := G2, toks := tk + 1 } :=
      J.turnedNew (ch := [e, it]) (fun b ob hb q => (sb.2 b (fun z => hb (by simp [z]))).trans (hk b ob (fun z => hb (by simp [z])) (fun z => hb (by simp [z])) q)) hf (Nat.le_refl _) new
    refine ⟨.ref s.heap.objs.size, _, J1, rfl, ⟨_, x, rfl, J.hok.fresh (Nat.le_refl _), rfl, fun ys hy => by rw [J.tuple_inj hy hq]; exact hx⟩, ⟨⟨u, ?_⟩, st'.1.at fun o q => (sb.2 it (Ne.symm ne)).trans q, ne⟩, fun b hb => ?_⟩
    · have e1 : ((i + 1 : Nat) : Int) = (i : Int) + 1 := by omega
      rw [e1]; exact en'
    · have lb : b < s.heap.objs.size := by
        have e' : b = e ∨ b = it := by simpa using hb
        rcases e' with z | z
        · rw [z]; exact lte
        · rw [z]; exact lti
      rw [upd_ne (Nat.ne_of_lt lb)]
      exact (hf b hb).1
  done := by
    intro X hP hw hK hc i pins s σ H E J hf st hg
    subst hP hw hK
    obtain ⟨⟨old, en⟩, ti, ne⟩ := st
    obtain ⟨xs, hq, hx⟩ := hg
    obtain ⟨its, rv, p, hz⟩ := J.tuple hq
    obtain ⟨f0, f1, f2, f3, f4, f5⟩ := hf it (by simp)
    have hl := rv.length
    have p' : s.heap.IsTuple a its.toArray := p
    have hT : s.TypeIs (.ref e) "enumerate" := ⟨_, en, rfl⟩
    have hd := J.ok.hd hc
    unfold pyNext
    refine wpAny_bind (wpAny_attempt (wpAny_callSpecial?_slot (name := Str.ofString "__next__") hT F.slot_enumerate_next
      (wpAny_call_entry F.slot_enumerate_next hT F.entry_enumerate_next ?_ (F.args_enumerate_next_1 _))))
    show wpAny _ _ (field (.ref e) 2 >>= _) _ _ _
    refine wpAny_bind (wpAny_field en rfl (x := .ref it) rfl ?_)
    refine wpAny_bind (wpAny_nextOf_tuple_end (by exact hd) ti p' (by simp; omega) fun G x eb hx' => ?_)
    obtain ⟨o, ho, hco⟩ := hx'
    refine wpAny_bind (wpAny_isInstance (T := "StopIteration") (b := true) ⟨o, ho, hco⟩ isSubtype_stop ?_)
    exact wpAny_pure ⟨rfl, J.turned (t' := s.toks) (fun b o hb q => eb b o hb q) f0 f1 f3 f4 f5⟩
  self := fun A i s Q E st h => let ⟨⟨_, en⟩, _⟩ := st; wpAny_pyIter_enum en h
def iEnumT (K : PySem.W.Frag) (ta : TA) : TI := fun σ H R => ta σ H fun vs H1 => ∃ a xs, vs = [.ref a] ∧ SqT K H1 a xs ∧ R (IteT K a) H1
theorem pi_enumT {X : Cx} {K : PySem.W.Frag} {e : Expr} {ta : TA} {p pos tpos : Pos} {elts : List Expr} {kk : Nat} (hK : X.K = K) (hg : Gl X "enumerate") (hm : X.mg "enumerate" = none) (ha : PA X [e] ta) (hs : starEach [e] X.env = [(false, eval e X.env)] := by rfl) :
    PI X (.Tuple elts kk tpos) (.Call (.Name "enumerate" p) [e] [] pos) (iEnumT K ta) := by
  subst hK
  refine ⟨fun pins s σ H R J h => ?_⟩
  refine Call_ (ld_blt J hg hm boot_enumerate (PyProof.Rows.callWith_type1 (thn (ha.run pos pins s σ H _ J h) fun us t ⟨vs, H1, J1, r1, q1⟩ => ?_) hs rfl))
  obtain ⟨a, xs, ex, hq, q⟩ := q1
  subst ex
  obtain ⟨u, rfl, ra⟩ := vals1 r1
  cases ra
  obtain ⟨its, rv, p', hz⟩ := J1.tuple hq
  refine ts_call_enumT (show t.heap.IsTuple a its.toArray from p') fun G en ti hk => wpAny_pyIter_enum en ?_
  have J2 : Inv X pins σ H1 { t with heap := G } := J1.kept (t' := t.toks) hk
  refine ⟨t.heap.objs.size + 1, [t.heap.objs.size + 1, t.heap.objs.size], _, _, H1, rfl, J2, turn_enumT a (t.heap.objs.size + 1) t.heap.objs.size, ⟨⟨.none, en⟩, ti, Nat.succ_ne_self _⟩, fun b hb => ?_, q⟩
  have le : t.heap.objs.size ≤ b := by
    have e' : b = t.heap.objs.size + 1 ∨ b = t.heap.objs.size := by simpa using hb
    rcases e' with z | z <;> rw [z]
    · exact Nat.le_add_right _ _
    · exact Nat.le_refl _
  exact J1.fpOk le (J1.hok.fresh le)
theorem walk_enumT {K : PySem.W.Frag} {a : Addr} {xs : List V} : Walk (IteT K a) xs.length (fun H => SqT K H a xs) (YPair (fun i => some (.int (i : Nat))) (fun i => xs[i]?)) := by
  refine ⟨fun i _ hi q => ⟨xs, xs[i], q, by simp [hi]⟩, fun _ q => ⟨xs, q, Nat.le_refl _⟩, fun i H v G _ q y => ?_⟩
  obtain ⟨T, x, h1, h2, h3, h4⟩ := y
  exact ⟨T, .int (i : Nat), x, h1, h2, h3, rfl, h4 xs q⟩
/-! either of two readings -/
section
variable {X : Cx} {e tg : Expr} {t1 t2 : TE} {i1 i2 : TI}
theorem pe_either (h1 : PE X e t1) (h2 : PE X e t2) : PE X e (fun σ H Q => t1 σ H Q ∨ t2 σ H Q) := ⟨fun pins s σ H Q J h => h.elim (h1.run pins s σ H Q J) (h2.run pins s σ H Q J)⟩
theorem pi_either (h1 : PI X tg e i1) (h2 : PI X tg e i2) : PI X tg e (fun σ H R => i1 σ H R ∨ i2 σ H R) := ⟨fun pins s σ H R J h => h.elim (h1.run pins s σ H R J) (h2.run pins s σ H R J)⟩
end
end TS

set_option maxHeartbeats 2000000
/-! ### 9. defs that raise; own exceptions with one field; several except clauses -/
namespace TS
open PySem PySem.Spec PyProof.Rows L2
/-- a method's def at f -/
def DefM (K : PySem.W.Frag) (f : Addr) (m qual : Str) (st : Stmt) : Prop := ∃ fd, FunD K m qual (defArgs st) (defBody st) (defScope st) [] [] f fd
/-- a promise by the def's place -/
def PromA (CX : CXT) (P : Program) (w : World) (K : PySem.W.Frag) (mg : Str → Option Value) (base : Heap) (k : Nat) (f : Addr) (ps : List Str) (sp : Sp) : Prop := ∃ fd, FnOk P w K mg base CX k f fd ps sp ∧ Binds K fd ps []
/-- a def that may raise, by its name -/
def PromX (P : Program) (w : World) (K : PySem.W.Frag) (mg : Str → Option Value) (base : Heap) (k : Nat) (x : Str) (ps : List Str) (sp : Sp) : Prop :=
  ∃ f, PromA (L2.CX P w) P w K mg base k f ps sp ∧ mg x = some (.ref f) ∧ PySem.W.keepIn K (.ref f) = true
section
variable {P : Program} {w : World} {K : PySem.W.Frag} {mg : Str → Option Value} {base : Heap} {N ps : List Str} {k : Nat} {sp : Sp} {x m qual : Str} {st : Stmt} {f : Addr}
theorem meth_mk (D : DefM K f m qual st) (S : FnScope N ps (defScope st)) (len : ∀ vs H Q E, sp vs H Q E → vs.length = ps.length)
    (hb : ∀ (kV doc pm : Value) (an : Option Addr) (cdv ct : Value) (us : List Value), us.length = ps.length → bindArgs (PySem.W.fnOf m qual (defArgs st) (defBody st) (defScope st) .none kV doc pm an cdv ct) ⟨us, []⟩ = pure (ps.zip us))
    (body : ∀ (cdv : Value) (A : Around) (outer : List Env) (s : Shared) (H : Hp) (vs : List V) (Q : VK) (E : XK), Room k (A.deeper (envOfC qual (defScope st) s.heap.objs.size f cdv)) → sp vs H Q E →
      ∃ t, PSs (cxOf CX0 P w K mg base N qual (defScope st) f cdv A outer s H E).nox (defBody st) t ∧ t { nx := fun _ G => Q .non G, rt := Q } (start N vs) H) : PromA CX0 P w K mg base (k + 1) f ps sp := by
  obtain ⟨fd, F⟩ := D
  refine ⟨fd, F.ok S len fun cdv A outer s H vs Q E hr h => ?_, F.bindsN hb⟩
  obtain ⟨t, h1, h2⟩ := body cdv A outer s H vs Q E hr h
  exact ⟨t, h1.nox, h2⟩
theorem methX_mk (D : DefM K f m qual st) (S : FnScope N ps (defScope st)) (len : ∀ vs H Q E, sp vs H Q E → vs.length = ps.length)
    (hb : ∀ (kV doc pm : Value) (an : Option Addr) (cdv ct : Value) (us : List Value), us.length = ps.length → bindArgs (PySem.W.fnOf m qual (defArgs st) (defBody st) (defScope st) .none kV doc pm an cdv ct) ⟨us, []⟩ = pure (ps.zip us))
    (body : ∀ (cdv : Value) (A : Around) (outer : List Env) (s : Shared) (H : Hp) (vs : List V) (Q : VK) (E : XK), Room k (A.deeper (envOfC qual (defScope st) s.heap.objs.size f cdv)) → sp vs H Q E →
      ∃ t, PSs (cxOf (L2.CX P w) P w K mg base N qual (defScope st) f cdv A outer s H E) (defBody st) t ∧ t { nx := fun _ G => Q .non G, rt := Q } (start N vs) H) : PromA (L2.CX P w) P w K mg base (k + 1) f ps sp := by
  obtain ⟨fd, F⟩ := D
  exact ⟨fd, F.ok S len body, F.bindsN hb⟩
theorem promX_mk (D : Def K mg x st) (S : FnScope N ps (defScope st)) (len : ∀ vs H Q E, sp vs H Q E → vs.length = ps.length)
    (hb : ∀ (kV doc pm : Value) (an : Option Addr) (cdv ct : Value) (us : List Value), us.length = ps.length → bindArgs (PySem.W.fnOf x x (defArgs st) (defBody st) (defScope st) .none kV doc pm an cdv ct) ⟨us, []⟩ = pure (ps.zip us))
    (body : ∀ (f : Addr) (cdv : Value) (A : Around) (outer : List Env) (s : Shared) (H : Hp) (vs : List V) (Q : VK) (E : XK), Room k (A.deeper (envOfC x (defScope st) s.heap.objs.size f cdv)) → sp vs H Q E →
      ∃ t, PSs (cxOf (L2.CX P w) P w K mg base N x (defScope st) f cdv A outer s H E) (defBody st) t ∧ t { nx := fun _ G => Q .non G, rt := Q } (start N vs) H) : PromX P w K mg base (k + 1) x ps sp := by
  obtain ⟨f, fd, F, m⟩ := D
  exact ⟨f, ⟨fd, F.ok S len (body f), F.bindsN hb⟩, m, F.kp⟩
/-- in a def that may raise, what it lets out is taken -/
theorem takesF {E : XK} {qual : Str} {scope : Scope} {f : Addr} {cdv : Value} {A : Around} {outer : List Env} {s : Shared} {H : Hp} :
    Takes (cxOf (L2.CX P w) P w K mg base N qual scope f cdv A outer s H E) (fun cls d _ G => E cls d G) := takes_of rfl rfl rfl rfl
end
/-! calls of defs that may raise: what is let out goes to W -/
section
variable {X : Cx} {k : Nat} {f C : Addr} {ps : List Str} {sp : Sp} {W : WX} {x : Str} {p pos : Pos} {e : Expr} {es : List Expr} {t : TA}
theorem pe_pcX (pr : PromX X.prog X.w X.K X.mg X.base k x ps sp) (tk : Takes X W) (hr : Room k X.A) (hg : Gl X x) (ha : PA X (e :: es) t) (hdb : (x == ("__debug__" : Str)) = false := by decide)
    (he : starEach (e :: es) X.env = (false, eval e X.env) :: starEach es X.env := by rfl) (hpl : (backTo pos (starEach es X.env)).any (·.1) = false := by rfl) :
    PE X (.Call (.Name x p) (e :: es) [] pos) (tCallS sp (WE W) t) := by
  obtain ⟨f, ⟨fd, F, b⟩, m, kp⟩ := pr
  exact pe_callS F hr hg m kp b (fun σ => passAt tk σ) ha hdb he hpl
/-- C(e, ..) of an own class whose __init__ may raise -/
def tMakeS (C : Addr) (sp : Sp) (W : WX) (t : TA) : TE := fun σ H Q => t σ H fun vs H1 => ∀ x dx, H1 x = none → H1 dx = none → dx ≠ x →
  sp (.ref x :: vs) (upd (upd H1 dx (.own x)) x (.ins C dx [])) (fun v H2 => v = .non ∧ Q (.ref x) H2) (WE W σ)
theorem make_runS {fd : FuncData} {pins : List (Addr × Obj)} {σ : L2.St} {H : Hp} {s : Shared} {Q : VK} {us : List Value} {vs : List V} (M : Mk X.K C f) (F : FnOk X.prog X.w X.K X.mg X.base (L2.CX X.prog X.w) k f fd ps sp) (hr : Room (k + 1) X.A) (hb : Binds X.K fd ps [])
    (tk : Takes X W) (J : Inv X pins σ H s) (r : Vals vs us)
    (h : ∀ x dx, H x = none → H dx = none → dx ≠ x → sp (.ref x :: vs) (upd (upd H dx (.own x)) x (.ins C dx [])) (fun v H2 => v = .non ∧ Q (.ref x) H2) (WE W σ)) :
    wpAny (model X.prog X.w) X.A (call (.ref C) us) (EP X pins σ Q) X.xe s := by
  have q := h (s.heap.objs.size + 1) s.heap.objs.size (J.hok.fresh (Nat.le_succ _)) (J.hok.fresh (Nat.le_refl _)) (Nat.ne_of_lt (Nat.lt_succ_self _))
  have J2 := Inv.made (C := C) J
  have r2 : Vals (V.ref (s.heap.objs.size + 1) :: vs) (Value.ref (s.heap.objs.size + 1) :: us) := .cons rfl r
  have hl : (Value.ref (s.heap.objs.size + 1) :: us).length = ps.length := by rw [← r2.length]; exact F.len _ _ _ _ q
  have b := hb _ (Value.ref (s.heap.objs.size + 1) :: us) J2.kIn (by rw [List.append_nil]; exact hl)
  rw [List.append_nil] at b
  refine wpAny_call (make_map (f := f) J.kIn M.makes M.init (beq_iff_eq.mp M.fn) (codeAny_mono (F.run _ X.stack _ _ ⟨Value.ref (s.heap.objs.size + 1) :: us, []⟩ (Value.ref (s.heap.objs.size + 1) :: us) _ _ (WE W σ) (hr.make C us [])
    (J2.env0.make C us []) b r2 q) fun o t z => ?_))
  match o, z with
  | .error e, z => exact passAt tk σ pins _ _ e t J2 z
  | .ok (.ret u), z =>
    obtain ⟨v, G, J3, rv, ev, q3⟩ := J2.after z
    subst ev
    exact ⟨rv, ⟨V.ref (s.heap.objs.size + 1), G, J3, rfl, q3⟩⟩
theorem pe_makeS (M : Mk X.K C f) (pr : PromA (L2.CX X.prog X.w) X.prog X.w X.K X.mg X.base k f ps sp) (tk : Takes X W) (hr : Room (k + 1) X.A) (hg : Gl X x) (hm : X.mg x = some (.ref C)) (ha : PA X (e :: es) t) (hdb : (x == ("__debug__" : Str)) = false := by decide)
    (he : starEach (e :: es) X.env = (false, eval e X.env) :: starEach es X.env := by rfl) (hpl : (backTo pos (starEach es X.env)).any (·.1) = false := by rfl) :
    PE X (.Call (.Name x p) (e :: es) [] pos) (tMakeS C sp W t) := by
  obtain ⟨fd, F, b⟩ := pr
  refine ⟨fun pins s σ H Q J h => wpAny_Call_Name_kw (ld_glob J hg hm ?_ hdb)⟩
  exact PySem.W.callWith_K (h₀ := X.base) J.ok.mod.kin M.kp (thn (ha.run pos pins s σ H _ J h) fun us t ⟨vs, H1, J1, r, q⟩ => ⟨J1.kIn, make_runS M F hr b tk J1 r q⟩) he hpl
end
/-! len of an instance with its own __len__ -/
def rLenOwn (C : Addr) (sp : Sp) : List V → Hp → VK → Prop := fun xs H Q => ∃ a dx fs, xs = [.ref a] ∧ H a = some (.ins C dx fs) ∧ sp [.ref a] H (fun v G => ∃ n : Nat, v = .int n ∧ n < 2 ^ 40 ∧ Q (.int n) G) E0
theorem len_own {X : Cx} {k : Nat} {C f : Addr} {ps : List Str} {sp : Sp} (M : Meth X.K C "__len__" f) (pr : PromA CX0 X.prog X.w X.K X.mg X.base k f ps sp) (hr : Room (k + 1) X.A) : CallR X (.builtin "len") (rLenOwn C sp) := by
  intro pins s σ H xs us Q J r rd
  obtain ⟨a, dx, fs, rfl, ea, q⟩ := rd
  obtain ⟨u, rfl, ra⟩ := vals1 r
  cases ra
  obtain ⟨fd, F, hb⟩ := pr
  obtain ⟨mA, O, rr, _, _, _⟩ := ins_get J.hok ea
  obtain ⟨od, at_, _⟩ := O.look
  have b := hb s [.ref a] J.kIn (F.len _ _ _ _ q)
  refine Calls.call_function_entry PySem.kind_len PySem.plain_len PySem.entry_len (PySem.args_len1 _) ?_
  unfold Builtin.«len»
  refine wpAny_bind (m := oneArg "len" _) (wpAny_pure ?_)
  refine wpAny_bind (m := callSpecial? (.ref a) (Str.ofString "__len__")) (PySem.W.special_fn J.kIn at_ M.at_ (beq_iff_eq.mp M.fn) ?_)
  refine wpAny_call (codeAny_mono (F.run X.A.in1 X.stack s H ⟨[.ref a], []⟩ [.ref a] [.ref a] _ E0 hr.in1 J.env0.in1 b (.cons rfl .nil) q) fun o t z => ?_)
  match o, z with
  | .error e, z => exact pass0 pins σ H s e t J z
  | .ok (.ret u), z =>
    obtain ⟨v, G, J2, rv, n, rfl, hn, q2⟩ := J.after z
    obtain ⟨tk, rfl⟩ := rv
    show wpAny _ _ _ _ _ _
    refine wpAny_bind (wpAny_holding (wpAny_pure ?_))
    refine wpAny_bind (wpAny_letGo ?_)
    show wpAny _ _ (if ((n : Nat) : Int) < 0 then _ else _) _ _ _
    rw [if_neg (by omega)]
    show wpAny _ _ (if ((n : Nat) : Int) ≥ 2 ^ 63 then _ else _) _ _ _
    rw [if_neg (by omega)]
    exact wpAny_bind (wpAny_mkInt (wpAny_pure ⟨_, rfl, .int n, G, J2.kept fun _ _ z => z, ⟨_, rfl⟩, q2⟩))
end TS

set_option maxHeartbeats 2000000
namespace TS
open PySem PySem.Spec PyProof.Rows L2
/-- B is an own class over ValueError without an __init__ of its own -/
structure FamV (K : PySem.W.Frag) (B : Addr) : Prop where
  rd : ClX.CRead K B (.type "type")
  ini : PySem.W.findCls K (.ref B) (.type "type") "__init__" = some (.val (.builtin "ValueError.__init__"))
/-- C is an own class of exceptions over ValueError, with an __init__ of its own, and no other thing called f -/
structure OwnV (K : PySem.W.Frag) (C : Addr) (f : Str) : Prop where
  ox : OexC K C
  xf : XfC K C
  ini : PySem.W.findIn K (.ref C) "__init__" = some (some (.ref (He.ma K C "__init__")))
  fn : PySem.W.typeIn K (.ref (He.ma K C "__init__")) = some (.type "function")
  no : PySem.W.findIn K (.ref C) f = some none
section
variable {X : Cx} {B : Addr} {x : Str} {e : Expr} {es : List Expr} {ta : TA} {p1 p2 pos : Pos}
/-- B.__init__(self, ..) -/
theorem pe_famInit {pl : Sem Bool} (T : FamV X.K B) (hg : Gl X x) (hm : X.mg x = some (.ref B)) (ha : PA X (e :: es) ta) (hdb : (x == ("__debug__" : Str)) = false := by decide)
    (hc : eval (.Call (.Attribute (.Name x p1) "__init__" p2) (e :: es) [] pos) X.env = (do
      let ov ← eval (.Name x p1) X.env
      standAt p2.atName
      let (f, first) ← holding [ov] (getMethod ov "__init__" pl)
      callWith pos f first (backTo pos (starEach (e :: es) X.env)) (backToKw pos (keywordEach [] X.env))) := by rfl)
    (he : starEach (e :: es) X.env = (false, eval e X.env) :: starEach es X.env := by rfl) (hpl : (backTo pos (starEach es X.env)).any (·.1) = false := by rfl) :
    PE X (.Call (.Attribute (.Name x p1) "__init__" p2) (e :: es) [] pos) (tVeI X.K ta) := by
  refine ⟨fun pins s σ H Q J h => ?_⟩
  refine PySem.W.methodCall_KW (ld_glob J hg hm ?_ hdb) hc
  refine PySem.W.method_cls J.kIn T.rd.ga (PySem.W.cls_value J.kIn T.rd.rd T.ini rfl ?_)
  show wpAny _ _ (callWith pos (Value.builtin "ValueError.__init__") [] (backTo pos (starEach (e :: es) X.env)) []) _ _ _
  refine PyProof.Rows.callWith_method1 (thn (ha.run pos pins _ σ H _ (J.tok _) h) fun us t ⟨vs, H1, J1, r1, a, C, ws, ev, hl, O, ea, q⟩ => ?_) he hpl
  subst ev
  cases r1 with
  | @cons _ u0 _ ur ra rw' =>
    obtain rfl : u0 = Value.ref a := ra
    exact oinit_ok O J1 ea (by rw [← Paired.length rw', sizeLine_eq]; omega) fun t' J2 => ⟨.non, H1, J2, rfl, q⟩
end
/-- what the __init__ of such a class keeps -/
def spIni (C : Addr) (f : Str) : Sp := fun vs H Q _ => ∃ a v, vs = [.ref a, v] ∧ H a = some (exo a C none) ∧ ∀ dx, H dx = none → dx ≠ a → Q .non (upd (upd H dx (exd dx [(f, v)])) a (exo a C (some dx)))
/-- a reading, weakened -/
def tMono (te : TE) : TE := fun σ H Q => ∃ R : VK, te σ H R ∧ ∀ v G, R v G → Q v G
theorem pe_mono {X : Cx} {e : Expr} {te : TE} (he : PE X e te) : PE X e (tMono te) := ⟨fun pins s σ H Q J ⟨R, h, m⟩ => thn (he.run pins s σ H R J h) fun _ _ ⟨v, G, J1, r, q⟩ => ⟨v, G, J1, r, m v G q⟩⟩
/-- raise C(e) -/
def tRaise1 (C : Addr) (f : Str) (te : TE) (W : WX) : TS := fun _ σ H => te σ H fun v H1 => ∀ d, H1 d = none → W (.ref C) (some d) σ (upd H1 d (.xd [(f, v)]))
theorem upd_swap {H : Hp} {a d : Addr} {o u v w : HO} (h : d ≠ a) (n : H a = none) : upd (del (upd (upd (upd H a o) d u) a v) a) d w = upd H d w := by
  funext b
  by_cases hb : b = d
  · rw [hb, upd_same, upd_same]
  · rw [upd_ne hb, upd_ne hb]
    by_cases ha : b = a
    · rw [ha, del_same, n]
    · rw [del_ne ha, upd_ne ha, upd_ne hb, upd_ne ha]
section
variable {X : Cx} {C : Addr} {f x : Str} {k : Nat} {ps : List Str} {e : Expr} {te : TE} {W : WX} {p pos pos2 : Pos}
theorem ps_raise1 (T : OwnV X.K C f) (pr : PromA CX0 X.prog X.w X.K X.mg X.base k (He.ma X.K C "__init__") ps (spIni C f)) (hc : X.calm = true) (tk : Takes X W) (hr : Room (k + 1) X.A) (hg : Gl X x) (hm : X.mg x = some (.ref C)) (he : PE X e te)
    (hdb : (x == ("__debug__" : Str)) = false := by decide) (hs : starEach [e] X.env = (false, eval e X.env) :: starEach [] X.env := by rfl) (hpl : (backTo pos (starEach [] X.env)).any (·.1) = false := by rfl) :
    PS X (.Raise (some (.Call (.Name x p) [e] [] pos)) none pos2) (tRaise1 C f te W) := by
  obtain ⟨fd, F, b⟩ := pr
  have mk := pmk_oex (p := p) (pos := pos) (dvs := []) (ds := []) T.ox T.ini T.fn F hr b .nil pass0 hg hm (pa_cons (pe_mono he) pa_nil hs) hdb hs hpl
  refine ⟨fun pins s σ H D J h => (ps_raise hc tk mk).run pins s σ H D J ?_⟩
  refine ⟨_, h, fun v H1 q => ⟨by show 1 ≤ 1000; decide, fun a na => ⟨a, v, rfl, upd_same .., fun dx nd ne => ⟨rfl, dx, [(f, v)], upd_same .., ?_, ?_, ?_⟩⟩⟩⟩
  · rw [upd_ne ne, upd_same]
  · rw [upd_ne ne] at nd; exact nd
  · rw [upd_ne ne] at nd
    rw [upd_swap ne na]
    exact q dx nd
end
end TS

set_option maxHeartbeats 2000000
/-! ### 10. try with several clauses, named ones and others; what lies behind them is never reached -/
namespace TS
open PySem PySem.Spec PyProof.Rows L2
/-- behind a named clause its name is unbound -/
def Ends.drop (D : Ends) (i : Nat) : Ends := { nx := fun τ G => D.nx (τ.set i none) G, rt := D.rt, bk := fun τ G => D.bk (τ.set i none) G, ct := fun τ G => D.ct (τ.set i none) G }
abbrev Clause := Value × Option Nat × (Addr → Value → Option Addr → TS)
def wClauses (K : PySem.W.Frag) (D : Ends) : List Clause → WX
  | [] => fun _ _ _ _ => False
  | (c, some i, ts) :: r => fun cls d σ H => ∃ b, PySem.W.exmOne K cls c = some b ∧ (b = true → ∀ a, H a = none → ts a cls d (Ends.drop D i) (σ.set i (some (.ref a))) H) ∧ (b = false → wClauses K D r cls d σ H)
  | (c, none, ts) :: r => fun cls d σ H => ∃ b, PySem.W.exmOne K cls c = some b ∧ (b = true → ∀ a, H a = none → ts a cls d D σ H) ∧ (b = false → wClauses K D r cls d σ H)
abbrev SuiteOk (X : Cx) (st : List Stmt) (ts : Addr → Value → Option Addr → TS) : Prop :=
  ∀ (a : Addr) (oe : Obj) (cls : Value) (d : Option Addr) (pn : List (Addr × Obj)), Zc cls d oe → (∃ vs, oe.data = .fields vs) → PSs (X.suite a ((a, oe) :: pn)) st (ts a cls d)
inductive ClausesOk (X : Cx) : List ExceptHandler → List Clause → Prop
  | stop {l : List ExceptHandler} : ClausesOk X l []
  | as_ {x n : Str} {i : Nat} {c : Value} {ts : Addr → Value → Option Addr → TS} {b₀ : Stmt} {suite : List Stmt} {np pp : Pos} {l : List ExceptHandler} {r : List Clause} (hi : X.N[i]? = some n) (hln : X.env.kindOf n = some .local) (hc : Names X x c)
      (hsu : SuiteOk X (b₀ :: suite) ts) (t : ClausesOk X l r) : ClausesOk X (.ExceptHandler (some (.Name x np)) (some n) (b₀ :: suite) pp :: l) ((c, some i, ts) :: r)
  | only {x : Str} {c : Value} {ts : Addr → Value → Option Addr → TS} {b₀ : Stmt} {suite : List Stmt} {np pp : Pos} {l : List ExceptHandler} {r : List Clause} (hc : Names X x c)
      (hsu : SuiteOk X (b₀ :: suite) ts) (t : ClausesOk X l r) : ClausesOk X (.ExceptHandler (some (.Name x np)) none (b₀ :: suite) pp :: l) ((c, none, ts) :: r)
section
variable {X : Cx} {body : List Stmt} {h₀ : ExceptHandler} {hs' : List ExceptHandler} {cl : List Clause} {pos : Pos} {tb : WX → TS}
theorem ps_try (stk : X.stack = X.env :: X.outer) (frm : X.env.frame = some X.env.locals) (nod : X.N.Nodup)
    (bod : ∀ (W : WX) (pn : List (Addr × Obj)) (xe : Value → Shared → Prop), Takes (X.tr pn xe) W → PassesOwn (model X.prog X.w) X.A X.env xe → PSs (X.tr pn xe) body (tb W))
    (cls' : ClausesOk X (h₀ :: hs') cl) : PS X (.Try body (h₀ :: hs') [] [] pos) (fun D σ H => tb (wClauses X.K D cl) D σ H) := by
  refine ⟨fun pins s σ H D J rd => ?_⟩
  have xok := J.ok
  have afr : X.A.frames = some (X.env :: X.outer) := by rw [xok.frames, stk]
  refine wpAny_Try_except ?_
  refine wpAny_mono ((bod (wClauses X.K D cl) (X.pn ++ pins) (fun u t1 => wpAny (model X.prog X.w) X.A (noteFrame u X.env) (fun _ t2 => wpAny (model X.prog X.w) X.A (setFlight u none) (fun _ t3 =>
    wpAny (model X.prog X.w) X.A (handleBy u X.env (h₀ :: hs')) (SP X pins D) X.xe t3) X.xe t2) X.xe t1) (fun u t air => ?_) PassesOwn.looking).run [] s σ H D (J.toTry _) rd) (fun fl t1 sp => ?_) (fun u t1 z => z)
  · obtain ⟨a, gr, sA, pins', σ', H', cls, d, rfl, J', ngr, up, sky, na, os, ag, wish⟩ := air
    have J1 : Inv X pins σ' H' sA := J'.ofTry xok
    have sky1 : Sky gr (X.env :: X.outer) a (Zc cls d) X.env.locals t.heap := by rw [← stk]; exact sky
    show wpAny (model X.prog X.w) X.A (noteFrame (.ref a) X.env) _ _ _
    refine Sky.land Zc.steady afr frm sky1 fun h3 fl3 up3 => ?_
    have J3 : Inv X pins σ' H' { t with heap := h3 } := J1.landed ngr fl3.1 (up.trans up3) os ag
    obtain ⟨oe3, vs3, get3, zc3, dat3⟩ := fl3.there
    have off : ∀ {h : Heap} {o : Obj} {vs : Array Value}, h.FunFrames gr (X.env :: X.outer) → h.get? a = some o → o.data = .fields vs → a ∉ frs (X.env :: X.outer) := fun {h o vs} ff g dd m => by
      obtain ⟨_, o', g', nf⟩ := ff.mem m
      rw [g] at g'; cases g'
      exact nf _ dd
    have offA := off fl3.2.2.1 get3 dat3
    have neL : a ≠ X.env.locals := fun z => offA (List.mem_filterMap.mpr ⟨X.env, List.mem_cons_self, by rw [frm, z]⟩)
    have neF : a ∉ X.fs := fun m => by
      obtain ⟨en, me, q⟩ := List.mem_filterMap.mp m
      exact offA (List.mem_filterMap.mpr ⟨en, List.mem_cons_of_mem _ me, q⟩)
    have S3 := J3.suite get3 dat3 na neL neF
    have ld : ∀ {x : Str} {c : Value} {np : Pos}, Names X x c → ∀ {Q : Value → Shared → Prop} {E : Value → Shared → Prop}, Q c { t with heap := h3 } → wpAny (model X.prog X.w) (X.A.mark (some (.ref a))) (eval (.Name x np) X.env) Q E { t with heap := h3 } := fun {x c np} nm {Q E} q => by
      obtain ⟨g, db, m | ⟨m, v, nn⟩⟩ := nm
      · exact ld_glob (X := X.suite a ((a, oe3) :: (X.pn ++ pins))) S3 g m q db
      · exact ld_blt (X := X.suite a ((a, oe3) :: (X.pn ++ pins))) S3 g m v q nn db
    have LT : PySem.W.Looks (model X.prog X.w) h3 (typeOf (.ref a)) cls := fun A Q E s k q => wpAny_typeOf_ref (k _ _ get3) (by rw [zc3.1]; exact q)
    have go : ∀ {l : List ExceptHandler} {r : List Clause}, ClausesOk X l r → wClauses X.K D r cls d σ' H' → wpAny (model X.prog X.w) X.A (handleBy (.ref a) X.env l) (SP X pins D) X.xe { t with heap := h3 } := by
      intro l r ck
      induction ck with
      | stop => intro w; exact False.elim w
      | @as_ x n i c ts b₀ suite np pp l r hi hln hc hsu t2 ih =>
        intro w
        obtain ⟨b, eb, yes, no⟩ := w
        refine wpAny_handleBy_cons (codeAny_handlers_test ?_) (by intro q; cases q)
        refine ld hc ((PySem.W.exm_one (M := model X.prog X.w) J3.kIn LT eb).here ?_)
        cases b with
        | false =>
          show wpAny _ X.A (handleBy (.ref a) X.env l) _ _ _
          exact ih (no rfl)
        | true =>
          refine codeAny_handlers_suite_as ?_
          refine HandSPX.lands_againZ fl3 fun h4 fl4 up4 => ?_
          have J4 : Inv X pins σ' H' { t with heap := h4 } := J1.landed ngr fl4.1 ((up.trans up3).trans up4) os ag
          obtain ⟨oe4, vs4, get4, zc4, dat4⟩ := fl4.there
          have S4 := J4.suite get4 dat4 na neL neF
          refine store_ok (X := X.suite a ((a, oe4) :: (X.pn ++ pins))) (v := .ref a) S4 nod hi (.inl hln) rfl (fun t5 S5 => ?_) (.inr hln)
          refine wpAny_mono ((hsu a oe4 cls d (X.pn ++ pins) zc4 ⟨_, dat4⟩).run [] t5 _ H' _ S5 (yes rfl a na)) (fun fl t6 sp => ?_) (fun _ _ z => False.elim z)
          have un : ∀ {σ6 : L2.St} {H6 : Hp} {Q : Shared → Prop}, Inv (X.suite a ((a, oe4) :: (X.pn ++ pins))) [] σ6 H6 t6 → (∀ t7, Inv X pins (σ6.set i none) H6 t7 → Q t7) →
              wpAny (model X.prog X.w) X.A (do bindName X.env n .none; unbindBehindTheSuite X.env n pp) (fun _ t7 => Q t7) X.xe t6 := fun {σ6 H6 Q} S6 q => gone_ok (S6.unsuite xok) nod hi hln q
          cases fl with
          | next => exact let ⟨_, _, S6, q6⟩ := sp; un S6 fun t7 J7 => ⟨_, _, J7, q6⟩
          | brk => exact let ⟨_, _, S6, q6⟩ := sp; un S6 fun t7 J7 => ⟨_, _, J7, q6⟩
          | cont => exact let ⟨_, _, S6, q6⟩ := sp; un S6 fun t7 J7 => ⟨_, _, J7, q6⟩
          | ret u => exact let ⟨_, _, _, S6, r6, q6⟩ := sp; un S6 fun t7 J7 => ⟨_, _, _, J7, r6, q6⟩
      | @only x c ts b₀ suite np pp l r hc hsu t2 ih =>
        intro w
        obtain ⟨b, eb, yes, no⟩ := w
        refine wpAny_handleBy_cons (codeAny_handlers_test ?_) (by intro q; cases q)
        refine ld hc ((PySem.W.exm_one (M := model X.prog X.w) J3.kIn LT eb).here ?_)
        cases b with
        | false =>
          show wpAny _ X.A (handleBy (.ref a) X.env l) _ _ _
          exact ih (no rfl)
        | true =>
          refine codeAny_handlers_suite ?_
          refine HandSPX.lands_againZ fl3 fun h4 fl4 up4 => ?_
          have J4 : Inv X pins σ' H' { t with heap := h4 } := J1.landed ngr fl4.1 ((up.trans up3).trans up4) os ag
          obtain ⟨oe4, vs4, get4, zc4, dat4⟩ := fl4.there
          have S4 := J4.suite get4 dat4 na neL neF
          refine wpAny_mono ((hsu a oe4 cls d (X.pn ++ pins) zc4 ⟨_, dat4⟩).run [] _ _ H' _ S4 (yes rfl a na)) (fun fl t6 sp => ?_) (fun _ _ z => False.elim z)
          cases fl with
          | next => exact let ⟨_, _, S6, q6⟩ := sp; ⟨_, _, S6.unsuite xok, q6⟩
          | brk => exact let ⟨_, _, S6, q6⟩ := sp; ⟨_, _, S6.unsuite xok, q6⟩
          | cont => exact let ⟨_, _, S6, q6⟩ := sp; ⟨_, _, S6.unsuite xok, q6⟩
          | ret u => exact let ⟨_, _, _, S6, r6, q6⟩ := sp; ⟨_, _, _, S6.unsuite xok, r6, q6⟩
    exact go cls' wish
  · cases fl with
    | next => exact let ⟨σ', H', J', q⟩ := sp; wpAny_execs_nil ⟨σ', H', J'.ofTry xok, q⟩
    | brk => exact let ⟨σ', H', J', q⟩ := sp; ⟨σ', H', J'.ofTry xok, q⟩
    | cont => exact let ⟨σ', H', J', q⟩ := sp; ⟨σ', H', J'.ofTry xok, q⟩
    | ret u => exact let ⟨v, σ', H', J', r, q⟩ := sp; ⟨v, σ', H', J'.ofTry xok, r, q⟩
end
end TS

/-! ### 11. data: kinds, sizes -/
namespace TS
open PySem PySem.Spec PyProof.Rows L2
def tyN : PyData → String
  | .none => "NoneType"
  | .bool _ => "bool"
  | .int _ => "int"
  | .str _ => "str"
  | .list _ => "list"
  | .tuple _ => "tuple"
  | .dict _ => "dict"
theorem Dt.ty {K : PySem.W.Frag} {H : Hp} : ∀ {v : V} {d : PyData}, Dt K H v d → TyX K H v (.type (tyN d))
  | _, _, .non => .base .non
  | _, _, .bl b => .base (.bl b)
  | _, _, .int i => .base (.int i)
  | _, _, .str x => .base (.str x)
  | _, _, .lst h _ => by
    rcases h with (h | ⟨o, h⟩) | ⟨o, its, n, hk, hc, _⟩
    · exact .base (.lst h)
    · exact .base (.frz h)
    · exact .kList hk hc
  | _, _, .tup h _ => by
    rcases h with (h | ⟨o, h⟩) | ⟨o, its, n, hk, hc, _⟩
    · exact .base (.tup h)
    · exact .fTuple h
    · exact .kTuple hk hc
  | _, _, .dct h _ _ => .base (.dK h)
/-- isinstance of data -/
def isD (c : String) (d : PyData) : Bool := kitB (tyN d) c == some true
def kinds : List String := ["NoneType", "bool", "int", "str", "list", "tuple", "dict"]
theorem tyN_mem (d : PyData) : tyN d ∈ kinds := by cases d <;> simp [tyN, kinds]
section
variable {K : PySem.W.Frag} {d : PyData}
theorem isi_str : PySem.W.kitOne K (.type (tyN d)) (.type "str") = some (isD "str" d) := kit_ty ((by decide +kernel : ∀ n ∈ kinds, kitB n "str" = some (kitB n "str" == some true)) _ (tyN_mem d))
theorem isi_int : PySem.W.kitOne K (.type (tyN d)) (.type "int") = some (isD "int" d) := kit_ty ((by decide +kernel : ∀ n ∈ kinds, kitB n "int" = some (kitB n "int" == some true)) _ (tyN_mem d))
theorem isi_bool : PySem.W.kitOne K (.type (tyN d)) (.type "bool") = some (isD "bool" d) := kit_ty ((by decide +kernel : ∀ n ∈ kinds, kitB n "bool" = some (kitB n "bool" == some true)) _ (tyN_mem d))
theorem isi_list : PySem.W.kitOne K (.type (tyN d)) (.type "list") = some (isD "list" d) := kit_ty ((by decide +kernel : ∀ n ∈ kinds, kitB n "list" = some (kitB n "list" == some true)) _ (tyN_mem d))
theorem isi_tuple : PySem.W.kitOne K (.type (tyN d)) (.type "tuple") = some (isD "tuple" d) := kit_ty ((by decide +kernel : ∀ n ∈ kinds, kitB n "tuple" = some (kitB n "tuple" == some true)) _ (tyN_mem d))
theorem isi_dict : PySem.W.kitOne K (.type (tyN d)) (.type "dict") = some (isD "dict" d) := kit_ty ((by decide +kernel : ∀ n ∈ kinds, kitB n "dict" = some (kitB n "dict" == some true)) _ (tyN_mem d))
theorem isi_lt : PySem.W.kitAny K (.type (tyN d)) [.type "list", .type "tuple"] = some (isD "list" d || isD "tuple" d) :=
  kitAny_cons isi_list (fun h1 => kitAny_cons isi_tuple (fun h => by rw [h1, h]; rfl) (fun h => by rw [h, Bool.or_true])) (fun h => by rw [h, Bool.true_or])
theorem isD_str (h : isD "str" d = true) : ∃ z, d = .str z := by
  have e := (by decide +kernel : ∀ n ∈ kinds, (kitB n "str" == some true) = true → n = "str") _ (tyN_mem d) h
  cases d <;> first | exact ⟨_, rfl⟩ | exact absurd e (by simp [tyN])
theorem isD_int (h : isD "int" d = true) : (∃ i, d = .int i) ∨ ∃ b, d = .bool b := by
  have e := (by decide +kernel : ∀ n ∈ kinds, (kitB n "int" == some true) = true → n = "int" ∨ n = "bool") _ (tyN_mem d) h
  cases d <;> first | exact .inl ⟨_, rfl⟩ | exact .inr ⟨_, rfl⟩ | exact absurd e (by simp [tyN])
theorem isD_bool (h : isD "bool" d = true) : ∃ b, d = .bool b := by
  have e := (by decide +kernel : ∀ n ∈ kinds, (kitB n "bool" == some true) = true → n = "bool") _ (tyN_mem d) h
  cases d <;> first | exact ⟨_, rfl⟩ | exact absurd e (by simp [tyN])
theorem isD_list (h : isD "list" d = true) : ∃ l, d = .list l := by
  have e := (by decide +kernel : ∀ n ∈ kinds, (kitB n "list" == some true) = true → n = "list") _ (tyN_mem d) h
  cases d <;> first | exact ⟨_, rfl⟩ | exact absurd e (by simp [tyN])
theorem isD_tuple (h : isD "tuple" d = true) : ∃ l, d = .tuple l := by
  have e := (by decide +kernel : ∀ n ∈ kinds, (kitB n "tuple" == some true) = true → n = "tuple") _ (tyN_mem d) h
  cases d <;> first | exact ⟨_, rfl⟩ | exact absurd e (by simp [tyN])
theorem isD_dict (h : isD "dict" d = true) : ∃ l, d = .dict l := by
  have e := (by decide +kernel : ∀ n ∈ kinds, (kitB n "dict" == some true) = true → n = "dict") _ (tyN_mem d) h
  cases d <;> first | exact ⟨_, rfl⟩ | exact absurd e (by simp [tyN])
theorem isD_strs (z : Str) : isD "str" (.str z) = true := by show (kitB "str" "str" == some true) = true; decide +kernel
theorem isD_lists (l : List PyData) : isD "list" (.list l) = true := by show (kitB "list" "list" == some true) = true; decide +kernel
theorem isD_tuples (l : List PyData) : isD "tuple" (.tuple l) = true := by show (kitB "tuple" "tuple" == some true) = true; decide +kernel
theorem isD_ints (i : Int) : isD "int" (.int i) = true := by show (kitB "int" "int" == some true) = true; decide +kernel
theorem isD_intb (i : Int) : isD "bool" (.int i) = false := by show (kitB "int" "bool" == some true) = false; decide +kernel
theorem isD_bools (i : Bool) : isD "bool" (.bool i) = true := by show (kitB "bool" "bool" == some true) = true; decide +kernel
theorem isD_boolt (i : Bool) : isD "int" (.bool i) = true := by show (kitB "bool" "int" == some true) = true; decide +kernel
end
/-! values of data by their kind -/
section
variable {K : PySem.W.Frag} {H : Hp} {v : V}
theorem Dt.str_inv {z : Str} (h : Dt K H v (.str z)) : v = .str z := by cases h; rfl
theorem Dt.int_inv {i : Int} (h : Dt K H v (.int i)) : v = .int i := by cases h; rfl
theorem Dt.bool_inv {i : Bool} (h : Dt K H v (.bool i)) : v = .bl i := by cases h; rfl
theorem Dt.list_inv {l : List PyData} (h : Dt K H v (.list l)) : ∃ a xs, v = .ref a ∧ SqL K H a xs ∧ DtAll K H xs l := by cases h with | lst a b => exact ⟨_, _, rfl, a, b⟩
theorem Dt.tup_inv {l : List PyData} (h : Dt K H v (.tuple l)) : ∃ a xs, v = .ref a ∧ SqT K H a xs ∧ DtAll K H xs l := by cases h with | tup a b => exact ⟨_, _, rfl, a, b⟩
theorem DtAll.get : ∀ {xs : List V} {ds : List PyData} {i : Nat} {x : V}, DtAll K H xs ds → xs[i]? = some x → ∃ d, ds[i]? = some d ∧ Dt K H x d
  | _, _, 0, _, .cons h _, e => by cases e; exact ⟨_, rfl, h⟩
  | _ :: _, _ :: _, i + 1, _, .cons _ t, e => DtAll.get (i := i) t (by simpa using e)
  | _, _, _, _, .nil, e => by simp at e
theorem DtAll.getD : ∀ {xs : List V} {ds : List PyData} {i : Nat} {d : PyData}, DtAll K H xs ds → ds[i]? = some d → ∃ x, xs[i]? = some x ∧ Dt K H x d
  | _, _, 0, _, .cons h _, e => by cases e; exact ⟨_, rfl, h⟩
  | _ :: _, _ :: _, i + 1, _, .cons _ t, e => DtAll.getD (i := i) t (by simpa using e)
  | _, _, _, _, .nil, e => by simp at e
theorem DtAll.append : ∀ {xs ys : List V} {ds es : List PyData}, DtAll K H xs ds → DtAll K H ys es → DtAll K H (xs ++ ys) (ds ++ es)
  | _, _, _, _, .nil, b => b
  | _, _, _, _, .cons h t, b => .cons h (DtAll.append t b)
theorem DtAll.set : ∀ {xs : List V} {ds : List PyData} {i : Nat} {x : V} {d : PyData}, DtAll K H xs ds → Dt K H x d → DtAll K H (xs.set i x) (ds.set i d)
  | _, _, _, _, _, .nil, _ => .nil
  | _, _, 0, _, _, .cons _ t, h => .cons h t
  | _, _, i + 1, _, _, .cons a t, h => .cons a (DtAll.set t h)
theorem DtAll.of : ∀ {xs : List V} {ds : List PyData}, xs.length = ds.length → (∀ (i : Nat) (x : V) (d : PyData), xs[i]? = some x → ds[i]? = some d → Dt K H x d) → DtAll K H xs ds
  | [], [], _, _ => .nil
  | x :: xs, d :: ds, h, q => .cons (q 0 x d rfl rfl) (DtAll.of (by simpa using h) fun i y e a b => q (i + 1) y e a b)
end
/-! ### sizes: what may be shown -/
structure Shows (d : PyData) : Prop where
  ok : d.showable = true
  deep : d.depth ≤ 40
  size : d.shown.length ≤ sizeLine
def smB (k n : Nat) (d : PyData) : Bool := d.showable && decide (d.depth ≤ k) && d.leavesShort 40 && decide (d.weight ≤ n)
def Sm (k n : Nat) (d : PyData) : Prop := smB k n d = true
theorem Sm.of {k n : Nat} {d : PyData} (a : d.showable = true) (b : d.depth ≤ k) (c : d.leavesShort 40 = true) (e : d.weight ≤ n) : Sm k n d := by
  unfold Sm smB
  rw [a, decide_eq_true b, c, decide_eq_true e]; rfl
theorem Sm.to {k n : Nat} {d : PyData} (h : Sm k n d) : d.showable = true ∧ d.depth ≤ k ∧ d.leavesShort 40 = true ∧ d.weight ≤ n := by
  unfold Sm smB at h
  simp only [Bool.and_eq_true, decide_eq_true_eq] at h
  exact ⟨h.1.1.1, h.1.1.2, h.1.2, h.2⟩
theorem Sm.mono {k n k' n' : Nat} {d : PyData} (h : Sm k n d) (hk : k ≤ k') (hn : n ≤ n') : Sm k' n' d := let ⟨a, b, c, e⟩ := h.to; .of a (by omega) c (by omega)
theorem Sm.shows {k n : Nat} {d : PyData} (h : Sm k n d) (hk : k ≤ 40 := by decide) (hn : n ≤ 300000 := by decide) : Shows d := by
  obtain ⟨a, b, c, e⟩ := h.to
  refine ⟨a, by omega, Nat.le_trans (PyData.shown_le 40 (by decide) d c) ?_⟩
  rw [sizeLine_eq]
  omega
theorem Sm.str {z : Str} {k n : Nat} (hc : ∀ c ∈ z.cps.toList, c < 16 ^ 8) (h : z.length ≤ n) : Sm k n (.str z) := by
  refine .of rfl (Nat.zero_le _) ?_ h
  unfold PyData.leavesShort
  rw [List.all_eq_true]
  exact fun c m => decide_eq_true (hc c m)
section
variable {k n : Nat}
theorem all_show : ∀ {ds : List PyData}, (∀ d ∈ ds, d.showable = true) → PyData.showableAll ds = true
  | [], _ => rfl
  | d :: r, h => by unfold PyData.showableAll; rw [h d (by simp), all_show fun x m => h x (List.mem_cons_of_mem _ m)]; rfl
theorem all_deep : ∀ {ds : List PyData}, (∀ d ∈ ds, d.depth ≤ k) → PyData.depthAll ds ≤ k
  | [], _ => Nat.zero_le _
  | d :: r, h => by
    unfold PyData.depthAll
    have a := h d (by simp)
    have b := all_deep fun x m => h x (List.mem_cons_of_mem d m)
    omega
theorem all_short : ∀ {ds : List PyData}, (∀ d ∈ ds, d.leavesShort 40 = true) → PyData.leavesShortAll 40 ds = true
  | [], _ => rfl
  | d :: r, h => by unfold PyData.leavesShortAll; rw [h d (by simp), all_short fun x m => h x (List.mem_cons_of_mem _ m)]; rfl
theorem all_weight : ∀ {ds : List PyData}, (∀ d ∈ ds, d.weight ≤ n) → PyData.weightAll ds ≤ ds.length * (n + 1)
  | [], _ => Nat.zero_le _
  | d :: r, h => by
    unfold PyData.weightAll
    have a := h d (by simp)
    have b := all_weight fun x m => h x (List.mem_cons_of_mem d m)
    rw [List.length_cons, Nat.succ_mul]
    omega
theorem Sm.list {ds : List PyData} {m : Nat} (h : ∀ d ∈ ds, Sm k n d) (hl : ds.length ≤ m) : Sm (k + 1) (m * (n + 1)) (.list ds) := by
  refine .of (by unfold PyData.showable; exact all_show fun d m => (h d m).to.1) (by unfold PyData.depth; have := all_deep fun d m => (h d m).to.2.1; omega) (by unfold PyData.leavesShort; exact all_short fun d m => (h d m).to.2.2.1) ?_
  unfold PyData.weight
  exact Nat.le_trans (all_weight fun d m => (h d m).to.2.2.2) (Nat.mul_le_mul_right _ hl)
theorem Sm.tuple {ds : List PyData} {m : Nat} (h : ∀ d ∈ ds, Sm k n d) (hl : ds.length ≤ m) : Sm (k + 1) (m * (n + 1)) (.tuple ds) := by
  refine .of (by unfold PyData.showable; exact all_show fun d m => (h d m).to.1) (by unfold PyData.depth; have := all_deep fun d m => (h d m).to.2.1; omega) (by unfold PyData.leavesShort; exact all_short fun d m => (h d m).to.2.2.1) ?_
  unfold PyData.weight
  exact Nat.le_trans (all_weight fun d m => (h d m).to.2.2.2) (Nat.mul_le_mul_right _ hl)
end
/-! small numbers -/
theorem Sm.int {i : Int} {k : Nat} (h0 : -100 ≤ i) (h1 : i ≤ 150) : Sm k 10 (.int i) := by
  have all : ∀ j ∈ (List.range 251).map (fun n : Nat => (n : Int) - 100), smB 0 10 (.int j) = true := by decide +kernel
  have m : i ∈ (List.range 251).map (fun n : Nat => (n : Int) - 100) := List.mem_map.mpr ⟨(i + 100).toNat, List.mem_range.mpr (by omega), by omega⟩
  exact Sm.mono (k := 0) (all i m) (Nat.zero_le _) (Nat.le_refl _)
theorem Sm.bool {b : Bool} {k n : Nat} : Sm k n (.bool b) := .of rfl (Nat.zero_le _) rfl (Nat.zero_le _)
theorem Sm.none {k n : Nat} : Sm k n .none := .of rfl (Nat.zero_le _) rfl (Nat.zero_le _)
end TS

/-! ### 12. walks over lists or tuples; comprehensions whose turns only add to the heap -/
namespace TS
open PySem PySem.Spec PyProof.Rows L2
theorem yes {σ : L2.St} {H : Hp} {C : Bool → Hp → Prop} (h : C true H) : tYes σ H C := h
/-- a list or a tuple -/
def Sq (K : PySem.W.Frag) (H : Hp) (a : Addr) (xs : List V) : Prop := SqL K H a xs ∨ SqT K H a xs
theorem Sq.same {K : PySem.W.Frag} {H H' : Hp} {a : Addr} {xs : List V} (e : Same H H') (h : Sq K H a xs) : Sq K H' a xs := h.imp (fun q => e.seq q) (fun q => SqT.same e q)
theorem Sq.len {K : PySem.W.Frag} {H : Hp} {a : Addr} {xs : List V} (h : Sq K H a xs) : LenV K (.ref a) H xs.length := h.imp (fun q => ⟨xs, q, rfl⟩) (fun q => ⟨xs, q, rfl⟩)
theorem seq_it {K : PySem.W.Frag} {H : Hp} {a : Addr} {xs : List V} {i : Nat} {σ : L2.St} {R : It → Hp → Prop} (hv : σ[i]? = some (some (.ref a))) (h : Sq K H a xs)
    (k : ∀ (J : It) (G : Hp → Prop), Walk J xs.length G (YAt xs) → (∀ H', Same H H' → G H') → R J H) : iList K (tVar i) σ H R ∨ iTup K (tVar i) σ H R := by
  rcases h with h | h
  · exact .inl ⟨_, hv, a, rfl, ⟨xs, h⟩, k _ _ walk_list fun _ e => e.seq h⟩
  · exact .inr ⟨_, hv, a, rfl, ⟨xs, h⟩, k _ _ walk_tup fun _ e => SqT.same e h⟩
theorem seq_it0 {K : PySem.W.Frag} {H0 H : Hp} {a : Addr} {xs : List V} {i : Nat} {σ : L2.St} {R : It → Hp → Prop} (hv : σ[i]? = some (some (.ref a))) (h : Sq K H0 a xs) (s : Same H0 H)
    (k : ∀ (J : It) (G : Hp → Prop), Walk J xs.length G (YAt xs) → (∀ H', Same H0 H' → G H') → R J H) : iList K (tVar i) σ H R ∨ iTup K (tVar i) σ H R := by
  rcases h with h | h
  · exact .inl ⟨_, hv, a, rfl, ⟨xs, s.seq h⟩, k _ _ walk_list fun _ e => e.seq h⟩
  · exact .inr ⟨_, hv, a, rfl, ⟨xs, SqT.same s h⟩, k _ _ walk_tup fun _ e => SqT.same e h⟩
section
variable {J : It} {n : Nat} {G : Hp → Prop} {Y : Nat → Hp → V → Hp → Prop}
theorem scK_it {P : Program} {w : World} (wk : Walk J n G Y) {g : TG} {tt : TT} {te : TE} {vs : List Nat} {σ : L2.St} {H1 : Hp} {D : Addr} {Qd : Hp → Prop} (Pv : Nat → Hp → Prop) (h0 : Pv 0 (upd H1 D (SetK P w D (fun _ => false) 0))) (hG : ∀ i H, i ≤ n → Pv i H → G H)
    (hs : ∀ i x H H', i < n → Pv i H → Y i H x H' → g x (wipe σ vs) H' fun σ2 H2 => wipe σ2 vs = wipe σ vs ∧ tt σ2 H2 fun b H3 =>
      if b = true then te σ2 H3 fun y H4 => ∃ (k : Key) (S : Key → Bool) (m : Nat), y = kV k ∧ H4 D = some (SetK P w D S m) ∧ m + 1 < scanBound ∧ Pv (i + 1) (upd H4 D (SetK P w D (fun j => S j || decide (j = k)) (if S k = true then m else m + 1))) else Pv (i + 1) H3) (hd : ∀ H, Pv n H → Qd H) :
    ∃ W : Nat → Nat → Hp → Prop, (∃ m, W 0 m (upd H1 D (SetK P w D (fun _ => false) 0))) ∧ ∀ i m H, W i m H →
      (J.stop i H ∧ Qd H) ∨ (J.go i H ∧ ∃ Nx : Hp → Prop, (∀ H', Nx H' → ∃ m', m' < m ∧ W (i + 1) m' H') ∧ ∀ x H', J.yld i H x H' → g x (wipe σ vs) H' fun σ2 H2 => wipe σ2 vs = wipe σ vs ∧ tt σ2 H2 fun b H3 =>
        if b = true then te σ2 H3 fun y H4 => ∃ (k : Key) (S : Key → Bool) (m : Nat), y = kV k ∧ H4 D = some (SetK P w D S m) ∧ m + 1 < scanBound ∧ Nx (upd H4 D (SetK P w D (fun j => S j || decide (j = k)) (if S k = true then m else m + 1))) else Nx H3) := by
  refine ⟨fun i m H => m = n - i ∧ i ≤ n ∧ Pv i H, ⟨n, by simp, Nat.zero_le _, h0⟩, ?_⟩
  rintro i m H ⟨rfl, hi, p⟩
  have q := hG i H hi p
  rcases Nat.lt_or_ge i n with hlt | hge
  · exact .inr ⟨wk.goes i H hlt q, Pv (i + 1), fun G' p' => ⟨n - (i + 1), by omega, rfl, hlt, p'⟩, fun x G' y => hs i x H G' hlt p (wk.yields i H x G' hlt q y)⟩
  · obtain rfl : i = n := by omega
    exact .inl ⟨wk.stops H q, hd H p⟩
theorem dc_it (wk : Walk J n G Y) {g : TG} {tt : TT} {tk tv : TE} {vs : List Nat} {σ : L2.St} {H1 : Hp} {D : Addr} {Qd : Hp → Prop} (Pv : Nat → Hp → Prop) (h0 : Pv 0 (upd H1 D (.dK []))) (hG : ∀ i H, i ≤ n → Pv i H → G H)
    (hs : ∀ i x H H', i < n → Pv i H → Y i H x H' → g x (wipe σ vs) H' fun σ2 H2 => wipe σ2 vs = wipe σ vs ∧ tt σ2 H2 fun b H3 =>
      if b = true then tk σ2 H3 fun y H4 => tv σ2 H4 fun z H5 => ∃ kvs k, y = kV k ∧ H5 D = some (.dK kvs) ∧ kvs.length < sizeLine ∧ Pv (i + 1) (upd H5 D (.dK (putK kvs k z))) else Pv (i + 1) H3) (hd : ∀ H, Pv n H → Qd H) :
    ∃ W : Nat → Nat → Hp → Prop, (∃ m, W 0 m (upd H1 D (.dK []))) ∧ ∀ i m H, W i m H →
      (J.stop i H ∧ Qd H) ∨ (J.go i H ∧ ∃ Nx : Hp → Prop, (∀ H', Nx H' → ∃ m', m' < m ∧ W (i + 1) m' H') ∧ ∀ x H', J.yld i H x H' → g x (wipe σ vs) H' fun σ2 H2 => wipe σ2 vs = wipe σ vs ∧ tt σ2 H2 fun b H3 =>
        if b = true then tk σ2 H3 fun y H4 => tv σ2 H4 fun z H5 => ∃ kvs k, y = kV k ∧ H5 D = some (.dK kvs) ∧ kvs.length < sizeLine ∧ Nx (upd H5 D (.dK (putK kvs k z))) else Nx H3) := by
  refine ⟨fun i m H => m = n - i ∧ i ≤ n ∧ Pv i H, ⟨n, by simp, Nat.zero_le _, h0⟩, ?_⟩
  rintro i m H ⟨rfl, hi, p⟩
  have q := hG i H hi p
  rcases Nat.lt_or_ge i n with hlt | hge
  · exact .inr ⟨wk.goes i H hlt q, Pv (i + 1), fun G' p' => ⟨n - (i + 1), by omega, rfl, hlt, p'⟩, fun x G' y => hs i x H G' hlt p (wk.yields i H x G' hlt q y)⟩
  · obtain rfl : i = n := by omega
    exact .inl ⟨wk.stops H q, hd H p⟩
end
/-- a list comprehension without tests, each turn adding to the heap alone: the i-th value is f i -/
theorem lc_same {J : It} {G : Hp → Prop} {xs : List V} (wk : Walk J xs.length G (YAt xs)) {H H1 : Hp} {te : TE} {vs : List Nat} {j : Nat} {σ : L2.St} {D : Addr} {Qd : Hp → Prop} (hG : ∀ H', Same H H' → G H') (hl : xs.length ≤ 100000) (s1 : Same H H1) (hD : H1 D = none) (f : Nat → V)
    (hw : ∀ x, wipe ((wipe σ vs).set j (some x)) vs = wipe σ vs)
    (step : ∀ i x H2 (C : VK), xs[i]? = some x → Same H H2 → (∀ H4, Same H2 H4 → C (f i) H4) → te ((wipe σ vs).set j (some x)) H2 C)
    (fin : ∀ H2, Same H1 H2 → H2 D = some (.lst ((List.range xs.length).map f)) → Qd H2) :
    ∃ W : Nat → Nat → Hp → Prop, (∃ m, W 0 m (upd H1 D (.lst []))) ∧ ∀ i m H, W i m H →
      (J.stop i H ∧ Qd H) ∨ (J.go i H ∧ ∃ Nx : Hp → Prop, (∀ H', Nx H' → ∃ m', m' < m ∧ W (i + 1) m' H') ∧ ∀ x H', J.yld i H x H' → gName j x (wipe σ vs) H' fun σ2 H2 => wipe σ2 vs = wipe σ vs ∧ tYes σ2 H2 fun b H3 =>
        if b = true then te σ2 H3 fun y H4 => ∃ acc, H4 D = some (.lst acc) ∧ acc.length < sizeLine ∧ Nx (upd H4 D (.lst (acc ++ [y]))) else Nx H3) := by
  refine lc_it wk (fun i G' => Same H1 G' ∧ G' D = some (.lst ((List.range i).map f))) ⟨Same.new (Same.refl _) hD, upd_same ..⟩ (fun i G' _ p => hG G' (s1.trans p.1)) ?_ (fun G' p => fin G' p.1 p.2)
  rintro i x H2 H3 hi ⟨p1, p2⟩ ⟨rfl, hx⟩
  refine ⟨hw x, ?_⟩
  unfold tYes
  dsimp only
  rw [if_pos rfl]
  refine step i x _ _ hx (s1.trans p1) fun H4 s4 => ⟨_, s4 _ _ p2, ?_, ?_, ?_⟩
  · rw [List.length_map, List.length_range]
    exact Nat.lt_of_lt_of_le hi (Nat.le_trans hl (by decide))
  · intro a o e
    rw [upd_ne (ne_of_none e hD)]
    exact s4 _ _ (p1 _ _ e)
  · rw [upd_same, List.range_succ, List.map_append]
    rfl
theorem pg_tupK {X : Cx} {K : PySem.W.Frag} {es : List Expr} {k : Nat} {t : TGs} {n : Nat} {pos : Pos} (hK : X.K = K) (hc : X.calm = true) (h : PGs X es t)
    (hn : (assignEach es X.env).length = n := by rfl) (hst : (assignEach es X.env).findIdx? (·.1) = none := by rfl) : PG X (.Tuple es k pos) (gTup K n t) := by subst hK; exact pg_tup hc h hn hst
/-- enumerate over a list or a tuple -/
theorem enum_it {K : PySem.W.Frag} {H : Hp} {a : Addr} {xs : List V} {i : Nat} {σ : L2.St} {R : It → Hp → Prop} (hv : σ[i]? = some (some (.ref a))) (h : Sq K H a xs)
    (k : ∀ (J : It) (G : Hp → Prop), Walk J xs.length G (YPair (fun i => some (.int (i : Nat))) (fun i => xs[i]?)) → (∀ H', Same H H' → G H') → R J H) : iEnum K (tCons (tVar i) tNil) σ H R ∨ iEnumT K (tCons (tVar i) tNil) σ H R := by
  rcases h with h | h
  · exact .inl ⟨_, hv, a, xs, rfl, h, k _ _ walk_enum fun _ e => e.seq h⟩
  · exact .inr ⟨_, hv, a, xs, rfl, h, k _ _ walk_enumT fun _ e => SqT.same e h⟩
end TS

/-! ### 13. draws: what a def of a bag gives back; comprehensions and loops that draw -/
namespace TS
open PySem PySem.Spec PyProof.Rows L2
theorem atI_in {α : Type} {xs : List α} {i : Int} (h0 : 0 ≤ i) (h1 : i < xs.length) : ∃ v, atI xs i = some v ∧ v ∈ xs := by
  have hj : i.toNat < xs.length := by omega
  refine ⟨xs[i.toNat], ?_, List.getElem_mem _⟩
  have e : ((i.toNat : Nat) : Int) = i := by omega
  have h := atI_nat (xs := xs) (List.getElem?_eq_getElem hj)
  rw [e] at h
  exact h
/-- the bag b drawn of (n draws left at least), all else as it was -/
structure Dr (b : Addr) (n : Nat) (H H' : Hp) : Prop where
  fx : Fx b H H'
  bag : ∃ o, H' b = some o ∧ Bag n o
theorem Dr.trans {b : Addr} {m n : Nat} {H H1 H2 : Hp} (x : Dr b m H H1) (y : Dr b n H1 H2) : Dr b n H H2 := ⟨x.fx.trans y.fx, y.bag⟩
theorem Dr.refl {b : Addr} {n : Nat} {H : Hp} (h : ∃ o, H b = some o ∧ Bag n o) : Dr b n H H := ⟨Fx.refl b H, h⟩
theorem Dr.mono {b : Addr} {m n : Nat} {H H' : Hp} (x : Dr b m H H') (h : n ≤ m) : Dr b n H H' := ⟨x.fx, let ⟨o, e, g⟩ := x.bag; ⟨o, e, g.mono h⟩⟩
theorem Dr.same {b : Addr} {n : Nat} {H H' : Hp} (e : Same H H') (h : ∃ o, H b = some o ∧ Bag n o) : Dr b n H H' := ⟨Fx.of e, let ⟨o, q, g⟩ := h; ⟨o, e _ _ q, g⟩⟩
theorem Dr.draw {b : Addr} {n : Nat} {H : Hp} {o : HO} (g : Bag n o) : Dr b n H (upd H b o) := ⟨(Fx.refl b H).upd, o, upd_same .., g⟩
theorem Dr.new {b p : Addr} {n : Nat} {H H' : Hp} {o : HO} (x : Dr b n H H') (h : H' p = none) : Dr b n H (upd H' p o) := x.trans (.same (Same.new (Same.refl _) h) x.bag)
theorem Dr.ne {b p : Addr} {n : Nat} {H H' : Hp} (x : Dr b n H H') (h : H' p = none) : p ≠ b := fun e => by
  obtain ⟨o, q, _⟩ := x.bag
  rw [e, q] at h
  cases h
theorem Dr.at {b a : Addr} {n : Nat} {H H' : Hp} {o : HO} (x : Dr b n H H') (h : a ≠ b) (e : H a = some o) : H' a = some o := x.fx a o h e
theorem Dr.hide {b : Addr} {n : Nat} {H H' : Hp} (x : Dr b n H H') : Same (hide H b) (hide H' b) := x.fx.hide
theorem Dr.free {b p : Addr} {n : Nat} {H H' : Hp} (x : Dr b n H H') (h : H' p = none) : H p = none := by
  cases e : H p with
  | none => rfl
  | some o =>
    have := x.fx p o (x.ne h) e
    rw [h] at this
    cases this
/-- a draw, by spTake -/
theorem take_of {b : Addr} {n : Nat} {H : Hp} {many : Int} {Q : VK} {E : XK} (h : ∃ o, H b = some o ∧ Bag (n + 1) o) (m0 : 0 < many) (m1 : many < 2 ^ 200) (q : ∀ (d : Int) (H' : Hp), 0 ≤ d → d < many → Dr b n H H' → Q (.int d) H') : spTake [.ref b, .int many] H Q E := by
  obtain ⟨o, e, g⟩ := h
  exact ⟨b, o, n, many, rfl, e, g, m0, m1, fun d o' h0 h1 g' => q d _ h0 h1 (.draw g')⟩
/-- the heap without the bag and the list that is being made -/
abbrev hide2 (H : Hp) (b D : Addr) : Hp := hide (hide H b) D
theorem hide2_at {H : Hp} {b D p : Addr} {o : HO} (h1 : p ≠ b) (h2 : p ≠ D) (e : H p = some o) : hide2 H b D p = some o := by show hide (hide H b) D p = some o; rw [hide_ne h2, hide_ne h1]; exact e
theorem hide2_fx {H H' : Hp} {b D : Addr} (h : ∀ a o, a ≠ b → a ≠ D → H a = some o → H' a = some o) : Same (hide2 H b D) (hide2 H' b D) := fun a o e => by
  show hide (hide H' b) D a = some o
  replace e : hide (hide H b) D a = some o := e
  have h2 : a ≠ D := fun z => by rw [z, hide_self] at e; cases e
  rw [hide_ne h2] at e ⊢
  have h1 : a ≠ b := fun z => by rw [z, hide_self] at e; cases e
  rw [hide_ne h1] at e ⊢
  exact h a o h1 h2 e
/-- a comprehension without tests, each turn drawing at most k times -/
theorem lc_draw {J : It} {m : Nat} {G : Hp → Prop} {f : Nat → V} (wk : Walk J m G (YFn f)) {b : Addr} {k N : Nat} {H1 : Hp} {te : TE} {vs : List Nat} {j : Nat} {σ : L2.St} {D : Addr} {Qd : Hp → Prop} (F : Nat → Hp → V → Prop)
    (hF : ∀ i H H' v, Same H H' → F i H v → F i H' v) (hG : ∀ H', Fx b H1 H' → G H') (hm : m ≤ 100000) (hD : H1 D = none) (hb : ∃ o, H1 b = some o ∧ Bag (N + k * m) o) (hw : ∀ x, wipe ((wipe σ vs).set j (some x)) vs = wipe σ vs)
    (step : ∀ (i n : Nat) (H2 : Hp) (C : VK), i < m → Fx b H1 H2 → (∃ o, H2 b = some o ∧ Bag (n + k) o) → (∃ o, H2 D = some o) → (∀ v H4, F i (hide2 H4 b D) v → Dr b n H2 H4 → C v H4) → te ((wipe σ vs).set j (some (f i))) H2 C)
    (fin : ∀ H2 (xs : List V), Dr b N H1 H2 → xs.length = m → (∀ (i : Nat) (v : V), xs[i]? = some v → F i (hide2 H2 b D) v) → H2 D = some (.lst xs) → D ≠ b → Qd H2) :
    ∃ W : Nat → Nat → Hp → Prop, (∃ m, W 0 m (upd H1 D (.lst []))) ∧ ∀ i m H, W i m H →
      (J.stop i H ∧ Qd H) ∨ (J.go i H ∧ ∃ Nx : Hp → Prop, (∀ H', Nx H' → ∃ m', m' < m ∧ W (i + 1) m' H') ∧ ∀ x H', J.yld i H x H' → gName j x (wipe σ vs) H' fun σ2 H2 => wipe σ2 vs = wipe σ vs ∧ tYes σ2 H2 fun b H3 =>
        if b = true then te σ2 H3 fun y H4 => ∃ acc, H4 D = some (.lst acc) ∧ acc.length < sizeLine ∧ Nx (upd H4 D (.lst (acc ++ [y]))) else Nx H3) := by
  have neD : D ≠ b := fun e => by
    obtain ⟨o, q, _⟩ := hb
    rw [e, q] at hD
    cases hD
  refine lc_it wk (fun i G' => Dr b (N + k * (m - i)) H1 G' ∧ ∃ xs : List V, xs.length = i ∧ (∀ (i : Nat) (v : V), xs[i]? = some v → F i (hide2 G' b D) v) ∧ G' D = some (.lst xs)) ⟨.same (Same.new (Same.refl _) hD) hb, [], rfl, fun i v e => by simp at e, upd_same ..⟩ (fun i G' _ p => hG G' p.1.fx) ?_ ?_
  · rintro i x H2 H3 hi ⟨dr, xs, hl, hx, eD⟩ ⟨rfl, rfl⟩
    refine ⟨hw _, yes (iteT ?_)⟩
    have ek : N + k * (m - (i + 1)) + k = N + k * (m - i) := by
      have : m - i = m - (i + 1) + 1 := by omega
      rw [this, Nat.mul_add, Nat.mul_one, Nat.add_assoc]
    refine step i (N + k * (m - (i + 1))) _ _ hi dr.fx (by rw [ek]; exact dr.bag) ⟨_, eD⟩ fun v H4 hv d4 => ⟨xs, d4.at neD eD, by rw [hl]; exact Nat.lt_of_lt_of_le hi (Nat.le_trans hm (by decide)), ⟨fun a o ha e => ?_, ?_⟩, xs ++ [v], by simp [hl], fun i2 v2 e2 => ?_, upd_same ..⟩
    · rw [upd_ne (ne_of_none e hD)]
      exact (dr.trans d4).fx a o ha e
    · obtain ⟨o, q, g⟩ := d4.bag
      exact ⟨o, by rw [upd_ne neD.symm]; exact q, g⟩
    · have s5 : Same (hide2 H4 b D) (hide2 (upd H4 D (.lst (xs ++ [v]))) b D) := hide2_fx fun a o _ h e => by rw [upd_ne h]; exact e
      rcases Nat.lt_or_ge i2 i with z | z
      · rw [List.getElem?_append_left (by omega)] at e2
        exact hF _ _ _ _ ((hide2_fx fun a o h _ e => d4.fx a o h e).trans s5) (hx i2 v2 e2)
      · rw [List.getElem?_append_right (by omega)] at e2
        have e3 : i2 = i := by
          rcases Nat.lt_or_ge i i2 with y | y
          · rw [List.getElem?_eq_none (by simp; omega)] at e2
            cases e2
          · omega
        rw [e3, hl, Nat.sub_self] at e2
        cases e2
        rw [e3]
        exact hF _ _ _ _ s5 hv
  · rintro G' ⟨dr, xs, hl, hx, eD⟩
    exact fin G' xs (by rw [Nat.sub_self] at dr; exact dr) hl hx eD neD
/-- a comprehension without tests that only adds to the heap, by any walk -/
theorem lc_sameF {J : It} {n : Nat} {G : Hp → Prop} {g : Nat → V} (wk : Walk J n G (YFn g)) {H : Hp} {te : TE} {vs : List Nat} {j : Nat} {σ : L2.St} {D : Addr} {Qd : Hp → Prop} (hG : ∀ H', Same H H' → G H') (hl : n ≤ 100000) (hD : H D = none) (f : Nat → V)
    (hw : ∀ x, wipe ((wipe σ vs).set j (some x)) vs = wipe σ vs)
    (step : ∀ i H2 (C : VK), i < n → Same H H2 → (∀ H4, Same H2 H4 → C (f i) H4) → te ((wipe σ vs).set j (some (g i))) H2 C)
    (fin : ∀ H2, Same H H2 → H2 D = some (.lst ((List.range n).map f)) → Qd H2) :
    ∃ W : Nat → Nat → Hp → Prop, (∃ m, W 0 m (upd H D (.lst []))) ∧ ∀ i m H, W i m H →
      (J.stop i H ∧ Qd H) ∨ (J.go i H ∧ ∃ Nx : Hp → Prop, (∀ H', Nx H' → ∃ m', m' < m ∧ W (i + 1) m' H') ∧ ∀ x H', J.yld i H x H' → gName j x (wipe σ vs) H' fun σ2 H2 => wipe σ2 vs = wipe σ vs ∧ tYes σ2 H2 fun b H3 =>
        if b = true then te σ2 H3 fun y H4 => ∃ acc, H4 D = some (.lst acc) ∧ acc.length < sizeLine ∧ Nx (upd H4 D (.lst (acc ++ [y]))) else Nx H3) := by
  refine lc_it wk (fun i G' => Same H G' ∧ G' D = some (.lst ((List.range i).map f))) ⟨Same.new (Same.refl _) hD, upd_same ..⟩ (fun i G' _ p => hG G' p.1) ?_ (fun G' p => fin G' p.1 p.2)
  rintro i x H2 H3 hi ⟨p1, p2⟩ ⟨rfl, rfl⟩
  refine ⟨hw _, yes (iteT (step i _ _ hi p1 fun H4 s4 => ⟨_, s4 _ _ p2, ?_, ?_, ?_⟩))⟩
  · rw [List.length_map, List.length_range]
    exact Nat.lt_of_lt_of_le hi (Nat.le_trans hl (by decide))
  · intro a o e
    rw [upd_ne (ne_of_none e hD)]
    exact s4 _ _ (p1 _ _ e)
  · rw [upd_same, List.range_succ, List.map_append]
    rfl
theorem walk_at {J : It} {n : Nat} {G : Hp → Prop} {xs : List V} (w : Walk J n G (YAt xs)) : Walk J n G (YFn fun i => xs.getD i .non) :=
  w.mono (fun _ h => h) fun i H x H' _ _ y => ⟨y.1, by show x = xs.getD i .non; rw [List.getD_eq_getElem?_getD, y.2]; rfl⟩
theorem same_of {H G : Hp} {p : Addr} {o : HO} (h : L2.upd H p o = G) (hp : H p = none) : Same H G := h ▸ Same.new (Same.refl _) hp
theorem at_of {H G : Hp} {p : Addr} {o : HO} (h : L2.upd H p o = G) : G p = some o := h ▸ upd_same ..
theorem dr_of {H G : Hp} {b : Addr} {n : Nat} {o : HO} (h : L2.upd H b o = G) (g : Bag n o) : Dr b n H G := h ▸ Dr.draw g
/-- list == [] -/
def rEqNil (K : PySem.W.Frag) : R2 := fun x y H Q => ∃ a p xs, x = .ref a ∧ y = .ref p ∧ SqL K H a xs ∧ SqL K H p [] ∧ Q (.bl xs.isEmpty) H
theorem op_eqNil {X : Cx} {K : PySem.W.Frag} (hu : X.A.units + 64 < cLine) (hK : X.K = K := by rfl) : OpR X (compareOp .Eq) (rEqNil K) := by
  subst hK
  intro pins s σ H x y v u Q J rx ry h
  obtain ⟨a, p, xs, rfl, rfl, ha, hp, q⟩ := h
  cases rx
  cases ry
  obtain ⟨its, rv, l1, _⟩ := J.list ha
  obtain ⟨its2, rv2, l2, _⟩ := J.list hp
  cases rv2
  have hl := rv.length
  cases xs with
  | nil =>
    cases rv
    exact SeqAt.eq_listAt (e := fun _ => true) l1.isList l2.isList rfl (by omega) (fun i h => by simp at h) ⟨.bl true, H, J.kept fun _ _ z => z, rfl, q⟩
  | cons x r =>
    exact SeqAt.eq_list_lengthsAt l1.isList l2.isList (by simp; intro z; rw [z] at hl; simp at hl) (by omega) ⟨.bl false, H, J.kept fun _ _ z => z, rfl, q⟩
end TS

/-! ### what the head tells of classes -/
namespace TS
open PySem PySem.Spec PyProof.Rows L2
/-- a method's datum -/
def methD (C m q : Str) (st : Stmt) : He.DefD := ⟨(C, some m), m, q, defArgs st, defBody st, defScope st, [], []⟩
theorem meth_of {K : PySem.W.Frag} {fn : List He.DefD} (c1 : fn.all (fun d => d.ok K) = true) (c2 : fn.map (fun d => He.fnW K d.at_) = fn.map He.DefD.val)
    {C m q : Str} {st : Stmt} (i : Nat) (hi : fn[i]? = some (methD C m q st)) : DefM K (He.ma K (He.ga K C) m) m q st := by
  have e1 : He.fnW K (methD C m q st).at_ = (methD C m q st).val := by
    have h1 := congrArg (·[i]?) c2
    simp only [List.getElem?_map, hi, Option.map_some] at h1
    exact Option.some.inj h1
  obtain ⟨fd, F⟩ := He.DefD.funD e1 (List.all_eq_true.mp c1 _ (List.mem_of_getElem? hi))
  exact ⟨fd, F⟩
def famB (K : PySem.W.Frag) (x : Str) : Bool := (PySem.W.readsIn K (He.ga K x) (.type "type") && He.eqO (PySem.W.specialIn K (.ref (He.ga K x)) "__getattribute__") (some (some (.builtin "type.__getattribute__")))) &&
  (match PySem.W.findCls K (.ref (He.ga K x)) (.type "type") "__init__" with
    | some (.val (.builtin s)) => decide (s = "ValueError.__init__")
    | _ => false)
theorem famB_ok {K : PySem.W.Frag} {x : Str} (h : famB K x = true) : FamV K (He.ga K x) := by
  obtain ⟨h1, h2⟩ := He.ba h
  obtain ⟨h3, h4⟩ := He.ba h1
  refine ⟨⟨h3, He.eqO_ok h4⟩, ?_⟩
  split at h2
  · rename_i s e
    rw [e, of_decide_eq_true h2]
  · cases h2
def oexB (K : PySem.W.Frag) (C : Addr) : Bool := match K.lookup C with
  | some ⟨c, dd, .cls cd, sl⟩ => (match cd.mro, sl.toList with
    | .ref C' :: bm, [k0, k1, k2, k3, some (.builtin n), k5] => decide (c = .type "type") && (decide (C' = C) && (decide (n = "ValueError.__new__") && (cd.hasDict && (!cd.hasDel && PySem.HandSPX.refsVE bm))))
    | _, _ => false)
  | _ => false
theorem oexB_ok {K : PySem.W.Frag} {C : Addr} (h : oexB K C = true) : ∃ nm q N bs bm sn sub ab col dd k0 k1 k2 k3 k5, K.lookup C = some (excClassObj nm q C N bs bm true sn sub ab col dd k0 k1 k2 k3 k5 "ValueError.__new__") ∧ PySem.HandSPX.refsVE bm = true := by
  unfold oexB at h
  split at h
  · rename_i c dd cd sl ho
    split at h
    · rename_i C' bm k0 k1 k2 k3 n k5 hm hs
      obtain ⟨a1, h⟩ := He.ba h
      obtain ⟨a2, h⟩ := He.ba h
      obtain ⟨a3, h⟩ := He.ba h
      obtain ⟨a4, h⟩ := He.ba h
      obtain ⟨a5, a6⟩ := He.ba h
      have a1 := of_decide_eq_true a1
      have a2 := of_decide_eq_true a2
      have a3 := of_decide_eq_true a3
      obtain ⟨nm, bs, mro, ns, qn, hd, sn, sb, ab, col, del⟩ := cd
      dsimp only at hm a4 a5
      have a5 : del = false := by simpa using a5
      subst a1 a2 a3 hm a4 a5
      have hsl : sl = #[k0, k1, k2, k3, some (.builtin "ValueError.__new__"), k5] := by
        obtain ⟨l⟩ := sl
        simp only at hs
        rw [hs]
      subst hsl
      exact ⟨nm, qn, ns, bs, bm, sn, sb, ab, col, dd, k0, k1, k2, k3, k5, ho, a6⟩
    · cases h
  · cases h
def ownB (K : PySem.W.Frag) (x f : Str) : Bool := (oexB K (He.ga K x) && (He.eqO (PySem.W.findIn K (.ref (He.ga K x)) "__setattr__") (some (some (.builtin "object.__setattr__"))) && (decide (PySem.W.subIn K (.ref (He.ga K x)) (.type "BaseException") = some true) &&
  (decide (PySem.W.typeIn K (.ref (He.ga K x)) = some (.type "type")) && PySem.W.keepIn K (.ref (He.ga K x)))))) && ((xfB K (He.ga K x) && He.eqO (PySem.W.findIn K (.ref (He.ga K x)) "__init__") (some (some (.ref (He.ma K (He.ga K x) "__init__"))))) &&
  (decide (PySem.W.typeIn K (.ref (He.ma K (He.ga K x) "__init__")) = some (.type "function")) && He.eqO (PySem.W.findIn K (.ref (He.ga K x)) f) (some none)))
theorem ownB_ok {K : PySem.W.Frag} {x f : Str} (h : ownB K x f = true) : OwnV K (He.ga K x) f := by
  obtain ⟨h1, h⟩ := He.ba h
  obtain ⟨a1, h1⟩ := He.ba h1
  obtain ⟨a2, h1⟩ := He.ba h1
  obtain ⟨a3, h1⟩ := He.ba h1
  obtain ⟨a4, a5⟩ := He.ba h1
  obtain ⟨h2, h⟩ := He.ba h
  obtain ⟨b1, b2⟩ := He.ba h2
  obtain ⟨b3, b4⟩ := He.ba h
  exact ⟨⟨oexB_ok a1, He.eqO_ok a2, of_decide_eq_true a3, of_decide_eq_true a4, a5⟩, xfB_ok b1, He.eqO_ok b2, of_decide_eq_true b3, He.eqO_ok b4⟩
end TS

namespace TS
open PySem PySem.Spec PyProof.Rows L2 TL
def top (i : Nat) : Stmt := PySem.Challenge.pw_termshelf_k06_words_refused.main.body.getD i (.Pass ⟨0, 0, 0, 0⟩)

/-! ### marks: whole numbers, names -/
def wholeD (lo hi : Int) : PyData → Bool
  | .int i => decide (lo ≤ i) && decide (i ≤ hi)
  | _ => false
def smallS (z : Str) : Bool := z.cps.toList.all fun c => decide (97 ≤ c) && decide (c ≤ 122)
def nameS (z : Str) : Bool := decide (1 ≤ z.length) && decide (z.length ≤ 8) && smallS z
def nameD : PyData → Bool
  | .str z => nameS z
  | _ => false
def SMALLs : Str := "abcdefghijklmnopqrstuvwxyz"
theorem in_small (c : Nat) : decide (c ∈ SMALLs.cps.toList) = (decide (97 ≤ c) && decide (c ≤ 122)) := by
  have e : SMALLs.cps.toList = (List.range 26).map (· + 97) := by decide +kernel
  rw [e]
  by_cases h : 97 ≤ c ∧ c ≤ 122
  · rw [decide_eq_true h.1, decide_eq_true h.2]
    exact decide_eq_true (List.mem_map.mpr ⟨c - 97, List.mem_range.mpr (by omega), by omega⟩)
  · have n : c ∉ (List.range 26).map (· + 97) := fun m => by
      obtain ⟨k, hk, rfl⟩ := List.mem_map.mp m
      have := List.mem_range.mp hk
      omega
    rw [decide_eq_false n]
    by_cases h1 : 97 ≤ c
    · rw [decide_eq_true h1, decide_eq_false (fun h2 => h ⟨h1, h2⟩)]; rfl
    · rw [decide_eq_false h1]; rfl
theorem sz5' {n : Nat} (h : n ≤ 100000) : n < sizeLine := Nat.lt_of_le_of_lt h (by decide)
theorem sz5 {n : Nat} (h : n ≤ 100000) : n ≤ sizeLine := Nat.le_trans h (by decide)
theorem take_map {α β : Type} (f : α → β) {l : List α} {i : Nat} {c : α} (h : l[i]? = some c) : (l.take (i + 1)).map f = (l.take i).map f ++ [f c] := by
  rw [List.take_add_one, h, List.map_append]
  rfl
/-- a comprehension over a text's signs, one value a sign -/
theorem lc_signs {z : Str} {g : TG} {te : TE} {vs : List Nat} {σ : L2.St} {H1 : Hp} {D : Addr} {Qd : Hp → Prop} (f : Nat → V) (hz : z.length ≤ 100000) (hs : ∀ c H' (C : VK), C (f c) H' → g (.str ⟨#[c]⟩) (wipe σ vs) H' fun σ2 H2 => wipe σ2 vs = wipe σ vs ∧ te σ2 H2 C)
    (hd : Qd (L2.upd H1 D (.lst ((tl z).map f)))) (hg : ∀ x σ H C C', (∀ s h, C s h → C' s h) → g x σ H C → g x σ H C') :
    ∃ W : Nat → Nat → Hp → Prop, (∃ m, W 0 m (L2.upd H1 D (.lst []))) ∧ ∀ i m H, W i m H →
      ((Its z).stop i H ∧ Qd H) ∨ ((Its z).go i H ∧ ∃ Nx : Hp → Prop, (∀ H', Nx H' → ∃ m', m' < m ∧ W (i + 1) m' H') ∧ ∀ x H', (Its z).yld i H x H' → g x (wipe σ vs) H' fun σ2 H2 => wipe σ2 vs = wipe σ vs ∧ tYes σ2 H2 fun b H3 =>
        if b = true then te σ2 H3 fun y H4 => ∃ acc, H4 D = some (.lst acc) ∧ acc.length < sizeLine ∧ Nx (L2.upd H4 D (.lst (acc ++ [y]))) else Nx H3) := by
  refine lc_it walk_str (fun i H' => H' = L2.upd H1 D (.lst (((tl z).take i).map f))) rfl (fun _ _ _ _ => trivial) ?_ ?_
  · rintro i x H2 H3 hi rfl ⟨rfl, c, hc, rfl⟩
    have hc' : (tl z)[i]? = some c := by rw [← hc]; simp [tl]
    refine hg _ _ _ _ _ (fun s h q => ⟨q.1, by
      unfold tYes
      dsimp only
      rw [if_pos rfl]
      exact q.2⟩) (hs c _ (fun y H4 => ∃ acc, H4 D = some (.lst acc) ∧ acc.length < sizeLine ∧ L2.upd H4 D (.lst (acc ++ [y])) = L2.upd H1 D (.lst (((tl z).take (i + 1)).map f))) ⟨_, upd_same, ?_, ?_⟩)
    · refine sz5' ?_
      rw [len_tl] at hz
      rw [List.length_map, List.length_take]
      omega
    · rw [upd_upd, take_map f hc']
  · rintro H2 rfl
    have e : (tl z).take z.cps.size = tl z := List.take_of_length_le (by simp [tl])
    rw [e]
    exact hd
theorem gName_mono {i : Nat} (x : V) (σ : L2.St) (H : Hp) (C C' : L2.St → Hp → Prop) (h : ∀ s h, C s h → C' s h) (q : gName i x σ H C) : gName i x σ H C' := h _ _ q
def spWhole (K : PySem.W.Frag) : Sp := fun vs H Q _ => ∃ (x : V) (d : PyData) (lo hi : Int), vs = [x, .int lo, .int hi] ∧ Dt K H x d ∧ Q (.bl (wholeD lo hi d)) H
def spName (K : PySem.W.Frag) : Sp := fun vs H Q _ => ∃ (x : V) (d : PyData), vs = [x] ∧ Dt K H x d ∧ (∀ z, d = .str z → z.length ≤ 100000) ∧ ∀ H', Same H H' → Q (.bl (nameD d)) H'
section
variable {P : Program} {w : World} {K : PySem.W.Frag} {mg : Str → Option Value} {base : Heap}
abbrev s_is_whole : Stmt := top 9
theorem sc_is_whole : FnScope ["thing", "low", "high"] ["thing", "low", "high"] (defScope s_is_whole) := ⟨rfl, rfl, rfl, by decide +kernel, rfl, by decide +kernel, by decide +kernel⟩

theorem ok_is_whole (bt : Bt mg) (D : Def K mg "is_whole" s_is_whole) : Prom P w K mg base 1 "is_whole" ["thing", "low", "high"] (spWhole K) := by
  refine prom_mk D sc_is_whole (fun vs H Q E h => ?_) (fun _ _ _ _ _ _ us hl => match us, hl with | [_, _, _], _ => rfl) (fun f cdv A outer s H vs Q E hr h => ?_)
  · obtain ⟨x, d, lo, hi, rfl, _⟩ := h
    rfl
  · obtain ⟨x, d, lo, hi, rfl, hd, q⟩ := h
    refine ⟨_, (pss_one (ps_ret (pe_and (pe_callB (id := "isinstance") (isiK (K := K)) (by rfl) bt.isinstance_ (by decide +kernel) (pa_cons (pv 0) (pa_cons (pe_bltn (v := .ty "int") rfl bt.int_ (by decide +kernel) rfl) pa_nil))) (pe_and (pe_not (pe_callB (id := "isinstance") (isiK (K := K)) (by rfl) bt.isinstance_ (by decide +kernel) (pa_cons (pv 0) (pa_cons (pe_bltn (v := .ty "bool") rfl bt.bool_ (by decide +kernel) rfl) pa_nil)))) (pe_one (pe_chain op_le op_le (pv 1) (pv 0) (pv 2))))))), ?_⟩
    refine ⟨_, rfl, _, _, _, _, isD "int" d, rfl, .ty "int", hd.ty, isi_int, _, rfl, ite2 (fun c => ?_) (fun c => ?_)⟩
    · refine ⟨_, rfl, _, _, _, _, isD "bool" d, rfl, .ty "bool", hd.ty, isi_bool, _, rfl, _, rfl, ?_⟩
      rcases isD_int c with ⟨i, rfl⟩ | ⟨b, rfl⟩
      · cases hd
        rw [isD_intb]
        refine iteT ⟨_, rfl, _, rfl, _, _, rfl, rfl, _, rfl, ?_⟩
        replace q : Q (.bl (decide (lo ≤ i) && decide (i ≤ hi))) H := q
        by_cases h1 : lo ≤ i
        · rw [decide_eq_true h1] at q ⊢
          exact iteT ⟨_, rfl, _, _, rfl, rfl, q⟩
        · rw [decide_eq_false h1] at q ⊢
          exact iteF q
      · rw [isD_bools]
        exact iteF q
    · have e : wholeD lo hi d = false := by
        cases d <;> first | rfl | exact absurd (isD_ints _) c
      rw [e] at q
      exact q
abbrev s_is_name : Stmt := top 10
theorem sc_is_name : FnScope ["thing", "sign"] ["thing"] (defScope s_is_name) := ⟨rfl, rfl, rfl, by decide +kernel, rfl, by decide +kernel, by decide +kernel⟩

theorem ok_is_name (bt : Bt mg) (k_MOST_SIGNS : ∃ t, mg "MOST_SIGNS" = some (.int 8 t)) (k_SMALL : ∃ t, mg "SMALL" = some (.str "abcdefghijklmnopqrstuvwxyz" t)) (D : Def K mg "is_name" s_is_name) : Prom P w K mg base 1 "is_name" ["thing"] (spName K) := by
  obtain ⟨t_MOST_SIGNS, c_MOST_SIGNS⟩ := k_MOST_SIGNS
  obtain ⟨t_SMALL, c_SMALL⟩ := k_SMALL
  refine prom_mk D sc_is_name (fun vs H Q E h => ?_) (fun _ _ _ _ _ _ us hl => match us, hl with | [_], _ => rfl) (fun f cdv A outer s H vs Q E hr h => ?_)
  · obtain ⟨x, d, rfl, _⟩ := h
    rfl
  · obtain ⟨x, d, rfl, hd, hz, q⟩ := h
    refine ⟨_, (pss_cons (ps_if (PW.pt (pw_or (pt_not (pt_val (pe_callB (id := "isinstance") (isiK (K := K)) (by rfl) bt.isinstance_ (by decide +kernel) (pa_cons (pv 0) (pa_cons (pe_bltn (v := .ty "str") rfl bt.str_ (by decide +kernel) rfl) pa_nil))))) (pw_or1 (pt_not (pt_chain op_le op_le pe_int (pe_callB (id := "len") (lenK (K := K)) (by rfl) bt.len_ (by decide +kernel) (pa_cons (pv 0) pa_nil)) (pe_glob (v := .int 8) rfl c_MOST_SIGNS ⟨_, rfl⟩)))))) (pss_one (ps_ret pe_bl)) pss_nil)
      (pss_one (ps_ret (pe_callB (id := "all") (allK (K := K) rfl) (by rfl) bt.all_ (by decide +kernel) (pa_cons (pe_lc (own := [("sign", 1)]) (g := gName 1) rfl sc_is_name.nd (pi_str (pv 0)) (blkOk_by (N := ["thing", "sign"]) (sc := defScope s_is_name) (by decide +kernel)) (fun _ _ _ _ _ => (pg_name (i := 1) sc_is_name.nd rfl (Or.inl rfl))) (fun _ _ _ _ _ => pts_nil) (fun _ _ _ _ _ => (pe_cmpR op_in_sign (pv 1) (pe_glob (v := .str "abcdefghijklmnopqrstuvwxyz") rfl c_SMALL ⟨_, rfl⟩) rfl))) pa_nil))))), ?_⟩
    refine ⟨_, rfl, _, _, _, _, isD "str" d, rfl, .ty "str", hd.ty, isi_str, _, rfl, ?_⟩
    cases c : isD "str" d with
    | false =>
      have e : nameD d = false := by
        cases d <;> first | rfl | (rw [isD_strs] at c; cases c)
      rw [e] at q
      exact iteT (iteT (q _ (Same.refl _)))
    | true =>
      obtain ⟨z, rfl⟩ := isD_str c
      cases hd
      have hz' := hz z rfl
      refine iteF ⟨_, rfl, _, _, rfl, ⟨sz5 hz', rfl⟩, _, _, rfl, rfl, _, rfl, ?_⟩
      replace q : ∀ G, Same H G → Q (.bl (nameS z)) G := q
      unfold nameS at q
      by_cases h1 : 1 ≤ z.length
      · rw [decide_eq_true (show (1 : Int) ≤ (z.length : Nat) by omega)]
        rw [decide_eq_true h1] at q
        refine iteT ⟨_, _, rfl, rfl, _, rfl, ?_⟩
        by_cases h2 : z.length ≤ 8
        · rw [decide_eq_true (show ((z.length : Nat) : Int) ≤ 8 by omega)]
          rw [decide_eq_true h2] at q
          refine iteF ⟨_, rfl, z, rfl, fun L hL => ?_⟩
          refine lc_signs (fun c => V.bl (decide (c ∈ SMALLs.cps.toList))) hz' (fun c G C qq => ⟨rfl, _, rfl, c, SMALLs, rfl, rfl, qq⟩) ?_ gName_mono
          refine ⟨L, (tl z).map fun c => decide (c ∈ SMALLs.cps.toList), rfl, .inl (.inl (by rw [upd_same, List.map_map]; rfl)), ?_⟩
          have e : ((tl z).map fun c => decide (c ∈ SMALLs.cps.toList)).all id = smallS z := by
            rw [List.all_map]
            unfold smallS
            show (tl z).all _ = (tl z).all _
            congr 1
            funext c
            exact in_small c
          rw [e]
          exact q _ (Same.new (Same.refl _) hL)
        · rw [decide_eq_false (show ¬ ((z.length : Nat) : Int) ≤ 8 by omega)]
          rw [decide_eq_false h2] at q
          exact iteT (q _ (Same.refl _))
      · rw [decide_eq_false (show ¬ (1 : Int) ≤ (z.length : Nat) by omega)]
        rw [decide_eq_false h1] at q
        exact iteF ⟨_, rfl, iteT (q _ (Same.refl _))⟩
end

end TS

namespace TS
open PySem PySem.Spec PyProof.Rows L2 TL

/-! ### rows of words -/
def rowD : PyData → Bool
  | .tuple [a, b] => nameD a && wholeD 0 4 b
  | _ => false
theorem weight_mem : ∀ {ds : List PyData} {d : PyData}, d ∈ ds → d.weight ≤ PyData.weightAll ds
  | x :: r, d, h => by
    unfold PyData.weightAll
    rcases List.mem_cons.mp h with e | m
    · rw [e]; omega
    · have := weight_mem m; omega
theorem weight_tup {ds : List PyData} {d : PyData} {n : Nat} (h : (PyData.tuple ds).weight ≤ n) (m : d ∈ ds) : d.weight ≤ n := by
  unfold PyData.weight at h
  exact Nat.le_trans (weight_mem m) h
theorem weight_list {ds : List PyData} {d : PyData} {n : Nat} (h : (PyData.list ds).weight ≤ n) (m : d ∈ ds) : d.weight ≤ n := by
  unfold PyData.weight at h
  exact Nat.le_trans (weight_mem m) h
theorem weight_strD {d : PyData} {n : Nat} (h : d.weight ≤ n) : ∀ z, d = .str z → z.length ≤ n := fun z e => by
  rw [e] at h
  unfold PyData.weight at h
  exact h
theorem iteT' {b : Bool} {A B : Prop} (h : b = true) (a : A) : if b = true then A else B := by rw [h]; exact iteT a
theorem iteF' {b : Bool} {A B : Prop} (h : b = false) (a : B) : if b = true then A else B := by rw [h]; exact iteF a
theorem neV_int {i j : Int} : (!decide (V.int i = V.int j)) = !decide (i = j) := by
  by_cases h : i = j
  · rw [h]; simp
  · rw [decide_eq_false h, decide_eq_false (fun z => h (V.int.inj z))]
theorem eqV_int {i j : Int} : decide (V.int i = V.int j) = decide (i = j) := by
  by_cases h : i = j
  · rw [h]; simp
  · rw [decide_eq_false h, decide_eq_false (fun z => h (V.int.inj z))]
theorem two_of {α : Type} {l : List α} (h : l.length = 2) : ∃ a b, l = [a, b] := match l, h with | [a, b], _ => ⟨a, b, rfl⟩
def spRow (K : PySem.W.Frag) : Sp := fun vs H Q _ => ∃ (x : V) (d : PyData), vs = [x] ∧ Dt K H x d ∧ d.weight ≤ 100000 ∧ ∀ H', Same H H' → Q (.bl (rowD d)) H'
section
variable {P : Program} {w : World} {K : PySem.W.Frag} {mg : Str → Option Value} {base : Heap}
abbrev s_is_row : Stmt := top 14
theorem sc_is_row : FnScope ["thing"] ["thing"] (defScope s_is_row) := ⟨rfl, rfl, rfl, by decide +kernel, rfl, by decide +kernel, by decide +kernel⟩

theorem ok_is_row (bt : Bt mg) (k_MOST_PLACES : ∃ t, mg "MOST_PLACES" = some (.int 4 t)) (p_is_name : Prom P w K mg base 1 "is_name" ["thing"] (spName K)) (p_is_whole : Prom P w K mg base 1 "is_whole" ["thing", "low", "high"] (spWhole K)) (D : Def K mg "is_row" s_is_row) :
    Prom P w K mg base 2 "is_row" ["thing"] (spRow K) := by
  obtain ⟨t_MOST_PLACES, c_MOST_PLACES⟩ := k_MOST_PLACES
  refine prom_mk D sc_is_row (fun vs H Q E h => ?_) (fun _ _ _ _ _ _ us hl => match us, hl with | [_], _ => rfl) (fun f cdv A outer s H vs Q E hr h => ?_)
  · obtain ⟨x, d, rfl, _⟩ := h
    rfl
  · obtain ⟨x, d, rfl, hd, hw, q⟩ := h
    refine ⟨_, (pss_cons (ps_if (PW.pt (pw_or (pt_not (pt_val (pe_callB (id := "isinstance") (isiK (K := K)) (by rfl) bt.isinstance_ (by decide +kernel) (pa_cons (pv 0) (pa_cons (pe_bltn (v := .ty "tuple") rfl bt.tuple_ (by decide +kernel) rfl) pa_nil))))) (pw_or1 (pt_cmpR op_ne (pe_callB (id := "len") (lenK (K := K)) (by rfl) bt.len_ (by decide +kernel) (pa_cons (pv 0) pa_nil)) pe_int (nomark _))))) (pss_one (ps_ret pe_bl)) pss_nil)
      (pss_one (ps_ret (pe_and (pe_pc p_is_name (hr.mono (by decide)) rfl (pa_cons (pe_ix (ix_tupK (K := K)) (pv 0) pe_int (fun _ _ => rfl)) pa_nil)) (pe_one (pe_pc p_is_whole (hr.mono (by decide)) rfl (pa_cons (pe_ix (ix_tupK (K := K)) (pv 0) pe_int (fun _ _ => rfl)) (pa_cons pe_int (pa_cons (pe_glob (v := .int 4) rfl c_MOST_PLACES ⟨_, rfl⟩) pa_nil))))))))), ?_⟩
    refine ⟨_, rfl, _, _, _, _, isD "tuple" d, rfl, .ty "tuple", hd.ty, isi_tuple, _, rfl, ?_⟩
    cases c : isD "tuple" d with
    | false =>
      have e : rowD d = false := by
        cases d <;> first | rfl | (rw [isD_tuples] at c; cases c)
      rw [e] at q
      exact iteT (iteT (q _ (Same.refl _)))
    | true =>
      obtain ⟨l, rfl⟩ := isD_tuple c
      obtain ⟨a, xs, rfl, hT, hA⟩ := hd.tup_inv
      have hl := hA.length
      refine iteF ⟨_, rfl, _, _, rfl, .inr ⟨xs, hT, rfl⟩, rfl, _, rfl, ?_⟩
      rw [neV_int]
      by_cases h2 : l.length = 2
      · obtain ⟨d0, d1, rfl⟩ := two_of h2
        obtain ⟨x0, x1, rfl⟩ := two_of (hl.trans h2)
        cases hA with
        | cons h0 t => cases t with
        | cons h1 t =>
        refine iteF' rfl ?_
        refine ⟨_, rfl, a, _, _, x0, rfl, rfl, hT, rfl, x0, d0, rfl, h0, weight_strD (weight_tup hw (by simp)), fun G sG => ⟨_, rfl, ?_⟩⟩
        replace q : ∀ G, Same H G → Q (.bl (nameD d0 && wholeD 0 4 d1)) G := q
        cases hn : nameD d0 with
        | false =>
          rw [hn] at q
          exact iteF (q G sG)
        | true =>
          rw [hn] at q
          exact iteT ⟨_, rfl, a, _, _, x1, rfl, rfl, SqT.same sG hT, rfl, x1, d1, _, _, rfl, Dt.same sG h1, q G sG⟩
      · have e : rowD (.tuple l) = false := by
          match l, h2 with
          | [], _ => rfl
          | [_], _ => rfl
          | [_, _], h => exact absurd rfl h
          | _ :: _ :: _ :: _, _ => rfl
        rw [e] at q
        refine iteT' ?_ (q _ (Same.refl _))
        rw [decide_eq_false (show ¬ ((xs.length : Nat) : Int) = 2 by omega)]
        rfl
end

end TS

namespace TS
open PySem PySem.Spec PyProof.Rows L2 TL

/-! ### lists of rows -/
def nmOf : PyData → Str
  | .tuple (.str z :: _) => z
  | _ => ""
/-- how many unlike ones -/
def dc : List Str → Nat
  | [] => 0
  | x :: r => if x ∈ r then dc r else dc r + 1
theorem dc_le : ∀ l : List Str, dc l ≤ l.length
  | [] => Nat.le_refl _
  | x :: r => by
    unfold dc
    have := dc_le r
    split <;> simp only [List.length_cons] <;> omega
theorem dc_nodup : ∀ l : List Str, dc l = l.length ↔ l.Nodup
  | [] => by simp [dc]
  | x :: r => by
    have := dc_le r
    rw [List.nodup_cons, ← dc_nodup r, show dc (x :: r) = if x ∈ r then dc r else dc r + 1 from rfl]
    split
    · rename_i h
      simp only [List.length_cons]
      constructor
      · intro z; omega
      · intro z; exact absurd h z.1
    · rename_i h
      simp only [List.length_cons]
      constructor
      · intro z; exact ⟨h, by omega⟩
      · intro z; omega
theorem nodup_rev {l : List Str} : l.reverse.Nodup ↔ l.Nodup := by
  unfold List.Nodup
  rw [List.pairwise_reverse]
  constructor <;> exact fun h => h.imp fun z e => z e.symm
def rowsL (ds : List PyData) : Bool := decide (1 ≤ ds.length) && decide (ds.length ≤ 12) && (ds.all rowD && decide ((ds.map nmOf).Nodup))
def seqD : PyData → Option (List PyData)
  | .list ds => some ds
  | .tuple ds => some ds
  | _ => none
def rowsD (d : PyData) : Bool := match seqD d with
  | some ds => rowsL ds
  | none => false
theorem seq_kind {d : PyData} : (isD "list" d || isD "tuple" d) = true → ∃ ds, seqD d = some ds := fun h => by
  rcases Bool.or_eq_true_iff.mp h with h | h
  · obtain ⟨l, rfl⟩ := isD_list h; exact ⟨l, rfl⟩
  · obtain ⟨l, rfl⟩ := isD_tuple h; exact ⟨l, rfl⟩
theorem seq_nokind {d : PyData} (h : (isD "list" d || isD "tuple" d) = false) : seqD d = none := by
  cases d <;> first | rfl | (rw [isD_lists] at h; cases h) | (rw [isD_tuples, Bool.or_true] at h; cases h)
theorem Dt.seq {K : PySem.W.Frag} {H : Hp} {v : V} {d : PyData} {ds : List PyData} (h : Dt K H v d) (e : seqD d = some ds) : ∃ a xs, v = .ref a ∧ Sq K H a xs ∧ DtAll K H xs ds := by
  cases h with
  | lst a b => cases e; exact ⟨_, _, rfl, .inl a, b⟩
  | tup a b => cases e; exact ⟨_, _, rfl, .inr a, b⟩
  | _ => cases e
theorem weight_seq {d x : PyData} {ds : List PyData} {n : Nat} (h : d.weight ≤ n) (e : seqD d = some ds) (m : x ∈ ds) : x.weight ≤ n := by
  cases d with
  | list l => cases e; exact weight_list h m
  | tuple l => cases e; exact weight_tup h m
  | _ => cases e
theorem row_is {d : PyData} (h : rowD d = true) : ∃ z b, d = .tuple [.str z, b] ∧ nameS z = true ∧ wholeD 0 4 b = true := by
  unfold rowD at h
  split at h
  · rename_i a b
    obtain ⟨h1, h2⟩ := Bool.and_eq_true_iff.mp h
    unfold nameD at h1
    split at h1
    · exact ⟨_, _, rfl, h1, h2⟩
    · cases h1
  · cases h
def spRows (K : PySem.W.Frag) : Sp := fun vs H Q _ => ∃ (x : V) (d : PyData), vs = [x] ∧ Dt K H x d ∧ d.weight ≤ 100000 ∧ (∀ ds, seqD d = some ds → ds.length ≤ 1000) ∧ ∀ H', Same H H' → Q (.bl (rowsD d)) H'
section
variable {P : Program} {w : World} {K : PySem.W.Frag} {mg : Str → Option Value} {base : Heap}
abbrev s_are_rows : Stmt := top 15
theorem sc_are_rows : FnScope ["thing", "row"] ["thing"] (defScope s_are_rows) := ⟨rfl, rfl, rfl, by decide +kernel, rfl, by decide +kernel, by decide +kernel⟩

theorem ok_are_rows (bt : Bt mg) (k_MOST_WORDS : ∃ t, mg "MOST_WORDS" = some (.int 12 t)) (p_is_row : Prom P w K mg base 2 "is_row" ["thing"] (spRow K)) (D : Def K mg "are_rows" s_are_rows) :
    Prom P w K mg base 3 "are_rows" ["thing"] (spRows K) := by
  obtain ⟨t_MOST_WORDS, c_MOST_WORDS⟩ := k_MOST_WORDS
  refine prom_mk D sc_are_rows (fun vs H Q E h => ?_) (fun _ _ _ _ _ _ us hl => match us, hl with | [_], _ => rfl) (fun f cdv A outer s H vs Q E hr h => ?_)
  · obtain ⟨x, d, rfl, _⟩ := h
    rfl
  · obtain ⟨x, d, rfl, hd, hw, hn, q⟩ := h
    refine ⟨_, (pss_cons (ps_if (PW.pt (pw_or (pt_not (pt_val (pe_callB (id := "isinstance") (isiTK (K := K)) (by rfl) bt.isinstance_ (by decide +kernel) (pa_cons (pv 0) (pa_cons (pe_tup (pa_cons (pe_bltn (v := .ty "list") rfl bt.list_ (by decide +kernel) rfl) (pa_cons (pe_bltn (v := .ty "tuple") rfl bt.tuple_ (by decide +kernel) rfl) pa_nil))) pa_nil))))) (pw_or1 (pt_not (pt_chain op_le op_le pe_int (pe_callB (id := "len") (lenK (K := K)) (by rfl) bt.len_ (by decide +kernel) (pa_cons (pv 0) pa_nil)) (pe_glob (v := .int 12) rfl c_MOST_WORDS ⟨_, rfl⟩)))))) (pss_one (ps_ret pe_bl)) pss_nil)
      (pss_one (ps_ret (pe_and (pe_callB (id := "all") (allK (K := K) rfl) (by rfl) bt.all_ (by decide +kernel) (pa_cons (pe_lc (own := [("row", 1)]) (g := gName 1) rfl sc_are_rows.nd (pi_either (pi_listK (K := K) rfl (pv 0)) (pi_tupK (K := K) rfl (pv 0))) (blkOk_by (N := ["thing", "row"]) (sc := defScope s_are_rows) (by decide +kernel)) (fun _ _ _ _ _ => (pg_name (i := 1) sc_are_rows.nd rfl (Or.inl rfl))) (fun _ _ _ _ _ => pts_nil) (fun _ _ _ _ _ => (pe_pc p_is_row (hr.mono (by decide)) rfl (pa_cons (pv 1) pa_nil)))) pa_nil)) (pe_one (pe_cmpR op_eq (pe_callB (id := "len") len_setK (by rfl) bt.len_ (by decide +kernel) (pa_cons (pe_scK (own := [("row", 1)]) (g := gName 1) rfl sc_are_rows.nd (pi_either (pi_listK (K := K) rfl (pv 0)) (pi_tupK (K := K) rfl (pv 0))) (blkOk_by (N := ["thing", "row"]) (sc := defScope s_are_rows) (by decide +kernel)) (fun _ _ _ _ _ => (pg_name (i := 1) sc_are_rows.nd rfl (Or.inl rfl))) (fun _ _ _ _ _ => pts_nil) (fun _ _ _ _ _ => (pe_ix (ix_tupK (K := K)) (pv 1) pe_int (fun _ _ => rfl)))) pa_nil)) (pe_callB (id := "len") (lenK (K := K)) (by rfl) bt.len_ (by decide +kernel) (pa_cons (pv 0) pa_nil)) (nomark _))))))), ?_⟩
    refine ⟨_, rfl, (by show 2 ≤ sizeLine; decide), fun T hT => ⟨_, T, [.ty "list", .ty "tuple"], _, _, isD "list" d || isD "tuple" d, rfl, upd_same .., .cons (.ty "list") (.cons (.ty "tuple") .nil), (Dt.same (Same.new (Same.refl _) hT) hd).ty, isi_lt, _, rfl, ?_⟩⟩
    have sT : Same H (L2.upd H T (.tup [.ty "list", .ty "tuple"])) := Same.new (Same.refl _) hT
    generalize L2.upd H T (.tup [.ty "list", .ty "tuple"]) = H0 at sT ⊢
    unfold rowsD at q
    cases c : (isD "list" d || isD "tuple" d) with
    | false =>
      rw [seq_nokind c] at q
      exact iteT (iteT (q _ sT))
    | true =>
      obtain ⟨ds, es⟩ := seq_kind c
      rw [es] at q
      obtain ⟨a, xs, rfl, hS, hA⟩ := (Dt.same sT hd).seq es
      have hl := hA.length
      replace q : ∀ G, Same H G → Q (.bl (rowsL ds)) G := q
      unfold rowsL at q
      have h12 := hn ds es
      refine iteF ⟨_, rfl, _, _, rfl, hS.len, _, _, rfl, rfl, _, rfl, ?_⟩
      by_cases h1 : 1 ≤ ds.length
      · rw [decide_eq_true (show (1 : Int) ≤ (xs.length : Nat) by omega)]
        rw [decide_eq_true h1] at q
        refine iteT ⟨_, _, rfl, rfl, _, rfl, ?_⟩
        by_cases h2 : ds.length ≤ 12
        · rw [decide_eq_true (show ((xs.length : Nat) : Int) ≤ 12 by omega)]
          rw [decide_eq_true h2, Bool.and_true, Bool.true_and] at q
          refine iteF (seq_it rfl hS fun J G wk hG L hL => lc_same wk hG (by omega) (Same.refl _) hL (fun i => .bl (rowD (ds.getD i .none))) (fun _ => rfl) ?_ ?_)
          · intro i x H2 C hx s2 k
            obtain ⟨di, hdi, hx2⟩ := hA.get hx
            have e : ds.getD i .none = di := by rw [List.getD_eq_getElem?_getD, hdi]; rfl
            rw [e] at k
            exact ⟨_, rfl, x, di, rfl, Dt.same s2 hx2, weight_seq hw es (List.mem_of_getElem? hdi), k⟩
          · intro H2 s2 hL2
            refine ⟨L, (List.range xs.length).map fun i => rowD (ds.getD i .none), rfl, .inl (.inl (by rw [hL2, List.map_map]; rfl)), _, rfl, ?_⟩
            have ea : ((List.range xs.length).map fun i => rowD (ds.getD i .none)).all id = ds.all rowD := by
              rw [hl]
              have : (List.range ds.length).map (fun i => rowD (ds.getD i .none)) = ds.map rowD := by
                apply List.ext_getElem?
                intro i
                rw [List.getElem?_map, List.getElem?_map]
                rcases Nat.lt_or_ge i ds.length with z | z
                · rw [List.getElem?_range z, List.getElem?_eq_getElem z]
                  simp [List.getD_eq_getElem?_getD, List.getElem?_eq_getElem z]
                · rw [List.getElem?_eq_none (by simpa using z), List.getElem?_eq_none z]
                  rfl
              rw [this, List.all_map]
              rfl
            rw [ea]
            cases al : ds.all rowD with
            | false =>
              rw [al] at q
              exact iteF (q _ (sT.trans s2))
            | true =>
              rw [al, Bool.true_and] at q
              have rows : ∀ (i : Nat) (x : V), xs[i]? = some x → ∃ (p : Addr) (z : Str) (b : PyData) (v : V), x = .ref p ∧ ds[i]? = some (.tuple [.str z, b]) ∧ SqT K H2 p [.str z, v] := by
                intro i x hx
                obtain ⟨di, hdi, hx2⟩ := hA.get hx
                obtain ⟨z, b, rfl, _, _⟩ := row_is (List.all_eq_true.mp al di (List.mem_of_getElem? hdi))
                obtain ⟨p, ys, rfl, hp, hy⟩ := (Dt.same s2 hx2).tup_inv
                cases hy with
                | cons y0 t => cases t with
                | cons y1 t => cases t with
                | nil =>
                  cases y0
                  exact ⟨p, z, b, _, rfl, hdi, hp⟩
              refine iteT (seq_it rfl (Sq.same s2 hS) fun J2 G2 wk2 hG2 D hD => ?_)
              have sD : ∀ o : HO, Same H2 (L2.upd H2 D o) := fun o => Same.new (Same.refl _) hD
              refine scK_it wk2 (fun i G' => ∃ S, (∀ k, S k = decide (∃ z ∈ (ds.take i).map nmOf, k = Sum.inr z)) ∧ G' = L2.upd H2 D (SetK P w D S (dc ((ds.take i).map nmOf).reverse))) ⟨_, fun k => by simp, rfl⟩ (fun i G' _ p => ?_) ?_ ?_
              · obtain ⟨S, _, rfl⟩ := p
                exact hG2 _ (sD _)
              · rintro i x G' G'' hi ⟨S, hSS, rfl⟩ ⟨rfl, hx⟩
                obtain ⟨p, z, b, v, rfl, hdi, hp⟩ := rows i x hx
                have et : (ds.take (i + 1)).map nmOf = (ds.take i).map nmOf ++ [z] := take_map nmOf hdi
                have dl := dc_le ((ds.take i).map nmOf).reverse
                rw [List.length_reverse, List.length_map, List.length_take] at dl
                refine ⟨rfl, yes (iteT ⟨_, rfl, p, _, _, .str z, rfl, rfl, SqT.same (sD _) hp, rfl, Sum.inr z, S, _, rfl, upd_same .., ?_, fun j => S j || decide (j = Sum.inr z), fun k => ?_, ?_⟩)⟩
                · have : (50 : Nat) < scanBound := by decide
                  omega
                · show (S k || decide (k = Sum.inr z)) = _
                  rw [hSS, et, Bool.eq_iff_iff]
                  simp only [Bool.or_eq_true, decide_eq_true_eq]
                  constructor
                  · rintro (⟨y, m, e⟩ | e)
                    · exact ⟨y, List.mem_append_left _ m, e⟩
                    · exact ⟨z, List.mem_append_right _ (by simp), e⟩
                  · rintro ⟨y, m, e⟩
                    rcases List.mem_append.mp m with m | m
                    · exact .inl ⟨y, m, e⟩
                    · rw [List.mem_singleton.mp m] at e
                      exact .inr e
                · rw [upd_upd, et, List.reverse_append]
                  show L2.upd H2 D (SetK P w D _ (if S (Sum.inr z) = true then _ else _)) = L2.upd H2 D (SetK P w D _ (if z ∈ ((ds.take i).map nmOf).reverse then _ else _))
                  have ez : S (Sum.inr z) = decide (z ∈ ((ds.take i).map nmOf).reverse) := by
                    rw [hSS]
                    congr 1
                    apply propext
                    constructor
                    · rintro ⟨y, m, e⟩
                      rw [Sum.inr.inj e]
                      exact List.mem_reverse.mpr m
                    · intro m
                      exact ⟨z, List.mem_reverse.mp m, rfl⟩
                  rw [ez]
                  by_cases m : z ∈ ((ds.take i).map nmOf).reverse
                  · rw [if_pos m, if_pos (decide_eq_true m)]; rfl
                  · rw [if_neg m, if_neg (by rw [decide_eq_false m]; decide)]; rfl
              · rintro G' ⟨S, _, rfl⟩
                have dl := dc_le ((ds.take xs.length).map nmOf).reverse
                rw [List.length_reverse, List.length_map, List.length_take] at dl
                refine ⟨D, S, _, rfl, upd_same .., ?_, _, rfl, _, _, rfl, (Sq.same (sD _) (Sq.same s2 hS)).len, rfl, ?_⟩
                · have : (2 : Nat) ^ 40 = 1099511627776 := by decide
                  omega
                · have ef : ds.take xs.length = ds := List.take_of_length_le (by omega)
                  rw [ef, eqV_int]
                  have e2 : decide (((dc (ds.map nmOf).reverse : Nat) : Int) = (xs.length : Nat)) = decide ((ds.map nmOf).Nodup) := by
                    congr 1
                    apply propext
                    have z := dc_nodup (ds.map nmOf).reverse
                    rw [List.length_reverse, List.length_map, nodup_rev] at z
                    rw [← z]
                    constructor
                    · intro e; omega
                    · intro e; omega
                  rw [e2]
                  exact q _ ((sT.trans s2).trans (sD _))
        · rw [decide_eq_false (show ¬ ((xs.length : Nat) : Int) ≤ 12 by omega)]
          rw [decide_eq_false h2] at q
          exact iteT (q _ sT)
      · rw [decide_eq_false (show ¬ (1 : Int) ≤ (xs.length : Nat) by omega)]
        rw [decide_eq_false h1] at q
        exact iteF ⟨_, rfl, iteT (q _ sT)⟩
end

end TS

namespace TS
open PySem PySem.Spec PyProof.Rows L2 TL

/-! ### Words -/
def wcls (K : PySem.W.Frag) : Addr := He.ga K "Words"
def rowOf : PyData → Str × Int
  | .tuple [.str z, .int p] => (z, p)
  | _ => ("", 0)
/-- the entries of by_name -/
structure WEnt (K : PySem.W.Frag) (G : Hp) (kvs : List (Key × V)) (rows : List (Str × Int)) : Prop where
  len : kvs.length = rows.length
  at_ : ∀ (i : Nat) (r : Str × Int), rows[i]? = some r → ∃ t, kvs[i]? = some (Sum.inr r.1, .ref t) ∧ SqT K G t [.int r.2, .int i]
theorem WEnt.same {K : PySem.W.Frag} {G G' : Hp} {kvs : List (Key × V)} {rows : List (Str × Int)} (h : WEnt K G kvs rows) (e : Same G G') : WEnt K G' kvs rows :=
  ⟨h.len, fun i r q => let ⟨t, a, b⟩ := h.at_ i r q; ⟨t, a, SqT.same e b⟩⟩
/-- the words at a -/
def WordsAt (K : PySem.W.Frag) (G : Hp) (a : Addr) (rows : List (Str × Int)) : Prop := ∃ dx D kvs, G a = some (.ins (wcls K) dx [("by_name", .ref D)]) ∧ G D = some (.dK kvs) ∧ WEnt K G kvs rows
theorem WordsAt.same {K : PySem.W.Frag} {G G' : Hp} {a : Addr} {rows : List (Str × Int)} (h : WordsAt K G a rows) (e : Same G G') : WordsAt K G' a rows :=
  let ⟨dx, D, kvs, x, y, z⟩ := h; ⟨dx, D, kvs, e _ _ x, e _ _ y, z.same e⟩
theorem valV_none {kvs : List (Key × V)} {k : Key} (h : ∀ kv ∈ kvs, kv.1 ≠ k) : valV kvs k = none := by
  unfold valV
  rw [List.find?_eq_none.mpr (fun kv m => by simpa using h kv m)]
  rfl
/-- a tuple stays where another thing is changed -/
theorem SqT.upd {K : PySem.W.Frag} {H : Hp} {a t : Addr} {xs : List V} {o o' : HO} (ha : H a = some o) (ho : ∀ l, o ≠ .tup l) (hf : ∀ b u, o ≠ .frz b u) (h : SqT K H t xs) : SqT K (L2.upd H a o') t xs := by
  rcases h with (h | ⟨q, h⟩) | h
  · refine .inl (.inl ?_)
    rw [upd_ne]
    · exact h
    · intro e
      rw [e, ha] at h
      exact ho _ (Option.some.inj h)
  · refine .inl (.inr ⟨q, ?_⟩)
    rw [upd_ne]
    · exact h
    · intro e
      rw [e, ha] at h
      exact hf _ _ (Option.some.inj h)
  · exact .inr h
def spWIni (K : PySem.W.Frag) : Sp := fun vs H Q E => ∃ (a dx : Addr) (x : V) (d : PyData), vs = [.ref a, x] ∧ H a = some (.ins (wcls K) dx []) ∧ Dt K H x d ∧ d.weight ≤ 100000 ∧ (∀ ds, seqD d = some ds → ds.length ≤ 1000) ∧
  (∀ ds, seqD d = some ds → rowsL ds = true → ∀ G, Fx a H G → WordsAt K G a (ds.map rowOf) → Q .non G) ∧
  (rowsD d = false → ∀ G e, Same H G → H e = none → G e = some (.xd [("found", x)]) → E (.ref (He.ga K "NoWords")) (some e) G)
def spWLen (K : PySem.W.Frag) : Sp := fun vs H Q _ => ∃ (a : Addr) (rows : List (Str × Int)), vs = [.ref a] ∧ WordsAt K H a rows ∧ Q (.int rows.length) H
section
variable {P : Program} {w : World} {K : PySem.W.Frag} {mg : Str → Option Value} {base : Heap}
abbrev s_NoWords___init__ : Stmt := inClass (top 4) 0
theorem sc_NoWords___init__ : FnScope ["self", "found"] ["self", "found"] (defScope s_NoWords___init__) := ⟨rfl, rfl, rfl, by decide +kernel, rfl, by decide +kernel, by decide +kernel⟩
theorem ok_NoWords_ini (fam_TermError : FamV K (He.ga K "TermError")) (g_TermError : mg "TermError" = some (.ref (He.ga K "TermError"))) (x_NoWords : OwnV K (He.ga K "NoWords") "found") (D : DefM K (He.ma K (He.ga K "NoWords") "__init__") "__init__" "NoWords.__init__" s_NoWords___init__) :
    PromA CX0 P w K mg base 1 (He.ma K (He.ga K "NoWords") "__init__") ["self", "found"] (spIni (He.ga K "NoWords") "found") := by
  refine meth_mk D sc_NoWords___init__ (fun vs H Q E h => ?_) (fun _ _ _ _ _ _ us hl => match us, hl with | [_, _], _ => rfl) (fun cdv A outer s H vs Q E hr h => ?_)
  · obtain ⟨a, v, rfl, _⟩ := h
    rfl
  · obtain ⟨a, v, rfl, ha, q⟩ := h
    refine ⟨_, (pss_cons (ps_expr (pe_famInit fam_TermError rfl g_TermError (pa_cons (pv 0) (pa_cons pe_str pa_nil))))
      (pss_one (ps_ost (pv 0) (pv 1)))), ?_⟩
    exact ⟨_, rfl, a, _, _, rfl, by decide, x_NoWords.ox, ha, _, rfl, _, rfl, a, _, rfl, x_NoWords.ox, x_NoWords.no, .inl ⟨ha, fun dx h1 h2 => q dx h1 h2⟩⟩

abbrev s_Words___len__ : Stmt := inClass (top 16) 6
theorem sc_Words___len__ : FnScope ["self"] ["self"] (defScope s_Words___len__) := ⟨rfl, rfl, rfl, by decide +kernel, rfl, by decide +kernel, by decide +kernel⟩

theorem ok_Words_len (bt : Bt mg) (cl : Cls K (wcls K)) (nb : NoAttr K (wcls K) "by_name") (D : DefM K (He.ma K (wcls K) "__len__") "__len__" "Words.__len__" s_Words___len__) : PromA CX0 P w K mg base 1 (He.ma K (wcls K) "__len__") ["self"] (spWLen K) := by
  refine meth_mk D sc_Words___len__ (fun vs H Q E h => ?_) (fun _ _ _ _ _ _ us hl => match us, hl with | [_], _ => rfl) (fun cdv A outer s H vs Q E hr h => ?_)
  · obtain ⟨a, rows, rfl, _⟩ := h
    rfl
  · obtain ⟨a, rows, rfl, ⟨dx, D, kvs, e1, e2, e3⟩, q⟩ := h
    refine ⟨_, (pss_one (ps_ret (pe_callB (id := "len") call_lenD (by rfl) bt.len_ (by decide +kernel) (pa_cons (pe_fld (pv 0) rfl) pa_nil)))), ?_⟩
    refine ⟨_, rfl, a, _, dx, _, _, rfl, e1, cl, nb, rfl, D, kvs, rfl, e2, ?_⟩
    rw [e3.len]
    exact q
abbrev s_Words___init__ : Stmt := inClass (top 16) 0
theorem sc_Words___init__ : FnScope ["self", "rows", "at", "name", "places"] ["self", "rows"] (defScope s_Words___init__) := ⟨rfl, rfl, rfl, by decide +kernel, rfl, by decide +kernel, by decide +kernel⟩

theorem ok_Words_ini (bt : Bt mg) (cl : Cls K (wcls K)) (nb : NoAttr K (wcls K) "by_name") (p_are_rows : Prom P w K mg base 3 "are_rows" ["thing"] (spRows K)) (g_NoWords : mg "NoWords" = some (.ref (He.ga K "NoWords"))) (x_NoWords : OwnV K (He.ga K "NoWords") "found")
    (pi_NoWords : PromA CX0 P w K mg base 1 (He.ma K (He.ga K "NoWords") "__init__") ["self", "found"] (spIni (He.ga K "NoWords") "found"))
    (D : DefM K (He.ma K (wcls K) "__init__") "__init__" "Words.__init__" s_Words___init__) : PromA (L2.CX P w) P w K mg base 4 (He.ma K (wcls K) "__init__") ["self", "rows"] (spWIni K) := by
  refine methX_mk D sc_Words___init__ (fun vs H Q E h => ?_) (fun _ _ _ _ _ _ us hl => match us, hl with | [_, _], _ => rfl) (fun cdv A outer s H vs Q E hr h => ?_)
  · obtain ⟨a, dx, x, d, rfl, _⟩ := h
    rfl
  · obtain ⟨a, dx, x, d, rfl, ha, hd, hw, hn, q1, q2⟩ := h
    refine ⟨_, (pss_cons (ps_if (pt_not (pt_val (pe_pc p_are_rows (hr.mono (by decide)) rfl (pa_cons (pv 1) pa_nil)))) (pss_one (ps_raise1 x_NoWords pi_NoWords rfl takesF (hr.mono (by decide)) rfl g_NoWords (pv 1))) pss_nil)
      (pss_one (ps_fld (pv 0) (pe_dc (own := [("at", 2), ("name", 3), ("places", 4)]) rfl sc_Words___init__.nd (pi_either (pi_enumK (K := K) rfl rfl bt.enumerate_ (pa_cons (pv 1) pa_nil)) (pi_enumT (K := K) rfl rfl bt.enumerate_ (pa_cons (pv 1) pa_nil))) (blkOk_by (N := ["self", "rows", "at", "name", "places"]) (sc := defScope s_Words___init__) (by decide +kernel)) (fun _ _ _ _ _ => (pg_tupK (K := K) (n := 2) rfl rfl (pgs_cons (pg_name (i := 2) sc_Words___init__.nd rfl (Or.inl rfl)) (pgs_cons (pg_tupK (K := K) (n := 2) rfl rfl (pgs_cons (pg_name (i := 3) sc_Words___init__.nd rfl (Or.inl rfl)) (pgs_cons (pg_name (i := 4) sc_Words___init__.nd rfl (Or.inl rfl)) pgs_nil))) pgs_nil)))) (fun _ _ _ _ _ => pts_nil) (fun _ _ _ _ _ => (pv 3)) (fun _ _ _ _ _ => (pe_tup (pa_cons (pv 4) (pa_cons (pv 2) pa_nil))))) rfl))), ?_⟩
    refine ⟨_, rfl, x, d, rfl, hd, hw, hn, fun H1 s1 => ⟨_, rfl, ?_⟩⟩
    cases c : rowsD d with
    | false => exact iteT ⟨_, rfl, fun e he => q2 c _ e (s1.trans (Same.new (Same.refl _) he)) (s1.free he) (upd_same ..)⟩
    | true =>
      obtain ⟨ds, es, rl⟩ : ∃ ds, seqD d = some ds ∧ rowsL ds = true := by
        unfold rowsD at c
        split at c
        · rename_i ds e; exact ⟨ds, e, c⟩
        · cases c
      obtain ⟨b, xs, rfl, hS, hA⟩ := (Dt.same s1 hd).seq es
      have hl := hA.length
      obtain ⟨rl1, rl2⟩ := Bool.and_eq_true_iff.mp rl
      obtain ⟨al, nd⟩ := Bool.and_eq_true_iff.mp rl2
      have l12 : ds.length ≤ 12 := of_decide_eq_true (Bool.and_eq_true_iff.mp rl1).2
      have nd' := of_decide_eq_true nd
      refine iteF (enum_it rfl hS fun J G wk hG D hD => ?_)
      have sD : ∀ o : HO, Same H1 (L2.upd H1 D o) := fun o => Same.new (Same.refl _) hD
      refine dc_it wk (fun i G' => ∃ kvs, Same H1 G' ∧ G' D = some (.dK kvs) ∧ WEnt K G' kvs ((ds.take i).map rowOf)) ⟨[], sD _, upd_same .., ⟨by simp, fun i r e => by simp at e⟩⟩ (fun i G' _ p => hG G' p.choose_spec.1) ?_ ?_
      · rintro i v G1 G2 hi ⟨kvs, sG, eD, we⟩ ⟨T, y, x, rfl, hT, rfl, ey, hx⟩
        cases ey
        obtain ⟨di, hdi, hx2⟩ := hA.get hx
        obtain ⟨z, pb, rfl, _, hp⟩ := row_is (List.all_eq_true.mp al di (List.mem_of_getElem? hdi))
        obtain ⟨p, rfl⟩ : ∃ p, pb = .int p := by
          cases pb <;> first | exact ⟨_, rfl⟩ | cases hp
        have sT : Same G1 (L2.upd G1 T (.tup [.int (i : Nat), x])) := Same.new (Same.refl _) hT
        obtain ⟨r, ys, rfl, hr2, hy⟩ := (Dt.same (sG.trans sT) hx2).tup_inv
        cases hy with
        | cons y0 t => cases t with
        | cons y1 t => cases t with
        | nil =>
        cases y0
        cases y1
        refine ⟨T, _, rfl, .inl (.inl (upd_same ..)), rfl, _, _, rfl, _, _, rfl, r, _, rfl, hr2, rfl, _, _, rfl, _, _, rfl, rfl, rfl, rfl, yes (iteT ⟨_, rfl, _, rfl, _, rfl, (by show 2 ≤ sizeLine; decide), fun u hu => ?_⟩)⟩
        have sU : Same (L2.upd G1 T (.tup [.int (i : Nat), .ref r])) (L2.upd (L2.upd G1 T (.tup [.int (i : Nat), .ref r])) u (.tup [.int p, .int (i : Nat)])) := Same.new (Same.refl _) hu
        have sA := sT.trans sU
        refine ⟨kvs, Sum.inr z, rfl, sA _ _ eD, ?_, kvs ++ [(Sum.inr z, .ref u)], ?_, ?_, ?_⟩
        · rw [we.len, List.length_map, List.length_take]
          exact sz5' (by omega)
        · intro b o e
          rw [upd_ne (ne_of_none e hD)]
          exact sA _ _ (sG _ _ e)
        · rw [upd_same]
          congr 2
          refine putK_new _ (valV_none fun kv hkv e => ?_)
          obtain ⟨j, hj⟩ := List.mem_iff_getElem?.mp hkv
          have jl : j < i := by
            have := (List.getElem?_eq_some_iff.mp hj).1
            rw [we.len, List.length_map, List.length_take] at this
            omega
          have jd : j < ds.length := by omega
          obtain ⟨t, h1, _⟩ := we.at_ j (rowOf ds[j]) (by rw [List.getElem?_map, List.getElem?_take_of_lt jl, List.getElem?_eq_getElem jd]; rfl)
          rw [hj] at h1
          cases h1
          obtain ⟨z2, pb2, e2, _, hp2⟩ := row_is (List.all_eq_true.mp al ds[j] (List.getElem_mem jd))
          have en : (ds.map nmOf)[j]? = (ds.map nmOf)[i]? := by
            rw [List.getElem?_map, List.getElem?_map, hdi, List.getElem?_eq_getElem jd, e2]
            rw [e2] at e
            obtain ⟨p2, rfl⟩ : ∃ p, pb2 = .int p := by
              cases pb2 <;> first | exact ⟨_, rfl⟩ | cases hp2
            exact congrArg some (Sum.inr.inj e)
          have := (List.getElem?_inj (by rw [List.length_map]; exact jd) nd').mp en
          omega
        · have et : (ds.take (i + 1)).map rowOf = (ds.take i).map rowOf ++ [(z, p)] := take_map rowOf hdi
          have li : ((ds.take i).map rowOf).length = i := by
            rw [List.length_map, List.length_take]
            omega
          have ki : kvs.length = i := we.len.trans li
          refine ⟨by rw [et, List.length_append, List.length_append, we.len]; rfl, fun j rr e => ?_⟩
          rw [et] at e
          rcases Nat.lt_or_ge j i with jl | jl
          · rw [List.getElem?_append_left (by omega)] at e
            obtain ⟨t, h1, h2⟩ := we.at_ j rr e
            exact ⟨t, by rw [List.getElem?_append_left (by omega)]; exact h1, SqT.upd (sA _ _ eD) (fun _ => nofun) (fun _ _ => nofun) (SqT.same sA h2)⟩
          · rw [List.getElem?_append_right (by omega), li] at e
            obtain rfl : j = i := by
              rcases Nat.lt_or_ge i j with z1 | z1
              · rw [List.getElem?_eq_none (by simp; omega)] at e
                cases e
              · omega
            rw [Nat.sub_self] at e
            cases e
            refine ⟨u, by rw [List.getElem?_append_right (by omega), ki, Nat.sub_self]; rfl, SqT.upd (sA _ _ eD) (fun _ => nofun) (fun _ _ => nofun) (.inl (.inl (upd_same ..)))⟩
      · rintro G' ⟨kvs, sG, eD, we⟩
        rw [show ds.take xs.length = ds from List.take_of_length_le (by omega)] at we
        refine ⟨_, rfl, a, _, dx, _, rfl, sG _ _ (s1 _ _ ha), cl, nb, by decide, ?_⟩
        have na : a ≠ D := fun e => by rw [← e] at hD; rw [s1 _ _ ha] at hD; cases hD
        refine q1 ds es rl _ (Fx.of (s1.trans sG)).upd ⟨dx, D, kvs, upd_same .., (upd_ne (Ne.symm na)).trans eD, we.len, fun i r e => ?_⟩
        obtain ⟨t, h1, h2⟩ := we.at_ i r e
        exact ⟨t, h1, SqT.upd (sG _ _ (s1 _ _ ha)) (fun _ => nofun) (fun _ _ => nofun) h2⟩
end

end TS

namespace TS
open PySem PySem.Spec PyProof.Rows L2 TL

/-! ### names of words, drawn -/
def w12 : List Str := ["put", "take", "ask", "meets", "above", "rule", "shelf", "tree", "f", "g", "c", "n"]
def NamesOk (m : Nat) (ns : List Str) : Prop := ns.length = m ∧ (∀ z ∈ ns, nameS z = true) ∧ ns.Nodup
theorem range_take {α : Type} (f : Nat → α) {m n : Nat} (h : m ≤ n) : (List.range m).map f = ((List.range n).map f).take m := by
  rw [← List.map_take, List.take_range, Nat.min_eq_left h]
theorem nodup_take {α : Type} {l : List α} {m : Nat} (h : l.Nodup) : (l.take m).Nodup := h.sublist (List.take_sublist m l)
theorem nodup_of_map {α β : Type} (g : α → β) {l : List α} (h : (l.map g).Nodup) : l.Nodup := (List.pairwise_map.mp h).imp fun z e => z (congrArg g e)
theorem names0 {f m : Nat} (hf : f < 26) (hm : m ≤ 12) : NamesOk m ((List.range m).map fun k => w12.getD ((f + 5 * k) % 12) "") := by
  have a : ∀ f ∈ List.range 26, ((List.range 12).map fun k => (f + 5 * k) % 12).Nodup := by decide +kernel
  have w : ∀ z ∈ w12, nameS z = true := by decide +kernel
  have wn : w12.Nodup := by decide +kernel
  refine ⟨by simp, fun z hz => ?_, ?_⟩
  · obtain ⟨k, _, rfl⟩ := List.mem_map.mp hz
    have hk : (f + 5 * k) % 12 < w12.length := Nat.mod_lt _ (by decide)
    rw [List.getD_eq_getElem?_getD, List.getElem?_eq_getElem hk]
    exact w _ (List.getElem_mem hk)
  · have e : ((List.range m).map fun k => w12.getD ((f + 5 * k) % 12) "") = ((List.range m).map fun k => (f + 5 * k) % 12).map (fun j => w12.getD j "") := by rw [List.map_map]; rfl
    rw [e]
    have n1 : ((List.range m).map fun k => (f + 5 * k) % 12).Nodup := by
      rw [range_take _ hm]
      exact nodup_take (a f (List.mem_range.mpr hf))
    refine List.pairwise_map.mpr (n1.imp_of_mem fun {i j} hi hj ne e => ne ?_)
    obtain ⟨k1, _, rfl⟩ := List.mem_map.mp hi
    obtain ⟨k2, _, rfl⟩ := List.mem_map.mp hj
    have h1 : (f + 5 * k1) % 12 < w12.length := Nat.mod_lt _ (by decide)
    have h2 : (f + 5 * k2) % 12 < w12.length := Nat.mod_lt _ (by decide)
    rw [List.getD_eq_getElem?_getD, List.getD_eq_getElem?_getD, List.getElem?_eq_getElem h1, List.getElem?_eq_getElem h2] at e
    exact (List.getElem_inj wn).mp e
def Small (l : List Nat) : Prop := ∀ c ∈ l, 97 ≤ c ∧ c ≤ 122
theorem nameS_of {l : List Nat} (h : Small l) (h1 : 1 ≤ l.length) (h2 : l.length ≤ 8) : nameS ⟨l.toArray⟩ = true := by
  unfold nameS
  rw [len_tl, tl_mk, decide_eq_true h1, decide_eq_true h2]
  show smallS _ = true
  unfold smallS
  rw [List.all_eq_true]
  intro c hc
  have := h c hc
  rw [decide_eq_true this.1, decide_eq_true this.2]
  rfl
theorem names1 {st : List Nat} {f m : Nat} (hs : Small st) (h8 : st.length = 8) (hf : f < 26) (hm : m ≤ 8) : NamesOk m ((List.range m).map fun k => ⟨(st.take (1 + (f + 3 * k) % 8)).toArray⟩) := by
  have a : ∀ f ∈ List.range 26, ((List.range 8).map fun k => 1 + (f + 3 * k) % 8).Nodup := by decide +kernel
  refine ⟨by simp, fun z hz => ?_, nodup_of_map (fun z : Str => z.length) ?_⟩
  · obtain ⟨k, _, rfl⟩ := List.mem_map.mp hz
    exact nameS_of (fun c hc => hs c (List.mem_of_mem_take hc)) (by rw [List.length_take]; omega) (by rw [List.length_take]; omega)
  · rw [List.map_map]
    have e : ((List.range m).map ((fun z : Str => z.length) ∘ fun k => ⟨(st.take (1 + (f + 3 * k) % 8)).toArray⟩)) = (List.range m).map fun k => 1 + (f + 3 * k) % 8 := by
      refine List.map_congr_left fun k _ => ?_
      show Str.length _ = _
      rw [len_tl, tl_mk, List.length_take, h8]
      omega
    rw [e, range_take _ hm]
    exact nodup_take (a f (List.mem_range.mpr hf))
theorem names2 {st : List Nat} {f m at_ : Nat} (hs : Small st) (h8 : st.length = 8) (ha : at_ < 8) (hf : f < 26) (hm : m ≤ 12) :
    NamesOk m ((List.range m).map fun k => ⟨(st.take at_ ++ [97 + (f + 7 * k) % 26] ++ (st.drop at_).take (7 - (f + k) % 2 - at_)).toArray⟩) := by
  have a : ∀ f ∈ List.range 26, ((List.range 12).map fun k => 97 + (f + 7 * k) % 26).Nodup := by decide +kernel
  refine ⟨by simp, fun z hz => ?_, nodup_of_map (fun z : Str => (tl z).getD at_ 0) ?_⟩
  · obtain ⟨k, _, rfl⟩ := List.mem_map.mp hz
    refine nameS_of (fun c hc => ?_) (by simp; omega) (by simp only [List.length_append, List.length_take, List.length_drop, List.length_singleton]; omega)
    rcases List.mem_append.mp hc with hc | hc
    · rcases List.mem_append.mp hc with hc | hc
      · exact hs c (List.mem_of_mem_take hc)
      · rw [List.mem_singleton.mp hc]
        omega
    · exact hs c (List.mem_of_mem_drop (List.mem_of_mem_take hc))
  · rw [List.map_map]
    have e : ((List.range m).map ((fun z : Str => (tl z).getD at_ 0) ∘ fun k => ⟨(st.take at_ ++ [97 + (f + 7 * k) % 26] ++ (st.drop at_).take (7 - (f + k) % 2 - at_)).toArray⟩)) = (List.range m).map fun k => 97 + (f + 7 * k) % 26 := by
      refine List.map_congr_left fun k _ => ?_
      show (tl _).getD at_ 0 = _
      have la : (st.take at_).length = at_ := by rw [List.length_take]; omega
      rw [tl_mk, List.append_assoc, List.getD_eq_getElem?_getD, List.getElem?_append_right (by omega), la, Nat.sub_self]
      rfl
    rw [e, range_take _ hm]
    exact nodup_take (a f (List.mem_range.mpr hf))
/-- a list of names that were drawn -/
def spNames : Sp := fun vs H Q _ => ∃ (b : Addr) (n m : Nat), vs = [.ref b, .int m] ∧ m ≤ 12 ∧ (∃ o, H b = some o ∧ Bag (n + 11) o) ∧
  ∀ H' p ns, Dr b n H H' → NamesOk m ns → p ≠ b → H' p = some (.lst (ns.map V.str)) → Q (.ref p) H'

end TS

namespace TS
open PySem PySem.Spec PyProof.Rows L2 TL

theorem strs_of : ∀ {xs : List V}, (∀ v ∈ xs, ∃ c : Nat, v = .str ⟨#[c]⟩ ∧ 97 ≤ c ∧ c ≤ 122) → ∃ st : List Nat, xs = (st.map fun c => V.str ⟨#[c]⟩) ∧ Small st
  | [], _ => ⟨[], rfl, fun c h => by simp at h⟩
  | x :: r, h => by
    obtain ⟨c, rfl, hc⟩ := h x (by simp)
    obtain ⟨st, rfl, hs⟩ := strs_of fun v hv => h v (List.mem_cons_of_mem _ hv)
    refine ⟨c :: st, rfl, fun d hd => ?_⟩
    rcases List.mem_cons.mp hd with e | m
    · rw [e]; exact hc
    · exact hs d m
theorem joinL_signs : ∀ st : List Nat, joinL [] (st.map fun c => [c]) = st
  | [] => rfl
  | [c] => rfl
  | c :: d :: r => by
    show [c] ++ ([] ++ joinL [] ((d :: r).map fun c => [c])) = _
    rw [joinL_signs (d :: r)]
    rfl
theorem join_signs (st : List Nat) : Txt.join "" (st.map fun c => (⟨#[c]⟩ : Str)) = ⟨st.toArray⟩ := by
  rw [join_eq]
  refine ext_tl ?_
  rw [tl_join, List.map_map]
  have e : tl ("" : Str) = [] := by decide +kernel
  rw [e]
  show joinL [] (st.map fun c => [c]) = _
  rw [joinL_signs]
theorem sum_len : ∀ {ws : List Str} {k : Nat}, (∀ z ∈ ws, z.length ≤ k) → (ws.map (·.length)).sum ≤ ws.length * k
  | [], _, _ => by simp
  | w :: r, k, h => by
    have ih := sum_len (ws := r) (k := k) fun z hz => h z (List.mem_cons_of_mem _ hz)
    have := h w (by simp)
    simp only [List.map_cons, List.sum_cons, List.length_cons, Nat.succ_mul]
    omega
theorem andR {b : Bool} {R T : Prop} (h : R) (k : b = true → R → T) : if b = true then T else R := by
  cases b
  · exact iteF h
  · exact iteT (k rfl h)
theorem cut_to {l : List Nat} {k : Nat} (h : k ≤ l.length) : cutS ⟨l.toArray⟩ none (some (k : Int)) = ⟨(l.take k).toArray⟩ := by
  unfold cutS
  have e : (⟨l.toArray⟩ : Str).length = l.length := by rw [len_tl, tl_mk]
  rw [e, HT.sIx_none, HT.sIx_nat, Nat.min_eq_left h, Nat.sub_zero, List.drop_zero]
theorem cut_in {l : List Nat} {j k : Nat} (hj : j ≤ l.length) (hk : k ≤ l.length) : cutS ⟨l.toArray⟩ (some (j : Int)) (some (k : Int)) = ⟨((l.drop j).take (k - j)).toArray⟩ := by
  unfold cutS
  have e : (⟨l.toArray⟩ : Str).length = l.length := by rw [len_tl, tl_mk]
  rw [e, HT.sIx_nat, HT.sIx_nat, Nat.min_eq_left hj, Nat.min_eq_left hk]
theorem str_add (l k : List Nat) : (⟨l.toArray⟩ : Str) ++ (⟨k.toArray⟩ : Str) = ⟨(l ++ k).toArray⟩ := by
  refine ext_tl ?_
  rw [tl_append, tl_mk, tl_mk, tl_mk]
section
variable {P : Program} {w : World} {K : PySem.W.Frag} {mg : Str → Option Value} {base : Heap}
abbrev s__law_names : Stmt := top 21
theorem sc__law_names : FnScope ["_law_box_here", "_law_many", "_law_letters_here", "_law_words", "_law_way", "_law_first", "_law_stem", "_law_at", "_law_found", "_law_k", "_law_sign"] ["_law_box_here", "_law_many"] (defScope s__law_names) := ⟨rfl, rfl, rfl, by decide +kernel, rfl, by decide +kernel, by decide +kernel⟩

set_option maxHeartbeats 1000000 in
theorem ok_names (bt : Bt mg) (p__law_take : Prom P w K mg base 1 "_law_take" ["_law_box_here", "_law_many"] spTake) (D : Def K mg "_law_names" s__law_names) : Prom P w K mg base 2 "_law_names" ["_law_box_here", "_law_many"] spNames := by
  refine prom_mk D sc__law_names (fun vs H Q E h => ?_) (fun _ _ _ _ _ _ us hl => match us, hl with | [_, _], _ => rfl) (fun f cdv A outer s H vs Q E hr h => ?_)
  · obtain ⟨b, n, m, rfl, _⟩ := h
    rfl
  · obtain ⟨b, n, m, rfl, hm, hb, q⟩ := h
    refine ⟨_, (pss_cons (ps_set (i := 2) sc__law_names.nd rfl (Or.inr rfl) pe_str)
      (pss_cons (ps_set (i := 3) sc__law_names.nd rfl (Or.inr rfl) (pe_split pe_str pe_str))
      (pss_cons (ps_set (i := 4) sc__law_names.nd rfl (Or.inl rfl) (pe_pc p__law_take (hr.mono (by decide)) rfl (pa_cons (pv 0) (pa_cons pe_int pa_nil))))
      (pss_cons (ps_set (i := 5) sc__law_names.nd rfl (Or.inr rfl) (pe_pc p__law_take (hr.mono (by decide)) rfl (pa_cons (pv 0) (pa_cons pe_int pa_nil))))
      (pss_cons (ps_if (pt_cmpR op_eq (pv 4) pe_int (nomark _)) (pss_one (ps_ret (pe_lc (own := [("_law_k", 9)]) (g := gName 9) rfl sc__law_names.nd (pi_range1 rfl bt.range_ (pa_cons (pv 1) pa_nil)) (blkOk_by (N := ["_law_box_here", "_law_many", "_law_letters_here", "_law_words", "_law_way", "_law_first", "_law_stem", "_law_at", "_law_found", "_law_k", "_law_sign"]) (sc := defScope s__law_names) (by decide +kernel)) (fun _ _ _ _ _ => (pg_name (i := 9) sc__law_names.nd rfl (Or.inl rfl))) (fun _ _ _ _ _ => pts_nil) (fun _ _ _ _ _ => (pe_ix (ix_listK (K := K)) (pv 3) (pe_op op_mod (pe_op op_add (pv 5) (pe_op op_mul pe_int (pv 9))) pe_int) (fun _ _ => rfl)))))) pss_nil)
      (pss_cons (ps_set (i := 6) sc__law_names.nd rfl (Or.inr rfl) (pe_joinK (K := K) rfl pe_str (pe_lc (own := [("_law_k", 9)]) (g := gName 9) rfl sc__law_names.nd (pi_range1 rfl bt.range_ (pa_cons pe_int pa_nil)) (blkOk_by (N := ["_law_box_here", "_law_many", "_law_letters_here", "_law_words", "_law_way", "_law_first", "_law_stem", "_law_at", "_law_found", "_law_k", "_law_sign"]) (sc := defScope s__law_names) (by decide +kernel)) (fun _ _ _ _ _ => (pg_name (i := 9) sc__law_names.nd rfl (Or.inl rfl))) (fun _ _ _ _ _ => pts_nil) (fun _ _ _ _ _ => (pe_ix ix_str (pv 2) (pe_pc p__law_take (hr.mono (by decide)) rfl (pa_cons (pv 0) (pa_cons pe_int pa_nil))) (fun _ _ => rfl))))))
      (pss_cons (ps_if (PW.pt (pw_and (pt_cmpR op_eq (pv 4) pe_int (nomark _)) (pw_and1 (pt_cmpR op_lt (pv 1) pe_int (nomark _))))) (pss_one (ps_ret (pe_lc (own := [("_law_k", 9)]) (g := gName 9) rfl sc__law_names.nd (pi_range1 rfl bt.range_ (pa_cons (pv 1) pa_nil)) (blkOk_by (N := ["_law_box_here", "_law_many", "_law_letters_here", "_law_words", "_law_way", "_law_first", "_law_stem", "_law_at", "_law_found", "_law_k", "_law_sign"]) (sc := defScope s__law_names) (by decide +kernel)) (fun _ _ _ _ _ => (pg_name (i := 9) sc__law_names.nd rfl (Or.inl rfl))) (fun _ _ _ _ _ => pts_nil) (fun _ _ _ _ _ => (pe_slice sl_str (pv 6) po_none (po_some (pe_op op_add pe_int (pe_op op_mod (pe_op op_add (pv 5) (pe_op op_mul pe_int (pv 9))) pe_int)))))))) pss_nil)
      (pss_cons (ps_set (i := 7) sc__law_names.nd rfl (Or.inl rfl) (pe_pc p__law_take (hr.mono (by decide)) rfl (pa_cons (pv 0) (pa_cons pe_int pa_nil))))
      (pss_cons (ps_set (i := 8) sc__law_names.nd rfl (Or.inl rfl) (pe_lst pa_nil))
      (pss_cons (ps_for PassesOwn.never rfl (pi_range1 rfl bt.range_ (pa_cons (pv 1) pa_nil)) (pg_name (i := 9) sc__law_names.nd rfl (Or.inl rfl)) (pss_cons (ps_set (i := 10) sc__law_names.nd rfl (Or.inl rfl) (pe_ix ix_str (pv 2) (pe_op op_mod (pe_op op_add (pv 5) (pe_op op_mul pe_int (pv 9))) pe_int) (fun _ _ => rfl)))
      (pss_one (ps_expr (pe_appendK (K := K) rfl (pv 8) (pe_op op_add_str (pe_op op_add_str (pe_slice sl_str (pv 6) po_none (po_some (pv 7))) (pv 10)) (pe_slice sl_str (pv 6) (po_some (pv 7)) (po_some (pe_op op_sub pe_int (pe_op op_mod (pe_op op_add (pv 5) (pv 9)) pe_int))))))))))
      (pss_one (ps_ret (pv 8))))))))))))), ?_⟩
    refine ⟨⟨_, rfl⟩, _, _, rfl, rfl, by decide +kernel, by decide +kernel, fun W hW => ?_⟩
    have ew : Txt.split "put take ask meets above rule shelf tree f g c n" " " = w12 := by decide +kernel
    rw [ew]
    have d0 : Dr b (n + 11) H (L2.upd H W (.lst (w12.map V.str))) := (Dr.refl hb).new hW
    have nW := (Dr.refl hb).ne hW
    have eW : (L2.upd H W (.lst (w12.map V.str))) W = some (.lst (w12.map V.str)) := upd_same ..
    generalize L2.upd H W (.lst (w12.map V.str)) = H0 at d0 eW ⊢
    refine ⟨_, rfl, b, _, n + 10, 4, rfl, d0.bag.choose_spec.1, d0.bag.choose_spec.2, by decide, by decide +kernel, fun wy o1 w0 w1 g1 => ?_⟩
    have d1 := Dr.draw (H := H0) (b := b) g1
    generalize L2.upd H0 b o1 = H1 at d1 ⊢
    refine ⟨_, rfl, b, _, n + 9, 26, rfl, d1.bag.choose_spec.1, d1.bag.choose_spec.2, by decide, by decide +kernel, fun fi o2 f0 f1 g2 => ?_⟩
    have d2 := Dr.draw (H := H1) (b := b) g2
    generalize L2.upd H1 b o2 = H2 at d2 ⊢
    obtain ⟨fn, rfl⟩ : ∃ k : Nat, fi = k := ⟨fi.toNat, by omega⟩
    have hfn : fn < 26 := by omega
    have D2 := d0.trans (d1.trans d2)
    have eW2 := (d1.trans d2).at nW eW
    refine ⟨_, rfl, rfl, _, rfl, ite2 (fun c => ?_) (fun c => ?_)⟩
    · refine ⟨_, rfl, _, rfl, by omega, by omega, fun L hL => ?_⟩
      refine lc_sameF walk_range (fun _ _ => trivial) (by omega) hL (fun k => .str (w12.getD ((fn + 5 * k) % 12) "")) (fun _ => rfl) (fun i H3 C hi s3 k => ?_) (fun H3 s3 e3 => ?_)
      · have hk : (fn + 5 * i) % 12 < w12.length := Nat.mod_lt _ (by decide)
        refine ⟨_, rfl, _, rfl, _, rfl, _, _, rfl, rfl, .inl ⟨by decide, by decide⟩, _, _, rfl, rfl, _, _, rfl, rfl, (by show (0 : Int) < 12; decide), W, _, _, _, rfl, rfl, .inl (.inl (s3 _ _ eW2)), ?_, k _ (Same.refl _)⟩
        rw [show ((fn : Int) + 5 * (0 + (i : Int))) % 12 = (((fn + 5 * i) % 12 : Nat) : Int) by omega]
        refine atI_nat ?_
        rw [List.getElem?_map, List.getD_eq_getElem?_getD, List.getElem?_eq_getElem hk]
        rfl
      · rw [Int.toNat_natCast] at e3
        refine q H3 L ((List.range m).map fun k => w12.getD ((fn + 5 * k) % 12) "") ((D2.trans (Dr.same s3 D2.bag)).mono (by omega)) (names0 hfn hm) (D2.ne hL) ?_
        rw [e3, List.map_map]
        rfl
    · refine ⟨⟨_, rfl⟩, _, rfl, by decide, by decide, fun L hL => ?_⟩
      refine lc_draw (k := 1) (N := n + 1) walk_range (fun _ _ v => ∃ c : Nat, v = .str ⟨#[c]⟩ ∧ 97 ≤ c ∧ c ≤ 122) (fun _ _ _ _ _ h => h) (fun _ _ => trivial) (by decide) hL D2.bag (fun _ => rfl) (fun i k H3 C hi fx hb3 hD3 kk => ?_) (fun H3 xs d3 hl hx e3 neL => ?_)
      · refine ⟨_, rfl, _, rfl, b, _, k, 26, rfl, hb3.choose_spec.1, hb3.choose_spec.2, by decide, by decide +kernel, fun c o3 c0 c1 g3 => ?_⟩
        have d3 := Dr.draw (H := H3) (b := b) g3
        generalize L2.upd H3 b o3 = H4 at d3 ⊢
        have cc : (SMALLs.cps.toList)[c.toNat]? = some (97 + c.toNat) := (by decide +kernel : ∀ j ∈ List.range 26, (SMALLs.cps.toList)[j]? = some (97 + j)) _ (List.mem_range.mpr (by omega))
        have at_ := atI_nat cc
        rw [show ((c.toNat : Nat) : Int) = c by omega] at at_
        exact ⟨_, _, _, rfl, rfl, by decide +kernel, at_, kk _ H4 ⟨_, rfl, by omega, by omega⟩ d3⟩
      · have stx : ∃ st : List Nat, xs = (st.map fun c => V.str ⟨#[c]⟩) ∧ Small st := by
          refine strs_of fun v hv => ?_
          obtain ⟨i, hi⟩ := List.mem_iff_getElem?.mp hv
          obtain ⟨c, e, h⟩ := hx i v hi
          exact ⟨c, e, h⟩
        obtain ⟨st, rfl, hst⟩ := stx
        have h8 : st.length = 8 := by rw [List.length_map] at hl; exact hl
        have ej : Txt.join "" (st.map fun c => (⟨#[c]⟩ : Str)) = ⟨st.toArray⟩ := join_signs st
        refine ⟨_, L, st.map fun c => ⟨#[c]⟩, rfl, rfl, .inl (.inl (.inl (by rw [e3, List.map_map]; rfl))), ?_, ?_⟩
        · have : ((st.map fun c => (⟨#[c]⟩ : Str)).map (·.length)).sum ≤ (st.map fun c => (⟨#[c]⟩ : Str)).length * 1 := sum_len fun z hz => by
            obtain ⟨c, _, rfl⟩ := List.mem_map.mp hz
            exact Nat.le_refl 1
          have e0 : ("" : Str).length = 0 := by decide +kernel
          rw [e0]
          rw [List.length_map] at this
          omega
        · rw [ej]
          have D3 := D2.trans d3
          by_cases hh : wy = 1 ∧ m < 9
          · refine ⟨_, rfl, rfl, _, rfl, iteT' (by rw [eqV_int]; exact decide_eq_true hh.1) ⟨_, rfl, _, _, rfl, rfl, _, rfl, iteT' (decide_eq_true (by omega)) ?_⟩⟩
            refine ⟨_, rfl, _, rfl, by omega, by omega, fun L2 hL2 => ?_⟩
            refine lc_sameF walk_range (fun _ _ => trivial) (by omega) hL2 (fun k => .str ⟨(st.take (1 + (fn + 3 * k) % 8)).toArray⟩) (fun _ => rfl) (fun i H4 C hi s4 k => ?_) (fun H4 s4 e4 => ?_)
            · refine ⟨_, rfl, _, rfl, _, rfl, _, _, rfl, rfl, .inl ⟨by decide, by decide⟩, _, _, rfl, rfl, _, _, rfl, rfl, (by show (0 : Int) < 8; decide), _, _, rfl, rfl, _, rfl, _, rfl, ?_, ?_⟩
              · rw [len_tl, tl_mk, h8]; decide
              · rw [show (1 : Int) + ((fn : Int) + 3 * (0 + (i : Int))) % 8 = ((1 + (fn + 3 * i) % 8 : Nat) : Int) by omega, cut_to (by rw [h8]; omega)]
                exact k _ (Same.refl _)
            · rw [Int.toNat_natCast] at e4
              refine q H4 L2 ((List.range m).map fun k => ⟨(st.take (1 + (fn + 3 * k) % 8)).toArray⟩) ((D3.trans (Dr.same s4 D3.bag)).mono (by omega)) (names1 hst h8 hfn (by omega)) (D3.ne hL2) ?_
              rw [e4, List.map_map]
              rfl
          · refine ⟨_, rfl, rfl, _, rfl, andR ?_ fun c1 r => ⟨_, rfl, _, _, rfl, rfl, _, rfl, iteF' (decide_eq_false fun z => hh ⟨?_, by omega⟩) r⟩⟩
            · refine ⟨_, rfl, b, _, n, 8, rfl, D3.bag.choose_spec.1, D3.bag.choose_spec.2, by decide, by decide +kernel, fun at_ o4 a0 a1 g4 => ?_⟩
              have d4 := Dr.draw (H := H3) (b := b) g4
              generalize L2.upd H3 b o4 = H4 at d4 ⊢
              obtain ⟨an, rfl⟩ : ∃ k : Nat, at_ = k := ⟨at_.toNat, by omega⟩
              have D4 := D3.trans d4
              refine ⟨(by show 0 ≤ sizeLine; decide), fun F hF => ?_⟩
              have nF := D4.ne hF
              refine ⟨_, rfl, _, rfl, by omega, by omega, for_it walk_range (fun i τ G => (∃ y1 y2, τ = [some (.ref b), some (.int m), some (.str SMALLs), some (.ref W), some (.int wy), some (.int fn), some (.str ⟨st.toArray⟩), some (.int an), some (.ref F), y1, y2]) ∧
                Dr b n H4 G ∧ G F = some (.lst ((List.range i).map fun k => V.str ⟨(st.take an ++ [97 + (fn + 7 * k) % 26] ++ (st.drop an).take (7 - (fn + k) % 2 - an)).toArray⟩))) ⟨⟨_, _, rfl⟩, .same (Same.new (Same.refl _) hF) d4.bag, upd_same ..⟩ (fun _ _ _ _ _ => trivial) ?_ ?_⟩
              · rintro i x τ G1 G2 hi ⟨⟨y1, y2, rfl⟩, dG, eF⟩ ⟨rfl, rfl⟩
                have cc : (SMALLs.cps.toList)[(fn + 7 * i) % 26]? = some (97 + (fn + 7 * i) % 26) := (by decide +kernel : ∀ j ∈ List.range 26, (SMALLs.cps.toList)[j]? = some (97 + j)) _ (List.mem_range.mpr (by omega))
                have at_ := atI_nat cc
                rw [show (((fn + 7 * i) % 26 : Nat) : Int) = ((fn : Int) + 7 * (0 + (i : Int))) % 26 by omega] at at_
                refine ⟨_, rfl, _, rfl, _, rfl, _, _, rfl, rfl, .inl ⟨by decide, by decide⟩, _, _, rfl, rfl, _, _, rfl, rfl, (by show (0 : Int) < 26; decide), _, _, _, rfl, rfl, by decide +kernel, at_, ?_⟩
                have l8 : (⟨st.toArray⟩ : Str).length = 8 := by rw [len_tl, tl_mk, h8]
                refine ⟨_, rfl, .inl ⟨rfl, _, .inl (.inl eF)⟩, _, rfl, _, rfl, _, rfl, _, rfl, (by rw [l8]; decide), _, rfl, _, _, rfl, rfl, ?_, _, rfl, _, rfl, _, rfl, _, rfl, _, rfl, _, _, rfl, rfl, _, _, rfl, rfl, (by show (0 : Int) < 2; decide), _, _, rfl, rfl, _, rfl, _, rfl, (by rw [l8]; decide), _, _, rfl, rfl, ?_, ?_⟩
                · rw [cut_to (by rw [h8]; omega), len_tl, tl_mk]
                  refine sz5 ?_
                  have : (⟨#[97 + (fn + 7 * i) % 26]⟩ : Str).length = 1 := rfl
                  rw [this, List.length_take]
                  omega
                · rw [cut_to (by rw [h8]; omega), show (7 : Int) - ((fn : Int) + (0 + (i : Int))) % 2 = ((7 - (fn + i) % 2 : Nat) : Int) by omega, cut_in (by rw [h8]; omega) (by rw [h8]; omega), show (⟨#[97 + (fn + 7 * i) % 26]⟩ : Str) = ⟨[97 + (fn + 7 * i) % 26].toArray⟩ from rfl, str_add, len_tl, len_tl, tl_mk, tl_mk]
                  refine sz5 ?_
                  simp only [List.length_append, List.length_take, List.length_drop, List.length_singleton]
                  omega
                · rw [cut_to (by rw [h8]; omega), show (7 : Int) - ((fn : Int) + (0 + (i : Int))) % 2 = ((7 - (fn + i) % 2 : Nat) : Int) by omega, cut_in (by rw [h8]; omega) (by rw [h8]; omega), show (⟨#[97 + (fn + 7 * i) % 26]⟩ : Str) = ⟨[97 + (fn + 7 * i) % 26].toArray⟩ from rfl, str_add, str_add]
                  refine ⟨F, _, _, rfl, rfl, eF, ?_, ⟨_, _, rfl⟩, ?_, ?_⟩
                  · rw [List.length_map, List.length_range]
                    exact sz5' (by omega)
                  · refine ⟨fun a o ha e => ?_, ?_⟩
                    · rw [upd_ne (ne_of_none e hF)]
                      exact dG.fx a o ha e
                    · obtain ⟨o, e, g⟩ := dG.bag
                      exact ⟨o, by rw [upd_ne nF.symm]; exact e, g⟩
                  · rw [upd_same, List.range_succ, List.map_append]
                    rfl
              · rintro τ G ⟨⟨y1, y2, rfl⟩, dG, eF⟩
                rw [Int.toNat_natCast] at eF
                refine ⟨_, rfl, q G F ((List.range m).map fun k => ⟨(st.take an ++ [97 + (fn + 7 * k) % 26] ++ (st.drop an).take (7 - (fn + k) % 2 - an)).toArray⟩) (D4.trans dG) (names2 hst h8 (by omega) hfn hm) nF ?_⟩
                rw [eF, List.map_map]
                rfl
            · rw [eqV_int] at c1
              exact of_decide_eq_true c1
end

end TS

namespace TS
open PySem PySem.Spec PyProof.Rows L2 TL

/-! ### rows, drawn -/
def rowPy (r : Str × Int) : PyData := .tuple [.str r.1, .int r.2]
structure RowsOk (rows : List (Str × Int)) : Prop where
  some_ : 1 ≤ rows.length
  few : rows.length ≤ 12
  names : ∀ r ∈ rows, nameS r.1 = true
  nd : (rows.map (·.1)).Nodup
  lo : ∀ r ∈ rows, 0 ≤ r.2
  hi : ∀ r ∈ rows, r.2 ≤ 4
/-- rows that were drawn -/
def spDRows (K : PySem.W.Frag) : Sp := fun vs H Q _ => ∃ (b : Addr) (n : Nat), vs = [.ref b] ∧ (∃ o, H b = some o ∧ Bag (n + 26) o) ∧
  ∀ H' p rows, Dr b n H H' → RowsOk rows → H p = none → Dt K (hide H' b) (.ref p) (.list (rows.map rowPy)) → Q (.ref p) H'
theorem rows_of {K : PySem.W.Frag} {G : Hp} : ∀ (ns : List Str) (xs : List V), xs.length = ns.length → (∀ (i : Nat) (v : V), xs[i]? = some v → ∃ p : Int, 0 ≤ p ∧ p ≤ 4 ∧ Dt K G v (rowPy (ns.getD i "", p))) →
    ∃ rows : List (Str × Int), rows.map (·.1) = ns ∧ (∀ r ∈ rows, 0 ≤ r.2 ∧ r.2 ≤ 4) ∧ DtAll K G xs (rows.map rowPy)
  | [], [], _, _ => ⟨[], rfl, fun r h => by simp at h, .nil⟩
  | z :: ns, x :: xs, hl, h => by
    obtain ⟨p, h0, h1, h2⟩ := h 0 x rfl
    obtain ⟨rows, e, a, d⟩ := rows_of (K := K) (G := G) ns xs (by simpa using hl) fun i v hv => h (i + 1) v (by simpa using hv)
    refine ⟨(z, p) :: rows, by rw [List.map_cons, e], fun r hr => ?_, .cons h2 d⟩
    rcases List.mem_cons.mp hr with e | m
    · rw [e]; exact ⟨h0, h1⟩
    · exact a r m
section
variable {P : Program} {w : World} {K : PySem.W.Frag} {mg : Str → Option Value} {base : Heap}
abbrev s__law_rows : Stmt := top 22
theorem sc__law_rows : FnScope ["_law_box_here", "_law_many", "_law_name"] ["_law_box_here"] (defScope s__law_rows) := ⟨rfl, rfl, rfl, by decide +kernel, rfl, by decide +kernel, by decide +kernel⟩

set_option maxHeartbeats 1000000 in
theorem ok_drows (bt : Bt mg) (p__law_take : Prom P w K mg base 1 "_law_take" ["_law_box_here", "_law_many"] spTake) (p__law_names : Prom P w K mg base 2 "_law_names" ["_law_box_here", "_law_many"] spNames) (D : Def K mg "_law_rows" s__law_rows) :
    Prom P w K mg base 3 "_law_rows" ["_law_box_here"] (spDRows K) := by
  refine prom_mk D sc__law_rows (fun vs H Q E h => ?_) (fun _ _ _ _ _ _ us hl => match us, hl with | [_], _ => rfl) (fun f cdv A outer s H vs Q E hr h => ?_)
  · obtain ⟨b, n, rfl, _⟩ := h
    rfl
  · obtain ⟨b, n, rfl, hb, q⟩ := h
    refine ⟨_, (pss_cons (ps_set (i := 1) sc__law_rows.nd rfl (Or.inl rfl) (pe_ix (ix_listK (K := K)) (pe_lst (pa_cons (pe_op op_add pe_int (pe_pc p__law_take (hr.mono (by decide)) rfl (pa_cons (pv 0) (pa_cons pe_int pa_nil)))) (pa_cons (pe_op op_add pe_int (pe_pc p__law_take (hr.mono (by decide)) rfl (pa_cons (pv 0) (pa_cons pe_int pa_nil)))) pa_nil))) (pe_pc p__law_take (hr.mono (by decide)) rfl (pa_cons (pv 0) (pa_cons pe_int pa_nil))) (fun _ _ => rfl)))
      (pss_one (ps_ret (pe_lc (own := [("_law_name", 2)]) (g := gName 2) rfl sc__law_rows.nd (pi_listK (K := K) rfl (pe_pc p__law_names (hr.mono (by decide)) rfl (pa_cons (pv 0) (pa_cons (pv 1) pa_nil)))) (blkOk_by (N := ["_law_box_here", "_law_many", "_law_name"]) (sc := defScope s__law_rows) (by decide +kernel)) (fun _ _ _ _ _ => (pg_name (i := 2) sc__law_rows.nd rfl (Or.inl rfl))) (fun _ _ _ _ _ => pts_nil) (fun _ _ _ _ _ => (pe_tup (pa_cons (pv 2) (pa_cons (pe_ix (ix_listK (K := K)) (pe_lst (pa_cons pe_int (pa_cons pe_int (pa_cons pe_int (pa_cons pe_int (pa_cons pe_int (pa_cons pe_int pa_nil))))))) (pe_pc p__law_take (hr.mono (by decide)) rfl (pa_cons (pv 0) (pa_cons pe_int pa_nil))) (fun _ _ => rfl)) pa_nil)))))))), ?_⟩
    refine ⟨_, rfl, b, _, n + 25, 4, rfl, hb.choose_spec.1, hb.choose_spec.2, by decide, by decide +kernel, fun x1 o1 l1 u1 g1 => ?_⟩
    have d1 := Dr.draw (H := H) (b := b) g1
    generalize L2.upd H b o1 = H1 at d1 ⊢
    refine ⟨_, _, rfl, rfl, _, rfl, b, _, n + 24, 12, rfl, d1.bag.choose_spec.1, d1.bag.choose_spec.2, by decide, by decide +kernel, fun x2 o2 l2 u2 g2 => ?_⟩
    have d2 := Dr.draw (H := H1) (b := b) g2
    generalize L2.upd H1 b o2 = H2 at d2 ⊢
    refine ⟨_, _, rfl, rfl, (by show 2 ≤ sizeLine; decide), fun L hL => ?_⟩
    have d3 : Dr b (n + 24) H2 (L2.upd H2 L (.lst [.int (1 + x1), .int (1 + x2)])) := (Dr.refl d2.bag).new hL
    have nL := d2.ne hL
    have eL : (L2.upd H2 L (.lst [.int (1 + x1), .int (1 + x2)])) L = some (.lst [.int (1 + x1), .int (1 + x2)]) := upd_same ..
    generalize L2.upd H2 L (.lst [.int (1 + x1), .int (1 + x2)]) = H3 at d3 eL ⊢
    refine ⟨_, rfl, b, _, n + 23, 2, rfl, d3.bag.choose_spec.1, d3.bag.choose_spec.2, by decide, by decide +kernel, fun x3 o3 l3 u3 g3 => ?_⟩
    have d4 := Dr.draw (H := H3) (b := b) g3
    generalize L2.upd H3 b o3 = H4 at d4 ⊢
    obtain ⟨mv, hmv, hmem⟩ := atI_in (xs := [V.int (1 + x1), .int (1 + x2)]) l3 u3
    obtain ⟨m, rfl, hm1, hm2⟩ : ∃ m : Nat, mv = .int m ∧ 1 ≤ m ∧ m ≤ 12 := by
      rcases List.mem_cons.mp hmem with rfl | hmem
      · exact ⟨(1 + x1).toNat, by rw [show (((1 + x1).toNat : Nat) : Int) = 1 + x1 by omega], by omega, by omega⟩
      · rw [List.mem_singleton.mp hmem]
        exact ⟨(1 + x2).toNat, by rw [show (((1 + x2).toNat : Nat) : Int) = 1 + x2 by omega], by omega, by omega⟩
    refine ⟨L, _, _, _, rfl, rfl, .inl (.inl (d4.at nL eL)), hmv, ?_⟩
    have D4 := d1.trans (d2.trans (d3.trans d4))
    refine ⟨_, rfl, _, rfl, b, n + 12, m, rfl, hm2, D4.bag, fun H5 p ns d5 hns np ep => ?_⟩
    have D5 := D4.trans d5
    refine ⟨p, rfl, ⟨_, .inl (.inl ep)⟩, fun R hR => ?_⟩
    have hl : (ns.map V.str).length = m := by rw [List.length_map]; exact hns.1
    refine lc_draw (k := 1) (N := n + 12 - m) (walk_at walk_list) (fun i G v => ∃ p : Int, 0 ≤ p ∧ p ≤ 4 ∧ Dt K G v (rowPy (ns.getD i "", p))) (fun i G G' v s h => let ⟨p, h0, h1, h2⟩ := h; ⟨p, h0, h1, Dt.same s h2⟩)
      (fun G fx => fx.sq np (.inl (.inl ep))) (by rw [hl]; omega) hR (by rw [hl, show n + 12 - m + 1 * m = n + 12 by omega]; exact D5.bag) (fun _ => rfl) (fun i k G C hi fx hb3 hD3 kk => ?_) (fun G xs dG hlx hx eR neR => ?_)
    · have hni : i < ns.length := by rw [List.length_map] at hl hi; omega
      have ei : (ns.map V.str).getD i .non = .str (ns.getD i "") := by
        rw [List.getD_eq_getElem?_getD, List.getD_eq_getElem?_getD, List.getElem?_map, List.getElem?_eq_getElem hni]
        rfl
      rw [ei]
      refine ⟨_, rfl, (by show 6 ≤ sizeLine; decide), fun pl hpl => ?_⟩
      have e1 : Dr b (k + 1) G (L2.upd G pl (.lst [.int 0, .int 1, .int 2, .int 2, .int 3, .int 4])) := (Dr.refl hb3).new hpl
      have npl := (Dr.refl hb3).ne hpl
      have epl : (L2.upd G pl (.lst [.int 0, .int 1, .int 2, .int 2, .int 3, .int 4])) pl = some (.lst [.int 0, .int 1, .int 2, .int 2, .int 3, .int 4]) := upd_same ..
      generalize L2.upd G pl (.lst [.int 0, .int 1, .int 2, .int 2, .int 3, .int 4]) = G1 at e1 epl ⊢
      refine ⟨_, rfl, b, _, k, 6, rfl, e1.bag.choose_spec.1, e1.bag.choose_spec.2, by decide, by decide +kernel, fun x o4 x0 x1 g4 => ?_⟩
      have e2 := Dr.draw (H := G1) (b := b) g4
      generalize L2.upd G1 b o4 = G2 at e2 ⊢
      obtain ⟨v, hv, hvm⟩ := atI_in (xs := [V.int 0, .int 1, .int 2, .int 2, .int 3, .int 4]) x0 x1
      obtain ⟨pp, rfl, p0, p4⟩ : ∃ pp : Int, v = .int pp ∧ 0 ≤ pp ∧ pp ≤ 4 := by
        simp only [List.mem_cons, List.not_mem_nil, or_false] at hvm
        rcases hvm with rfl | rfl | rfl | rfl | rfl | rfl <;> exact ⟨_, rfl, by decide, by decide⟩
      refine ⟨pl, _, _, _, rfl, rfl, .inl (.inl (e2.at npl epl)), hv, (by show 2 ≤ sizeLine; decide), fun t ht => ?_⟩
      have E2 := e1.trans e2
      refine kk _ _ ⟨pp, p0, p4, .tup (.inl (.inl (hide2_at (E2.ne ht) ?_ (upd_same ..)))) (.cons (.str _) (.cons (.int pp) .nil))⟩ (E2.new ht)
      obtain ⟨oR, eoR⟩ := hD3
      have neR : R ≠ b := D5.ne hR
      have := E2.at neR eoR
      exact fun z => by rw [z, this] at ht; cases ht
    · obtain ⟨rows, er, e1, e2⟩ := rows_of (K := K) (G := hide G b) ns xs (by rw [hlx, List.length_map]) fun i v hv => by
        obtain ⟨p, h0, h1, h2⟩ := hx i v hv
        exact ⟨p, h0, h1, Dt.same hide_same h2⟩
      have len : rows.length = m := by rw [← hns.1, ← er, List.length_map]
      refine q G R rows ((D5.trans dG).mono (by omega)) ⟨by omega, by omega, fun r hr => hns.2.1 _ (by rw [← er]; exact List.mem_map_of_mem hr), by rw [er]; exact hns.2.2, fun r hr => (e1 r hr).1, fun r hr => (e1 r hr).2⟩ (D5.free hR) (.lst (.inl (.inl ?_)) e2)
      rw [hide_ne neR]
      exact eR
end

end TS

namespace TS
open PySem PySem.Spec PyProof.Rows L2 TL

/-! ### the law's own look at names -/
theorem lt_one (a b : Nat) : decide (([a] : List Nat) < [b]) = decide (a < b) := by
  by_cases h : a < b
  · rw [decide_eq_true h]
    exact decide_eq_true (List.cons_lt_cons_iff.mpr (.inl h))
  · rw [decide_eq_false h]
    refine decide_eq_false fun z => ?_
    rcases List.cons_lt_cons_iff.mp z with z | ⟨_, z⟩
    · exact h z
    · exact absurd z (by simp)
def isS (c : Nat) : Bool := decide (97 ≤ c) && decide (c ≤ 122)
theorem filter_take {p : Nat → Bool} {l : List Nat} {i c : Nat} (h : l[i]? = some c) : (l.take (i + 1)).filter p = if p c = true then (l.take i).filter p ++ [c] else (l.take i).filter p := by
  rw [List.take_add_one, h, List.filter_append]
  cases hp : p c <;> simp [hp]
theorem small_filter (l : List Nat) : ((l.filter fun c => !isS c).map fun c => V.str ⟨#[c]⟩).isEmpty = l.all isS := by
  induction l with
  | nil => rfl
  | cons c r ih =>
    cases h : isS c with
    | true => rw [List.filter_cons_of_neg (by simp [h]), ih, List.all_cons, h]; rfl
    | false => rw [List.filter_cons_of_pos (by simp [h]), List.all_cons, h]; rfl
section
variable {P : Program} {w : World} {K : PySem.W.Frag} {mg : Str → Option Value} {base : Heap}
abbrev s__law_is_name : Stmt := top 25
theorem sc__law_is_name : FnScope ["_law_thing", "_law_sign"] ["_law_thing"] (defScope s__law_is_name) := ⟨rfl, rfl, rfl, by decide +kernel, rfl, by decide +kernel, by decide +kernel⟩

theorem ok_law_is_name (bt : Bt mg) (D : Def K mg "_law_is_name" s__law_is_name) : Prom P w K mg base 1 "_law_is_name" ["_law_thing"] (spName K) := by
  refine prom_mk D sc__law_is_name (fun vs H Q E h => ?_) (fun _ _ _ _ _ _ us hl => match us, hl with | [_], _ => rfl) (fun f cdv A outer s H vs Q E hr h => ?_)
  · obtain ⟨x, d, rfl, _⟩ := h
    rfl
  · obtain ⟨x, d, rfl, hd, hz, q⟩ := h
    refine ⟨_, (pss_cons (ps_if (PW.pt (pw_or (pt_not (pt_val (pe_callB (id := "isinstance") (isiK (K := K)) (by rfl) bt.isinstance_ (by decide +kernel) (pa_cons (pv 0) (pa_cons (pe_bltn (v := .ty "str") rfl bt.str_ (by decide +kernel) rfl) pa_nil))))) (pw_or1 (pt_not (pt_chain op_lt op_lt pe_int (pe_callB (id := "len") (lenK (K := K)) (by rfl) bt.len_ (by decide +kernel) (pa_cons (pv 0) pa_nil)) pe_int))))) (pss_one (ps_ret pe_bl)) pss_nil)
      (pss_one (ps_ret (pe_cmpR (op_eqNil (K := K) hr.units) (pe_lc (own := [("_law_sign", 1)]) (g := gName 1) rfl sc__law_is_name.nd (pi_str (pv 0)) (blkOk_by (N := ["_law_thing", "_law_sign"]) (sc := defScope s__law_is_name) (by decide +kernel)) (fun _ _ _ _ _ => (pg_name (i := 1) sc__law_is_name.nd rfl (Or.inl rfl))) (fun _ _ _ _ _ => (pts_one (pt_not (pt_chain op_le_str op_le_str pe_str (pv 1) pe_str)))) (fun _ _ _ _ _ => (pv 1))) (pe_lst pa_nil) (nomark _))))), ?_⟩
    refine ⟨_, rfl, _, _, _, _, isD "str" d, rfl, .ty "str", hd.ty, isi_str, _, rfl, ?_⟩
    cases c : isD "str" d with
    | false =>
      have e : nameD d = false := by
        cases d <;> first | rfl | (rw [isD_strs] at c; cases c)
      rw [e] at q
      exact iteT (iteT (q _ (Same.refl _)))
    | true =>
      obtain ⟨z, rfl⟩ := isD_str c
      cases hd
      have hz' := hz z rfl
      refine iteF ⟨_, rfl, _, _, rfl, ⟨sz5 hz', rfl⟩, _, _, rfl, rfl, _, rfl, ?_⟩
      replace q : ∀ G, Same H G → Q (.bl (nameS z)) G := q
      unfold nameS at q
      by_cases h1 : 1 ≤ z.length
      · rw [decide_eq_true (show (0 : Int) < (z.length : Nat) by omega)]
        rw [decide_eq_true h1] at q
        refine iteT ⟨_, _, rfl, rfl, _, rfl, ?_⟩
        by_cases h2 : z.length ≤ 8
        · rw [decide_eq_true (show ((z.length : Nat) : Int) < 9 by omega)]
          rw [decide_eq_true h2] at q
          refine iteF ⟨_, rfl, z, rfl, fun L hL => ?_⟩
          have sL : ∀ o : HO, Same H (L2.upd H L o) := fun o => Same.new (Same.refl _) hL
          refine lc_it walk_str (fun i G => G = L2.upd H L (.lst ((((tl z).take i).filter fun c => !isS c).map fun c => V.str ⟨#[c]⟩))) rfl (fun _ _ _ _ => trivial) ?_ ?_
          · rintro i x G1 G2 hi rfl ⟨rfl, c, hc, rfl⟩
            have hc' : (tl z)[i]? = some c := by rw [← hc]; simp [tl]
            have ft := filter_take (p := fun c => !isS c) hc'
            have ll : (((tl z).take i).filter fun c => !isS c).length ≤ 8 := by
              refine Nat.le_trans (List.length_filter_le _ _) ?_
              rw [List.length_take, ← len_tl]
              omega
            refine ⟨rfl, _, rfl, _, _, rfl, rfl, _, rfl, ?_⟩
            have la : (!decide ((⟨#[c]⟩ : Str).cps.toList < ("a" : Str).cps.toList)) = decide (97 ≤ c) := by
              show (!decide ([c] < [97])) = _
              rw [lt_one]
              by_cases h : c < 97
              · rw [decide_eq_true h, decide_eq_false (by omega)]; rfl
              · rw [decide_eq_false h, decide_eq_true (by omega)]; rfl
            have lz : (!decide (("z" : Str).cps.toList < (⟨#[c]⟩ : Str).cps.toList)) = decide (c ≤ 122) := by
              show (!decide ([122] < [c])) = _
              rw [lt_one]
              by_cases h : 122 < c
              · rw [decide_eq_true h, decide_eq_false (by omega)]; rfl
              · rw [decide_eq_false h, decide_eq_true (by omega)]; rfl
            rw [la]
            have step : ∀ C : Prop, True := fun _ => trivial
            cases h97 : decide (97 ≤ c) with
            | false =>
              have hs : isS c = false := by unfold isS; rw [h97]; rfl
              refine iteF ⟨_, rfl, iteT ⟨_, rfl, _, upd_same .., ?_, ?_⟩⟩
              · rw [List.length_map]; exact sz5' (by omega)
              · rw [upd_upd, ft, hs]
                simp
            | true =>
              refine iteT ⟨_, _, rfl, rfl, _, rfl, ?_⟩
              rw [lz]
              cases h122 : decide (c ≤ 122) with
              | false =>
                have hs : isS c = false := by unfold isS; rw [h122, Bool.and_false]
                refine iteT ⟨_, rfl, _, upd_same .., ?_, ?_⟩
                · rw [List.length_map]; exact sz5' (by omega)
                · rw [upd_upd, ft, hs]
                  simp
              | true =>
                have hs : isS c = true := by unfold isS; rw [h97, h122]; rfl
                refine iteF ?_
                rw [ft, hs]
                rfl
          · rintro G rfl
            have e : (tl z).take z.cps.size = tl z := List.take_of_length_le (by simp [tl])
            rw [e]
            refine ⟨(by show 0 ≤ sizeLine; decide), fun N hN => ⟨L, N, ((tl z).filter fun c => !isS c).map fun c => V.str ⟨#[c]⟩, rfl, rfl, .inl (.inl ?_), .inl (.inl (upd_same ..)), ?_⟩⟩
            · rw [upd_ne (ne_of_none (upd_same ..) hN)]
              exact upd_same ..
            · rw [small_filter]
              exact q _ ((sL _).trans (Same.new (Same.refl _) hN))
        · rw [decide_eq_false (show ¬ ((z.length : Nat) : Int) < 9 by omega)]
          rw [decide_eq_false h2] at q
          exact iteT (q _ (Same.refl _))
      · rw [decide_eq_false (show ¬ (0 : Int) < (z.length : Nat) by omega)]
        rw [decide_eq_false h1] at q
        exact iteF ⟨_, rfl, iteT (q _ (Same.refl _))⟩
end

end TS

namespace TS
open PySem PySem.Spec PyProof.Rows L2 TL

/-! ### the law's own look at rows -/
theorem rowsL_false {ds : List PyData} {i : Nat} {d : PyData} (h : ds[i]? = some d) (hd : rowD d = false) : rowsL ds = false := by
  unfold rowsL
  have : ds.all rowD = false := List.all_eq_false.mpr ⟨d, List.mem_of_getElem? h, by rw [hd]; decide⟩
  rw [this, Bool.false_and, Bool.and_false]
theorem rowsL_twice {ds : List PyData} {i : Nat} {d : PyData} (h : ds[i]? = some d) (hm : nmOf d ∈ (ds.take i).map nmOf) : rowsL ds = false := by
  unfold rowsL
  have : ¬ (ds.map nmOf).Nodup := fun nd => by
    obtain ⟨j, hj⟩ := List.mem_iff_getElem?.mp hm
    have jl : j < i := by
      have := (List.getElem?_eq_some_iff.mp hj).1
      rw [List.length_map, List.length_take] at this
      omega
    have il : i < ds.length := (List.getElem?_eq_some_iff.mp h).1
    have e : (ds.map nmOf)[j]? = (ds.map nmOf)[i]? := by
      rw [List.getElem?_map, List.getElem?_take_of_lt jl] at hj
      rw [List.getElem?_map, List.getElem?_map, hj, h]
      rfl
    have := (List.getElem?_inj (by rw [List.length_map]; omega) nd).mp e
    omega
  rw [decide_eq_false this, Bool.and_false, Bool.and_false]
theorem rowsL_true {ds : List PyData} (h1 : 1 ≤ ds.length) (h2 : ds.length ≤ 12) (a : ∀ d ∈ ds, rowD d = true) (nd : (ds.map nmOf).Nodup) : rowsL ds = true := by
  unfold rowsL
  rw [decide_eq_true h1, decide_eq_true h2, List.all_eq_true.mpr a, decide_eq_true nd]
  rfl
theorem inV_strs {z : Str} {l : List Str} : inV (.str z) (l.map V.str) = decide (z ∈ l) := by
  unfold inV
  rw [List.any_map]
  induction l with
  | nil => rfl
  | cons y r ih =>
    rw [List.any_cons, ih]
    show ((y == z) || decide (z ∈ r)) = _
    by_cases h : y = z
    · subst h; simp
    · have h' : ¬ z = y := fun e => h e.symm
      have e : (y == z) = false := by simpa using h
      rw [e]
      simp [h']
section
variable {P : Program} {w : World} {K : PySem.W.Frag} {mg : Str → Option Value} {base : Heap}
abbrev s__law_are_words : Stmt := top 26
theorem sc__law_are_words : FnScope ["_law_thing", "_law_seen", "_law_row"] ["_law_thing"] (defScope s__law_are_words) := ⟨rfl, rfl, rfl, by decide +kernel, rfl, by decide +kernel, by decide +kernel⟩

set_option maxHeartbeats 1000000 in
theorem ok_law_are_words (bt : Bt mg) (p__law_is_name : Prom P w K mg base 1 "_law_is_name" ["_law_thing"] (spName K)) (D : Def K mg "_law_are_words" s__law_are_words) : Prom P w K mg base 2 "_law_are_words" ["_law_thing"] (spRows K) := by
  refine prom_mk D sc__law_are_words (fun vs H Q E h => ?_) (fun _ _ _ _ _ _ us hl => match us, hl with | [_], _ => rfl) (fun f cdv A outer s H vs Q E hr h => ?_)
  · obtain ⟨x, d, rfl, _⟩ := h
    rfl
  · obtain ⟨x, d, rfl, hd, hw, hn, q⟩ := h
    refine ⟨_, (pss_cons (ps_if (PW.pt (pw_or (pt_not (pt_val (pe_callB (id := "isinstance") (isiTK (K := K)) (by rfl) bt.isinstance_ (by decide +kernel) (pa_cons (pv 0) (pa_cons (pe_tup (pa_cons (pe_bltn (v := .ty "list") rfl bt.list_ (by decide +kernel) rfl) (pa_cons (pe_bltn (v := .ty "tuple") rfl bt.tuple_ (by decide +kernel) rfl) pa_nil))) pa_nil))))) (pw_or1 (pt_not (pt_chain op_lt op_lt pe_int (pe_callB (id := "len") (lenK (K := K)) (by rfl) bt.len_ (by decide +kernel) (pa_cons (pv 0) pa_nil)) pe_int))))) (pss_one (ps_ret pe_bl)) pss_nil)
      (pss_cons (ps_set (i := 1) sc__law_are_words.nd rfl (Or.inl rfl) (pe_lst pa_nil))
      (pss_cons (ps_for PassesOwn.never rfl (pi_either (pi_listK (K := K) rfl (pv 0)) (pi_tupK (K := K) rfl (pv 0))) (pg_name (i := 2) sc__law_are_words.nd rfl (Or.inl rfl)) (pss_cons (ps_if (PW.pt (pw_or (pt_not (pt_val (pe_callB (id := "isinstance") (isiK (K := K)) (by rfl) bt.isinstance_ (by decide +kernel) (pa_cons (pv 2) (pa_cons (pe_bltn (v := .ty "tuple") rfl bt.tuple_ (by decide +kernel) rfl) pa_nil))))) (pw_or (pt_cmpR op_ne (pe_callB (id := "len") (lenK (K := K)) (by rfl) bt.len_ (by decide +kernel) (pa_cons (pv 2) pa_nil)) pe_int (nomark _)) (pw_or (pt_not (pt_val (pe_pc p__law_is_name (hr.mono (by decide)) rfl (pa_cons (pe_ix (ix_tupK (K := K)) (pv 2) pe_int (fun _ _ => rfl)) pa_nil)))) (pw_or1 (pt_cmpR (op_inK (K := K)) (pe_ix (ix_tupK (K := K)) (pv 2) pe_int (fun _ _ => rfl)) (pv 1) rfl)))))) (pss_one (ps_ret pe_bl)) pss_nil)
      (pss_cons (ps_if (PW.pt (pw_or (pt_not (pt_val (pe_callB (id := "isinstance") (isiK (K := K)) (by rfl) bt.isinstance_ (by decide +kernel) (pa_cons (pe_ix (ix_tupK (K := K)) (pv 2) pe_int (fun _ _ => rfl)) (pa_cons (pe_bltn (v := .ty "int") rfl bt.int_ (by decide +kernel) rfl) pa_nil))))) (pw_or (pt_val (pe_callB (id := "isinstance") (isiK (K := K)) (by rfl) bt.isinstance_ (by decide +kernel) (pa_cons (pe_ix (ix_tupK (K := K)) (pv 2) pe_int (fun _ _ => rfl)) (pa_cons (pe_bltn (v := .ty "bool") rfl bt.bool_ (by decide +kernel) rfl) pa_nil)))) (pw_or1 (pt_not (pt_chain op_le op_le pe_int (pe_ix (ix_tupK (K := K)) (pv 2) pe_int (fun _ _ => rfl)) pe_int)))))) (pss_one (ps_ret pe_bl)) pss_nil)
      (pss_one (ps_expr (pe_appendK (K := K) rfl (pv 1) (pe_ix (ix_tupK (K := K)) (pv 2) pe_int (fun _ _ => rfl))))))))
      (pss_one (ps_ret pe_bl))))), ?_⟩
    refine ⟨_, rfl, (by show 2 ≤ sizeLine; decide), fun T hT => ⟨_, T, [.ty "list", .ty "tuple"], _, _, isD "list" d || isD "tuple" d, rfl, upd_same .., .cons (.ty "list") (.cons (.ty "tuple") .nil), (Dt.same (Same.new (Same.refl _) hT) hd).ty, isi_lt, _, rfl, ?_⟩⟩
    have sT : Same H (L2.upd H T (.tup [.ty "list", .ty "tuple"])) := Same.new (Same.refl _) hT
    generalize L2.upd H T (.tup [.ty "list", .ty "tuple"]) = H0 at sT ⊢
    unfold rowsD at q
    cases c : (isD "list" d || isD "tuple" d) with
    | false =>
      rw [seq_nokind c] at q
      exact iteT (iteT (q _ sT))
    | true =>
      obtain ⟨ds, es⟩ := seq_kind c
      rw [es] at q
      obtain ⟨a, xs, rfl, hS, hA⟩ := (Dt.same sT hd).seq es
      have hl := hA.length
      replace q : ∀ G, Same H G → Q (.bl (rowsL ds)) G := q
      have h12 := hn ds es
      refine iteF ⟨_, rfl, _, _, rfl, hS.len, _, _, rfl, rfl, _, rfl, ?_⟩
      by_cases h1 : 1 ≤ ds.length
      · rw [decide_eq_true (show (0 : Int) < (xs.length : Nat) by omega)]
        refine iteT ⟨_, _, rfl, rfl, _, rfl, ?_⟩
        by_cases h2 : ds.length ≤ 12
        · rw [decide_eq_true (show ((xs.length : Nat) : Int) < 13 by omega)]
          refine iteF ⟨(by show 0 ≤ sizeLine; decide), fun S hSe => ?_⟩
          have sS : Same H0 (L2.upd H0 S (.lst [])) := Same.new (Same.refl _) hSe
          refine seq_it0 rfl hS sS fun J G wk hG => ?_
          have nS : H S = none := sT.free hSe
          refine for_it wk (fun i τ G' => (∃ y, τ = [some (.ref a), some (.ref S), y]) ∧ Same H0 G' ∧ Same H G' ∧ G' S = some (.lst (((ds.take i).map nmOf).map V.str)) ∧ (∀ d ∈ ds.take i, rowD d = true) ∧ ((ds.take i).map nmOf).Nodup)
            ⟨⟨_, rfl⟩, sS, sT.trans sS, upd_same .., by simp, by simp⟩ (fun i τ G' _ p => hG G' p.2.1) ?_ ?_
          · rintro i x τ G1 G2 hi ⟨⟨y, rfl⟩, s0, sH, eS, al, nd⟩ ⟨rfl, hx⟩
            obtain ⟨di, hdi, hx2⟩ := hA.get hx
            have hx3 := Dt.same s0 hx2
            have hwi := weight_seq hw es (List.mem_of_getElem? hdi)
            have no : rowsL ds = false → ∀ G, Same H G → Q (.bl false) G := fun e G sG => by
              have := q G sG
              rw [e] at this
              exact this
            refine ⟨_, rfl, _, _, _, _, isD "tuple" di, rfl, .ty "tuple", hx3.ty, isi_tuple, _, rfl, ?_⟩
            cases ct : isD "tuple" di with
            | false =>
              have e : rowD di = false := by
                cases di <;> first | rfl | (rw [isD_tuples] at ct; cases ct)
              exact iteT (iteT (no (rowsL_false hdi e) _ sH))
            | true =>
              obtain ⟨l, rfl⟩ := isD_tuple ct
              obtain ⟨r, ys, rfl, hrT, hrA⟩ := hx3.tup_inv
              have hrl := hrA.length
              refine iteF ⟨_, rfl, _, _, rfl, .inr ⟨ys, hrT, rfl⟩, rfl, _, rfl, ?_⟩
              rw [neV_int]
              by_cases hl2 : l.length = 2
              · obtain ⟨d0, d1, rfl⟩ := two_of hl2
                obtain ⟨x0, x1, rfl⟩ := two_of (hrl.trans hl2)
                cases hrA with
                | cons h0 t => cases t with
                | cons h1' t =>
                refine iteF' rfl ?_
                refine ⟨_, rfl, r, _, _, x0, rfl, rfl, hrT, rfl, x0, d0, rfl, h0, weight_strD (weight_tup hwi (by simp)), fun G3 s3 => ⟨_, rfl, ?_⟩⟩
                cases hnm : nameD d0 with
                | false => exact iteT (iteT (no (rowsL_false hdi (show (nameD d0 && wholeD 0 4 d1) = false by rw [hnm]; rfl)) _ (sH.trans s3)))
                | true =>
                  obtain ⟨z, rfl⟩ : ∃ z, d0 = .str z := by
                    cases d0 <;> first | exact ⟨_, rfl⟩ | cases hnm
                  cases h0
                  have eS3 := s3 _ _ eS
                  refine iteF ⟨_, rfl, r, _, _, .str z, rfl, rfl, SqT.same s3 hrT, rfl, _, rfl, S, _, rfl, .inl (.inl (.inl eS3)), rfl, ?_, _, rfl, ?_⟩
                  · rw [List.all_eq_true]
                    intro v hv
                    obtain ⟨y, _, rfl⟩ := List.mem_map.mp hv
                    rfl
                  · show if (if false = true then _ else inV (.str z) (((ds.take i).map nmOf).map V.str)) = true then _ else _
                    rw [if_neg Bool.false_ne_true, inV_strs]
                    by_cases hm : z ∈ (ds.take i).map nmOf
                    · exact iteT' (decide_eq_true hm) (no (rowsL_twice hdi hm) _ (sH.trans s3))
                    · refine iteF' (decide_eq_false hm) ?_
                      have h13 := Dt.same s3 h1'
                      refine ⟨_, rfl, r, _, _, x1, rfl, rfl, SqT.same s3 hrT, rfl, _, _, _, _, isD "int" d1, rfl, .ty "int", h13.ty, isi_int, _, rfl, ?_⟩
                      have bad : wholeD 0 4 d1 = false → Q (.bl false) G3 := fun e => no (rowsL_false hdi (show (nameD (.str z) && wholeD 0 4 d1) = false by rw [e, Bool.and_false])) _ (sH.trans s3)
                      cases ci : isD "int" d1 with
                      | false =>
                        refine iteT (iteT (bad ?_))
                        cases d1 <;> first | rfl | (rw [isD_ints] at ci; cases ci)
                      | true =>
                        refine iteF ⟨_, rfl, r, _, _, x1, rfl, rfl, SqT.same s3 hrT, rfl, _, _, _, _, isD "bool" d1, rfl, .ty "bool", h13.ty, isi_bool, _, rfl, ?_⟩
                        rcases isD_int ci with ⟨pI, rfl⟩ | ⟨bb, rfl⟩
                        · rw [isD_intb]
                          cases h1'
                          refine iteF ⟨_, rfl, r, _, _, .int pI, rfl, rfl, SqT.same s3 hrT, rfl, _, _, rfl, rfl, _, rfl, ?_⟩
                          have good : 0 ≤ pI → pI ≤ 4 → rowD (.tuple [.str z, .int pI]) = true := fun a b => by
                            show (nameD (.str z) && (decide (0 ≤ pI) && decide (pI ≤ 4))) = true
                            rw [hnm, decide_eq_true a, decide_eq_true b]; rfl
                          by_cases hp0 : 0 ≤ pI
                          · refine iteT' (decide_eq_true hp0) ⟨_, _, rfl, rfl, _, rfl, ?_⟩
                            by_cases hp4 : pI ≤ 4
                            · rw [decide_eq_true hp4]
                              have et : (ds.take (i + 1)).map nmOf = (ds.take i).map nmOf ++ [z] := take_map nmOf hdi
                              refine iteF ⟨_, rfl, .inl ⟨rfl, _, .inl (.inl eS3)⟩, _, rfl, r, _, _, .str z, rfl, rfl, SqT.same s3 hrT, rfl, S, _, _, rfl, rfl, eS3, ?_, ⟨_, rfl⟩, ?_, ?_, ?_, ?_, ?_⟩
                              · rw [List.length_map, List.length_map, List.length_take]
                                exact sz5' (by omega)
                              · intro b o e
                                rw [upd_ne (ne_of_none e hSe)]
                                exact s3 _ _ (s0 _ _ e)
                              · intro b o e
                                rw [upd_ne (ne_of_none e nS)]
                                exact s3 _ _ (sH _ _ e)
                              · rw [upd_same, et, List.map_append]
                                rfl
                              · intro d hd
                                rw [List.take_add_one, hdi] at hd
                                rcases List.mem_append.mp hd with hd | hd
                                · exact al d hd
                                · rw [List.mem_singleton.mp (show d ∈ [PyData.tuple [.str z, .int pI]] from hd)]
                                  exact good hp0 hp4
                              · rw [et, List.nodup_append]
                                exact ⟨nd, by simp, fun a ha b hb e => hm (by rw [List.mem_singleton.mp hb] at e; rw [← e]; exact ha)⟩
                            · rw [decide_eq_false hp4]
                              refine iteT (bad ?_)
                              show (decide (0 ≤ pI) && decide (pI ≤ 4)) = false
                              rw [decide_eq_false hp4, Bool.and_false]
                          · refine iteF' (decide_eq_false hp0) ⟨_, rfl, iteT (bad ?_)⟩
                            show (decide (0 ≤ pI) && decide (pI ≤ 4)) = false
                            rw [decide_eq_false hp0]
                            rfl
                        · rw [isD_bools]
                          exact iteT (iteT (bad rfl))
              · refine iteT' ?_ (iteT (no (rowsL_false hdi ?_) _ sH))
                · rw [decide_eq_false (show ¬ ((ys.length : Nat) : Int) = 2 by omega)]
                  rfl
                · match l, hl2 with
                  | [], _ => rfl
                  | [_], _ => rfl
                  | [_, _], h => exact absurd rfl h
                  | _ :: _ :: _ :: _, _ => rfl
          · rintro τ G' ⟨⟨y, rfl⟩, s0, sH, eS, al, nd⟩
            have ef : ds.take xs.length = ds := List.take_of_length_le (by omega)
            rw [ef] at al nd
            have := q G' sH
            rw [rowsL_true h1 h2 al nd] at this
            exact this
        · rw [decide_eq_false (show ¬ ((xs.length : Nat) : Int) < 13 by omega)]
          unfold rowsL at q
          rw [decide_eq_false h2, Bool.and_false] at q
          exact iteT (q _ sT)
      · rw [decide_eq_false (show ¬ (0 : Int) < (xs.length : Nat) by omega)]
        unfold rowsL at q
        rw [decide_eq_false h1] at q
        exact iteF ⟨_, rfl, iteT (q _ sT)⟩
end

end TS

namespace TS
open PySem PySem.Spec PyProof.Rows L2 TL

/-! ### caught -/
def spCaught (K : PySem.W.Frag) : Sp := fun vs H Q _ => ∃ (x : V) (d : PyData), vs = [x] ∧ Dt K H x d ∧ d.weight ≤ 100000 ∧ (∀ ds, seqD d = some ds → ds.length ≤ 1000) ∧
  (∀ ds, seqD d = some ds → rowsL ds = true → ∀ G p, Same H G → H p = none → G p = some (.tup [.str "told", .int ds.length]) → Q (.ref p) G) ∧
  (rowsD d = false → ∀ G p, Same H G → H p = none → G p = some (.tup [.str "none", x]) → Q (.ref p) G)
section
variable {P : Program} {w : World} {K : PySem.W.Frag} {mg : Str → Option Value} {base : Heap}
abbrev s__law_caught : Stmt := top 29
theorem sc__law_caught : FnScope ["_law_thing", "e"] ["_law_thing"] (defScope s__law_caught) := ⟨rfl, rfl, rfl, by decide +kernel, rfl, by decide +kernel, by decide +kernel⟩

theorem ok_caught (bt : Bt mg) (m_Words : Mk K (wcls K) (He.ma K (wcls K) "__init__")) (ml_Words : Meth K (wcls K) "__len__" (He.ma K (wcls K) "__len__")) (g_Words : mg "Words" = some (.ref (wcls K))) (g_NoWords : mg "NoWords" = some (.ref (He.ga K "NoWords")))
    (x_NoWords : OwnV K (He.ga K "NoWords") "found") (e_NoWords : PySem.W.exmOne K (.ref (He.ga K "NoWords")) (.ref (He.ga K "NoWords")) = some true)
    (p_Words___init__ : PromA (L2.CX P w) P w K mg base 4 (He.ma K (wcls K) "__init__") ["self", "rows"] (spWIni K)) (p_Words___len__ : PromA CX0 P w K mg base 1 (He.ma K (wcls K) "__len__") ["self"] (spWLen K))
    (D : Def K mg "_law_caught" s__law_caught) : Prom P w K mg base 6 "_law_caught" ["_law_thing"] (spCaught K) := by
  refine prom_mk D sc__law_caught (fun vs H Q E h => ?_) (fun _ _ _ _ _ _ us hl => match us, hl with | [_], _ => rfl) (fun f cdv A outer s H vs Q E hr h => ?_)
  · obtain ⟨x, d, rfl, _⟩ := h
    rfl
  · obtain ⟨x, d, rfl, hd, hw, hn, q1, q2⟩ := h
    refine ⟨_, (pss_one (ps_try rfl rfl sc__law_caught.nd (fun W pn xe tk po => (pss_one (ps_ret (pe_tup (pa_cons pe_str (pa_cons (pe_callB (id := "len") (len_own ml_Words p_Words___len__ (hr.mono (by decide))) (by rfl) bt.len_ (by decide +kernel) (pa_cons (pe_makeS m_Words p_Words___init__ tk (hr.mono (by decide)) rfl g_Words (pa_cons (pv 0) pa_nil)) pa_nil)) pa_nil)))))) (ClausesOk.as_ (i := 1) rfl rfl ⟨rfl, by decide, .inl g_NoWords⟩ (fun a oe cls d pn zc hfl => (pss_one (ps_ret (pe_tup (pa_cons pe_str (pa_cons (pe_xf x_NoWords.xf x_NoWords.no zc hfl (pv 1)) pa_nil)))))) ClausesOk.stop))), ?_⟩
    refine ⟨_, rfl, fun a dx ha hdx ne => ?_⟩
    have s1 : Same H (L2.upd (L2.upd H dx (.own a)) a (.ins (wcls K) dx [])) := fun b o e => by
      rw [upd_ne (ne_of_none e ha), upd_ne (ne_of_none e hdx)]
      exact e
    refine ⟨a, dx, x, d, rfl, upd_same .., Dt.same s1 hd, hw, hn, fun ds es rl G fx wa => ⟨rfl, ?_⟩, fun c G e sG he ge => ?_⟩
    · have s2 : Same H G := fun b o e => fx b o (ne_of_none e ha) (s1 _ _ e)
      obtain ⟨dx2, D2, kvs, e1, e2, e3⟩ := id wa
      refine ⟨a, dx2, _, rfl, e1, a, _, rfl, wa, ds.length, by rw [List.length_map], ?_, (by show 2 ≤ sizeLine; decide), fun p hp => ?_⟩
      · have := hn ds es
        have : (2 : Nat) ^ 40 = 1099511627776 := by decide
        omega
      · exact q1 ds es rl _ p (s2.trans (Same.new (Same.refl _) hp)) (s2.free hp) (upd_same ..)
    · have s2 : Same H G := s1.trans sG
      refine ⟨true, e_NoWords, fun _ o ho => ?_, fun z => by cases z⟩
      refine ⟨_, rfl, rfl, rfl, e, _, _, rfl, ge, rfl, (by show 2 ≤ sizeLine; decide), fun p hp => ?_⟩
      exact q2 c _ p (s2.trans (Same.new (Same.refl _) hp)) (s2.free hp) (upd_same ..)
end

end TS

namespace TS
open PySem PySem.Spec PyProof.Rows L2 TL

/-! ### a row otherwise -/
/-- a small part that is no pair -/
def Part (d : PyData) : Prop := Sm 1 100 d ∧ ∀ x y, d ≠ .tuple [x, y]
/-- what may stand in the list -/
def Elem (d : PyData) : Prop := Sm 3 1000 d ∧ ∀ x y, d = .tuple [x, y] → Part x ∧ Part y
theorem Part.elem {d : PyData} (h : Part d) : Elem d := ⟨h.1.mono (by decide) (by decide), fun x y e => absurd e (h.2 x y)⟩
theorem e_list {a b : PyData} (h0 : Part a) (h1 : Part b) : Elem (.list [a, b]) := ⟨(Sm.list (m := 2) (n := 100) (k := 1) (fun d hd => by
  simp only [List.mem_cons, List.not_mem_nil, or_false] at hd
  rcases hd with rfl | rfl
  · exact h0.1
  · exact h1.1) (by simp)).mono (by decide) (by decide), fun x y e => by cases e⟩
theorem e_pair {a b : PyData} (h0 : Part a) (h1 : Part b) : Elem (.tuple [a, b]) := ⟨(Sm.tuple (m := 2) (n := 100) (k := 1) (fun d hd => by
  simp only [List.mem_cons, List.not_mem_nil, or_false] at hd
  rcases hd with rfl | rfl
  · exact h0.1
  · exact h1.1) (by simp)).mono (by decide) (by decide), fun x y e => by cases e; exact ⟨h0, h1⟩⟩
theorem e_one {a : PyData} (h0 : Part a) : Elem (.tuple [a]) := ⟨(Sm.tuple (m := 1) (n := 100) (k := 1) (fun d hd => by
  rw [List.mem_singleton.mp hd]; exact h0.1) (by simp)).mono (by decide) (by decide), fun x y e => by cases e⟩
theorem e_three {a b : PyData} (h0 : Part a) (h1 : Part b) : Elem (.tuple [a, b, .int 0]) := ⟨(Sm.tuple (m := 3) (n := 100) (k := 1) (fun d hd => by
  simp only [List.mem_cons, List.not_mem_nil, or_false] at hd
  rcases hd with rfl | rfl | rfl
  · exact h0.1
  · exact h1.1
  · show smB 1 100 (.int 0) = true
    decide +kernel) (by simp)).mono (by decide) (by decide), fun x y e => by cases e⟩
theorem e_row {a b : PyData} (h0 : Part a) (h1 : Part b) : Elem (.tuple [.tuple [a, b]]) := ⟨(Sm.tuple (m := 1) (n := 202) (k := 2) (fun d hd => by
  rw [List.mem_singleton.mp hd]
  exact (Sm.tuple (m := 2) (n := 100) (k := 1) (fun d hd => by
    simp only [List.mem_cons, List.not_mem_nil, or_false] at hd
    rcases hd with rfl | rfl
    · exact h0.1
    · exact h1.1) (by simp)).mono (by decide) (by decide)) (by simp)).mono (by decide) (by decide), fun x y e => by cases e⟩
theorem partC {d : PyData} (h : smB 1 100 d = true) (n : ∀ x y, d ≠ .tuple [x, y]) : Part d := ⟨h, n⟩
theorem sm_name {z : Str} (h : nameS z = true) {k : Nat} : Sm k 8 (.str z) := by
  unfold nameS at h
  obtain ⟨h1, h3⟩ := Bool.and_eq_true_iff.mp h
  obtain ⟨_, h2⟩ := Bool.and_eq_true_iff.mp h1
  refine Sm.str (fun c hc => ?_) (of_decide_eq_true h2)
  have := List.all_eq_true.mp h3 c hc
  have := of_decide_eq_true (Bool.and_eq_true_iff.mp this).2
  exact Nat.lt_of_le_of_lt this (by decide)
theorem part_name {z : Str} (h : nameS z = true) : Part (.str z) := ⟨(sm_name h).mono (Nat.le_refl _) (by decide), fun _ _ e => by cases e⟩
def spRowO (K : PySem.W.Frag) : Sp := fun vs H Q _ => ∃ (b : Addr) (n : Nat) (rw_ : Addr) (rows : List (Str × Int)) (x : V) (d0 d1 : PyData) (F : Addr) (oF : HO), vs = [.ref b, .ref rw_, x] ∧ F ≠ b ∧ H F = some oF ∧ (∃ o, H b = some o ∧ Bag (n + 2) o) ∧ RowsOk rows ∧
  Dt K (hide H b) (.ref rw_) (.list (rows.map rowPy)) ∧ Dt K (hide2 H b F) x (.tuple [d0, d1]) ∧ Part d0 ∧ Part d1 ∧ ∀ H' v d, Dr b n H H' → Elem d → Dt K (hide2 H' b F) v d → Q v H'
section
variable {P : Program} {w : World} {K : PySem.W.Frag} {mg : Str → Option Value} {base : Heap}
abbrev s__law_row_otherwise : Stmt := top 27
theorem sc__law_row_otherwise : FnScope ["_law_box_here", "_law_rows_here", "_law_row", "_law_way", "_law_name", "_law_places", "_law_odd"] ["_law_box_here", "_law_rows_here", "_law_row"] (defScope s__law_row_otherwise) := ⟨rfl, rfl, rfl, by decide +kernel, rfl, by decide +kernel, by decide +kernel⟩

set_option maxHeartbeats 1000000 in
theorem ok_row_otherwise (bt : Bt mg) (p__law_take : Prom P w K mg base 1 "_law_take" ["_law_box_here", "_law_many"] spTake) (D : Def K mg "_law_row_otherwise" s__law_row_otherwise) : Prom P w K mg base 2 "_law_row_otherwise" ["_law_box_here", "_law_rows_here", "_law_row"] (spRowO K) := by
  refine prom_mk D sc__law_row_otherwise (fun vs H Q E h => ?_) (fun _ _ _ _ _ _ us hl => match us, hl with | [_, _, _], _ => rfl) (fun f cdv A outer s H vs Q E hr h => ?_)
  · obtain ⟨b, n, rw_, rows, x, d0, d1, F, oF, rfl, _⟩ := h
    rfl
  · obtain ⟨b, n, rw_, rows, x, d0, d1, F, oF, rfl, nFb, hF0, hb, ro, hrw, hx, p0, p1, q⟩ := h
    refine ⟨_, (pss_cons (ps_set (i := 3) sc__law_row_otherwise.nd rfl (Or.inl rfl) (pe_pc p__law_take (hr.mono (by decide)) rfl (pa_cons (pv 0) (pa_cons pe_int pa_nil))))
      (pss_cons (ps_asg (pv 2) (pg_tupK (K := K) (n := 2) rfl rfl (pgs_cons (pg_name (i := 4) sc__law_row_otherwise.nd rfl (Or.inl rfl)) (pgs_cons (pg_name (i := 5) sc__law_row_otherwise.nd rfl (Or.inl rfl)) pgs_nil))))
      (pss_cons (ps_if (pt_cmpR op_eq (pv 3) pe_int (nomark _)) (pss_cons (ps_set (i := 6) sc__law_row_otherwise.nd rfl (Or.inl rfl) (pe_lst (pa_cons (pe_callTy (T := "list") (listK (K := K)) (by rfl) bt.list_ (by decide +kernel) (pa_cons (pv 2) pa_nil)) (pa_cons (pe_tup (pa_cons (pv 4) pa_nil)) (pa_cons (pe_tup (pa_cons (pv 4) (pa_cons (pv 5) (pa_cons pe_int pa_nil)))) (pa_cons (pe_tup (pa_cons (pv 5) (pa_cons (pv 4) pa_nil))) (pa_cons pe_non pa_nil)))))))
      (pss_one (ps_ret (pe_ix (ix_listK (K := K)) (pe_op op_cat (pv 6) (pe_lst (pa_cons (pv 4) (pa_cons pe_dnewK (pa_cons (pe_tup (pa_cons (pv 2) pa_nil)) (pa_cons (pe_tup pa_nil) pa_nil)))))) (pe_pc p__law_take (hr.mono (by decide)) rfl (pa_cons (pv 0) (pa_cons pe_int pa_nil))) (fun _ _ => rfl))))) pss_nil)
      (pss_cons (ps_if (pt_cmpR op_eq (pv 3) pe_int (nomark _)) (pss_cons (ps_set (i := 6) sc__law_row_otherwise.nd rfl (Or.inl rfl) (pe_lst (pa_cons pe_non (pa_cons pe_str (pa_cons pe_str (pa_cons pe_str (pa_cons pe_str (pa_cons pe_str (pa_cons pe_int (pa_cons pe_bl (pa_cons (pe_lst (pa_cons pe_str pa_nil)) (pa_cons (pe_tup (pa_cons pe_str pa_nil)) (pa_cons (pe_ix (ix_tupK (K := K)) (pe_ix (ix_listK (K := K)) (pv 1) pe_int (fun _ _ => rfl)) pe_int (fun _ _ => rfl)) (pa_cons pe_str (pa_cons pe_str pa_nil)))))))))))))))
      (pss_one (ps_ret (pe_tup (pa_cons (pe_ix (ix_listK (K := K)) (pv 6) (pe_pc p__law_take (hr.mono (by decide)) rfl (pa_cons (pv 0) (pa_cons pe_int pa_nil))) (fun _ _ => rfl)) (pa_cons (pv 5) pa_nil)))))) pss_nil)
      (pss_one (ps_ret (pe_tup (pa_cons (pv 4) (pa_cons (pe_ix (ix_listK (K := K)) (pe_lst (pa_cons (pe_un un_neg pe_int) (pa_cons pe_int (pa_cons pe_bl (pa_cons pe_bl (pa_cons pe_non (pa_cons pe_str (pa_cons (pe_lst (pa_cons pe_int pa_nil)) (pa_cons (pe_op op_pow pe_int pe_int) (pa_cons pe_int (pa_cons pe_int pa_nil))))))))))) (pe_pc p__law_take (hr.mono (by decide)) rfl (pa_cons (pv 0) (pa_cons pe_int pa_nil))) (fun _ _ => rfl)) pa_nil))))))))), ?_⟩
    refine ⟨_, rfl, b, _, n + 1, 3, rfl, hb.choose_spec.1, hb.choose_spec.2, by decide, by decide +kernel, fun wy o1 w0 w1 g1 => ?_⟩
    (generalize hG : L2.upd _ b _ = H1; have dr1 := dr_of hG g1; clear hG)
    have hh2 : ∀ {m : Nat} {G G' : Hp}, Dr b m G G' → Same (hide2 G b F) (hide2 G' b F) := fun d => hide2_fx fun a o h _ e => d.fx a o h e
    have oF1 : H1 F = some oF := dr1.at nFb hF0
    have hx1 := Dt.same (hh2 dr1) hx
    have hrw1 := Dt.same dr1.hide hrw
    obtain ⟨r, ys, rfl, hrT, hrA⟩ := hx1.tup_inv
    cases hrA with
    | cons y0 t => cases t with
    | @cons v1 _ _ _ y1 t => cases t with
    | nil =>
    rename_i v0
    have hrT1 : SqT K H1 r [v0, v1] := SqT.same (hide_same.trans hide_same) hrT
    refine ⟨_, rfl, r, _, rfl, hrT1, rfl, _, _, rfl, _, _, rfl, rfl, ?_⟩
    refine ⟨_, rfl, rfl, _, rfl, ite2 (fun c => ?_) (fun c => ?_)⟩
    · refine ⟨_, rfl, r, _, rfl, .inr hrT1, fun l1 h1 => ?_⟩
      (generalize hG : L2.upd _ l1 _ = A1; have s1 := same_of hG h1; have e1 := at_of hG; clear hG)
      refine ⟨_, rfl, (by show 1 ≤ sizeLine; decide), fun l2 h2 => ?_⟩
      (generalize hG : L2.upd _ l2 _ = A2; have s2 := same_of hG h2; have e2 := at_of hG; clear hG)
      refine ⟨_, rfl, _, rfl, (by show 3 ≤ sizeLine; decide), fun l3 h3 => ?_⟩
      (generalize hG : L2.upd _ l3 _ = A3; have s3 := same_of hG h3; have e3 := at_of hG; clear hG)
      refine ⟨_, rfl, _, rfl, (by show 2 ≤ sizeLine; decide), fun l4 h4 => ?_⟩
      (generalize hG : L2.upd _ l4 _ = A4; have s4 := same_of hG h4; have e4 := at_of hG; clear hG)
      refine ⟨(by show 5 ≤ sizeLine; decide), fun l5 h5 => ?_⟩
      (generalize hG : L2.upd _ l5 _ = A5; have s5 := same_of hG h5; have e5 := at_of hG; clear hG)
      refine ⟨_, rfl, _, rfl, fun l6 h6 => ?_⟩
      (generalize hG : L2.upd _ l6 _ = A6; have s6 := same_of hG h6; have e6 := at_of hG; clear hG)
      refine ⟨_, rfl, (by show 1 ≤ sizeLine; decide), fun l7 h7 => ?_⟩
      (generalize hG : L2.upd _ l7 _ = A7; have s7 := same_of hG h7; have e7 := at_of hG; clear hG)
      refine ⟨(by show 0 ≤ sizeLine; decide), fun l8 h8 => ?_⟩
      (generalize hG : L2.upd _ l8 _ = A8; have s8 := same_of hG h8; have e8 := at_of hG; clear hG)
      refine ⟨(by show 4 ≤ sizeLine; decide), fun l9 h9 => ?_⟩
      (generalize hG : L2.upd _ l9 _ = A9; have s9 := same_of hG h9; have e9 := at_of hG; clear hG)
      have t8 := s9
      have t7 := s8.trans t8
      have t6 := s7.trans t7
      have t5 := s6.trans t6
      have t4 := s5.trans t5
      have t3 := s4.trans t4
      have t2 := s3.trans t3
      have t1 := s2.trans t2
      have t0 := s1.trans t1
      refine ⟨l5, l9, _, _, rfl, rfl, t5 _ _ e5, e9, (by show 9 ≤ sizeLine; decide), fun l10 h10 => ?_⟩
      (generalize hG : L2.upd _ l10 _ = A10; have s10 := same_of hG h10; have e10 := at_of hG; clear hG)
      have ne : ∀ {G : Hp} {p : Addr}, Same H1 G → G p = none → p ≠ b ∧ p ≠ F := fun sG hp => ⟨(Dr.same sG dr1.bag).ne hp, fun z => by rw [z, sG _ _ oF1] at hp; cases hp⟩
      have n1 := ne (Same.refl _) h1
      have n2 := ne s1 h2
      have n3 := ne (s1.trans s2) h3
      have n4 := ne (s1.trans (s2.trans s3)) h4
      have n6 := ne (s1.trans (s2.trans (s3.trans (s4.trans s5)))) h6
      have n7 := ne (s1.trans (s2.trans (s3.trans (s4.trans (s5.trans s6))))) h7
      have n8 := ne (s1.trans (s2.trans (s3.trans (s4.trans (s5.trans (s6.trans s7)))))) h8
      have n10 := ne t0 h10
      have D10 : Dr b (n + 1) H1 A10 := Dr.same (t0.trans s10) dr1.bag
      refine ⟨_, rfl, b, _, n, 9, rfl, D10.bag.choose_spec.1, D10.bag.choose_spec.2, by decide, by decide +kernel, fun k o2 k0 k1 g2 => ?_⟩
      (generalize hG : L2.upd _ b _ = H2; have dr2 := dr_of hG g2; clear hG)
      have DD := D10.trans dr2
      have D0 := dr1.trans DD
      have y0' := Dt.same (hh2 DD) y0
      have y1' := Dt.same (hh2 DD) y1
      have hx' : Dt K (hide2 H2 b F) (.ref r) (.tuple [d0, d1]) := Dt.same (hh2 DD) hx1
      have g : ∀ {p : Addr} {u : HO}, p ≠ b ∧ p ≠ F → A10 p = some u → hide2 H2 b F p = some u := fun h e => hide2_at h.1 h.2 (dr2.at h.1 e)
      have L10 : SqL K H2 l10 _ := .inl (.inl (dr2.at n10.1 e10))
      have c9 : k = 0 ∨ k = 1 ∨ k = 2 ∨ k = 3 ∨ k = 4 ∨ k = 5 ∨ k = 6 ∨ k = 7 ∨ k = 8 := by omega
      rcases c9 with rfl | rfl | rfl | rfl | rfl | rfl | rfl | rfl | rfl
      · exact ⟨l10, _, _, _, rfl, rfl, L10, rfl, q H2 _ _ D0 (e_list p0 p1) (.lst (.inl (.inl (g n1 (s10 _ _ (t1 _ _ e1))))) (.cons y0' (.cons y1' .nil)))⟩
      · exact ⟨l10, _, _, _, rfl, rfl, L10, rfl, q H2 _ _ D0 (e_one p0) (.tup (.inl (.inl (g n2 (s10 _ _ (t2 _ _ e2))))) (.cons y0' .nil))⟩
      · exact ⟨l10, _, _, _, rfl, rfl, L10, rfl, q H2 _ _ D0 (e_three p0 p1) (.tup (.inl (.inl (g n3 (s10 _ _ (t3 _ _ e3))))) (.cons y0' (.cons y1' (.cons (.int 0) .nil))))⟩
      · exact ⟨l10, _, _, _, rfl, rfl, L10, rfl, q H2 _ _ D0 (e_pair p1 p0) (.tup (.inl (.inl (g n4 (s10 _ _ (t4 _ _ e4))))) (.cons y1' (.cons y0' .nil)))⟩
      · exact ⟨l10, _, _, _, rfl, rfl, L10, rfl, q H2 _ _ D0 (partC (by decide +kernel) (fun _ _ e => by cases e)).elem .non⟩
      · exact ⟨l10, _, _, _, rfl, rfl, L10, rfl, q H2 _ _ D0 p0.elem y0'⟩
      · exact ⟨l10, _, _, _, rfl, rfl, L10, rfl, q H2 _ (.dict []) D0 (partC (by decide +kernel) (fun _ _ e => by cases e)).elem (.dct (ks := []) (xs := []) (g n6 (s10 _ _ (t6 _ _ e6))) rfl .nil)⟩
      · exact ⟨l10, _, _, _, rfl, rfl, L10, rfl, q H2 _ _ D0 (e_row p0 p1) (.tup (.inl (.inl (g n7 (s10 _ _ (t7 _ _ e7))))) (.cons hx' .nil))⟩
      · exact ⟨l10, _, _, _, rfl, rfl, L10, rfl, q H2 _ _ D0 (partC (by decide +kernel) (fun _ _ e => by cases e)).elem (.tup (.inl (.inl (g n8 (s10 _ _ (t8 _ _ e8))))) .nil)⟩
    · refine ⟨_, rfl, rfl, _, rfl, ite2 (fun c => ?_) (fun c => ?_)⟩
      · refine ⟨(by show 1 ≤ sizeLine; decide), fun l1 h1 => ?_⟩
        (generalize hG : L2.upd _ l1 _ = A1; have s1 := same_of hG h1; have e1 := at_of hG; clear hG)
        refine ⟨(by show 1 ≤ sizeLine; decide), fun l2 h2 => ?_⟩
        (generalize hG : L2.upd _ l2 _ = A2; have s2 := same_of hG h2; have e2 := at_of hG; clear hG)
        have t0 := s1.trans s2
        obtain ⟨rA, rxs, erw, hrL, hrD⟩ := (Dt.same hide_same hrw1).list_inv
        cases erw
        obtain ⟨⟨z, pz⟩, rest, rfl⟩ : ∃ r rest, rows = r :: rest := by
          cases rows with
          | nil => exact absurd ro.some_ (by decide)
          | cons r rest => exact ⟨r, rest, rfl⟩
        cases hrD with
        | @cons w0 ws _ _ hw0 hws =>
        obtain ⟨ra, rys, rfl, hraT, hraD⟩ := hw0.tup_inv
        cases hraD with
        | @cons u0 us _ _ hu0 hus =>
        cases hu0
        have hz : nameS z = true := ro.names (z, pz) (by simp)
        have pz' : Part (.str z) := part_name hz
        refine ⟨_, rfl, rw_, _, _, .ref ra, rfl, rfl, t0.seq hrL, atI_nat (j := 0) rfl, ra, _, _, .str z, rfl, rfl, SqT.same t0 hraT, atI_nat (j := 0) rfl, (by show 13 ≤ sizeLine; decide), fun l3 h3 => ?_⟩
        (generalize hG : L2.upd _ l3 _ = A3; have s3 := same_of hG h3; have e3 := at_of hG; clear hG)
        have ne : ∀ {G : Hp} {p : Addr}, Same H1 G → G p = none → p ≠ b ∧ p ≠ F := fun sG hp => ⟨(Dr.same sG dr1.bag).ne hp, fun z => by rw [z, sG _ _ oF1] at hp; cases hp⟩
        have n1 := ne (Same.refl _) h1
        have n2 := ne s1 h2
        have n3 := ne t0 h3
        have D3 : Dr b (n + 1) H1 A3 := Dr.same (t0.trans s3) dr1.bag
        refine ⟨_, rfl, _, rfl, b, _, n, 13, rfl, D3.bag.choose_spec.1, D3.bag.choose_spec.2, by decide, by decide +kernel, fun k o2 k0 k1 g2 => ?_⟩
        (generalize hG : L2.upd _ b _ = H2; have dr2 := dr_of hG g2; clear hG)
        have DD := D3.trans dr2
        have D0 := dr1.trans DD
        have L3 : SqL K H2 l3 _ := .inl (.inl (dr2.at n3.1 e3))
        have g : ∀ {p : Addr} {u : HO}, p ≠ b ∧ p ≠ F → A3 p = some u → hide2 H2 b F p = some u := fun h e => hide2_at h.1 h.2 (dr2.at h.1 e)
        have fin : ∀ (v : V) (d : PyData), Part d → Dt K (hide2 H2 b F) v d → ∀ l4, H2 l4 = none → Q (.ref l4) (L2.upd H2 l4 (.tup [v, v1])) := fun v d pd dv l4 h4 => by
          have s4 := Same.new (o := .tup [v, v1]) (Same.refl _) h4
          have D4 : Dr b n H2 (L2.upd H2 l4 (.tup [v, v1])) := Dr.same s4 dr2.bag
          refine q _ _ _ (D0.trans D4) (e_pair pd p1) (.tup (.inl (.inl ?_)) (.cons (Dt.same (hh2 D4) dv) (.cons (Dt.same (hh2 (DD.trans D4)) y1) .nil)))
          exact hide2_at (dr2.ne h4) (fun z => by rw [z, (D3.trans dr2).at nFb oF1] at h4; cases h4) (upd_same ..)
        have c13 : k = 0 ∨ k = 1 ∨ k = 2 ∨ k = 3 ∨ k = 4 ∨ k = 5 ∨ k = 6 ∨ k = 7 ∨ k = 8 ∨ k = 9 ∨ k = 10 ∨ k = 11 ∨ k = 12 := by omega
        rcases c13 with rfl | rfl | rfl | rfl | rfl | rfl | rfl | rfl | rfl | rfl | rfl | rfl | rfl
        · exact ⟨l3, _, _, _, rfl, rfl, L3, rfl, _, rfl, (by show 2 ≤ sizeLine; decide), fin _ _ (partC (by decide +kernel) (fun _ _ e => by cases e)) .non⟩
        · exact ⟨l3, _, _, _, rfl, rfl, L3, rfl, _, rfl, (by show 2 ≤ sizeLine; decide), fin _ _ (partC (by decide +kernel) (fun _ _ e => by cases e)) (.str "")⟩
        · exact ⟨l3, _, _, _, rfl, rfl, L3, rfl, _, rfl, (by show 2 ≤ sizeLine; decide), fin _ _ (partC (by decide +kernel) (fun _ _ e => by cases e)) (.str "A")⟩
        · exact ⟨l3, _, _, _, rfl, rfl, L3, rfl, _, rfl, (by show 2 ≤ sizeLine; decide), fin _ _ (partC (by decide +kernel) (fun _ _ e => by cases e)) (.str "ninechars")⟩
        · exact ⟨l3, _, _, _, rfl, rfl, L3, rfl, _, rfl, (by show 2 ≤ sizeLine; decide), fin _ _ (partC (by decide +kernel) (fun _ _ e => by cases e)) (.str "a1")⟩
        · exact ⟨l3, _, _, _, rfl, rfl, L3, rfl, _, rfl, (by show 2 ≤ sizeLine; decide), fin _ _ (partC (by decide +kernel) (fun _ _ e => by cases e)) (.str "a b")⟩
        · exact ⟨l3, _, _, _, rfl, rfl, L3, rfl, _, rfl, (by show 2 ≤ sizeLine; decide), fin _ _ (partC (by decide +kernel) (fun _ _ e => by cases e)) (.int 5)⟩
        · exact ⟨l3, _, _, _, rfl, rfl, L3, rfl, _, rfl, (by show 2 ≤ sizeLine; decide), fin _ _ (partC (by decide +kernel) (fun _ _ e => by cases e)) (.bl true)⟩
        · exact ⟨l3, _, _, _, rfl, rfl, L3, rfl, _, rfl, (by show 2 ≤ sizeLine; decide), fin _ (.list [.str "a"]) (partC (by decide +kernel) (fun _ _ e => by cases e)) (.lst (.inl (.inl (g n1 (s3 _ _ (s2 _ _ e1))))) (.cons (.str "a") .nil))⟩
        · exact ⟨l3, _, _, _, rfl, rfl, L3, rfl, _, rfl, (by show 2 ≤ sizeLine; decide), fin _ (.tuple [.str "a"]) (partC (by decide +kernel) (fun _ _ e => by cases e)) (.tup (.inl (.inl (g n2 (s3 _ _ e2)))) (.cons (.str "a") .nil))⟩
        · exact ⟨l3, _, _, _, rfl, rfl, L3, rfl, _, rfl, (by show 2 ≤ sizeLine; decide), fin _ _ pz' (.str z)⟩
        · exact ⟨l3, _, _, _, rfl, rfl, L3, rfl, _, rfl, (by show 2 ≤ sizeLine; decide), fin _ _ (partC (by decide +kernel) (fun _ _ e => by cases e)) (.str "aaaaaaaa")⟩
        · exact ⟨l3, _, _, _, rfl, rfl, L3, rfl, _, rfl, (by show 2 ≤ sizeLine; decide), fin _ _ (partC (by decide +kernel) (fun _ _ e => by cases e)) (.str "a\n")⟩
      · refine ⟨_, rfl, _, rfl, (by show 1 ≤ sizeLine; decide), fun l1 h1 => ?_⟩
        (generalize hG : L2.upd _ l1 _ = A1; have s1 := same_of hG h1; have e1 := at_of hG; clear hG)
        refine ⟨_, _, rfl, rfl, ⟨by decide, by decide, by decide⟩, (by show 10 ≤ sizeLine; decide), fun l3 h3 => ?_⟩
        (generalize hG : L2.upd _ l3 _ = A3; have s3 := same_of hG h3; have e3 := at_of hG; clear hG)
        have ne : ∀ {G : Hp} {p : Addr}, Same H1 G → G p = none → p ≠ b ∧ p ≠ F := fun sG hp => ⟨(Dr.same sG dr1.bag).ne hp, fun z => by rw [z, sG _ _ oF1] at hp; cases hp⟩
        have n1 := ne (Same.refl _) h1
        have n3 := ne s1 h3
        have D3 : Dr b (n + 1) H1 A3 := Dr.same (s1.trans s3) dr1.bag
        refine ⟨_, rfl, b, _, n, 10, rfl, D3.bag.choose_spec.1, D3.bag.choose_spec.2, by decide, by decide +kernel, fun k o2 k0 k1 g2 => ?_⟩
        (generalize hG : L2.upd _ b _ = H2; have dr2 := dr_of hG g2; clear hG)
        have DD := D3.trans dr2
        have D0 := dr1.trans DD
        have L3 : SqL K H2 l3 _ := .inl (.inl (dr2.at n3.1 e3))
        have g : ∀ {p : Addr} {u : HO}, p ≠ b ∧ p ≠ F → A3 p = some u → hide2 H2 b F p = some u := fun h e => hide2_at h.1 h.2 (dr2.at h.1 e)
        have fin : ∀ (v : V) (d : PyData), Part d → Dt K (hide2 H2 b F) v d → ∀ l4, H2 l4 = none → Q (.ref l4) (L2.upd H2 l4 (.tup [v0, v])) := fun v d pd dv l4 h4 => by
          have s4 := Same.new (o := .tup [v0, v]) (Same.refl _) h4
          have D4 : Dr b n H2 (L2.upd H2 l4 (.tup [v0, v])) := Dr.same s4 dr2.bag
          refine q _ _ _ (D0.trans D4) (e_pair p0 pd) (.tup (.inl (.inl ?_)) (.cons (Dt.same (hh2 (DD.trans D4)) y0) (.cons (Dt.same (hh2 D4) dv) .nil)))
          exact hide2_at (dr2.ne h4) (fun z => by rw [z, (D3.trans dr2).at nFb oF1] at h4; cases h4) (upd_same ..)
        have e29 : (10 : Int) ^ (29 : Int).toNat = 100000000000000000000000000000 := by decide +kernel
        have c10 : k = 0 ∨ k = 1 ∨ k = 2 ∨ k = 3 ∨ k = 4 ∨ k = 5 ∨ k = 6 ∨ k = 7 ∨ k = 8 ∨ k = 9 := by omega
        rcases c10 with rfl | rfl | rfl | rfl | rfl | rfl | rfl | rfl | rfl | rfl
        · exact ⟨l3, _, _, _, rfl, rfl, L3, rfl, (by show 2 ≤ sizeLine; decide), fin _ (.int (-1)) (partC (by decide +kernel) (fun _ _ e => by cases e)) (.int (-1))⟩
        · exact ⟨l3, _, _, _, rfl, rfl, L3, rfl, (by show 2 ≤ sizeLine; decide), fin _ _ (partC (by decide +kernel) (fun _ _ e => by cases e)) (.int 5)⟩
        · exact ⟨l3, _, _, _, rfl, rfl, L3, rfl, (by show 2 ≤ sizeLine; decide), fin _ _ (partC (by decide +kernel) (fun _ _ e => by cases e)) (.bl true)⟩
        · exact ⟨l3, _, _, _, rfl, rfl, L3, rfl, (by show 2 ≤ sizeLine; decide), fin _ _ (partC (by decide +kernel) (fun _ _ e => by cases e)) (.bl false)⟩
        · exact ⟨l3, _, _, _, rfl, rfl, L3, rfl, (by show 2 ≤ sizeLine; decide), fin _ _ (partC (by decide +kernel) (fun _ _ e => by cases e)) .non⟩
        · exact ⟨l3, _, _, _, rfl, rfl, L3, rfl, (by show 2 ≤ sizeLine; decide), fin _ _ (partC (by decide +kernel) (fun _ _ e => by cases e)) (.str "2")⟩
        · exact ⟨l3, _, _, _, rfl, rfl, L3, rfl, (by show 2 ≤ sizeLine; decide), fin _ (.list [.int 2]) (partC (by decide +kernel) (fun _ _ e => by cases e)) (.lst (.inl (.inl (g n1 (s3 _ _ e1)))) (.cons (.int 2) .nil))⟩
        · exact ⟨l3, _, _, _, rfl, rfl, L3, rfl, (by show 2 ≤ sizeLine; decide), fin _ (.int 100000000000000000000000000000) (partC (by decide +kernel) (fun _ _ e => by cases e)) (by show Dt K _ (V.int ((10 : Int) ^ (29 : Int).toNat)) _; rw [e29]; exact .int _)⟩
        · exact ⟨l3, _, _, _, rfl, rfl, L3, rfl, (by show 2 ≤ sizeLine; decide), fin _ _ (partC (by decide +kernel) (fun _ _ e => by cases e)) (.int 0)⟩
        · exact ⟨l3, _, _, _, rfl, rfl, L3, rfl, (by show 2 ≤ sizeLine; decide), fin _ _ (partC (by decide +kernel) (fun _ _ e => by cases e)) (.int 4)⟩
end

end TS

namespace TS
open PySem PySem.Spec PyProof.Rows L2 TL

/-! ### a thing otherwise -/
def ThingOk (d : PyData) : Prop := Sm 5 20000 d ∧ ∀ ds, seqD d = some ds → ds.length ≤ 13
/-- pairs of names and places, as data and as values -/
def prD (r : Str × Int) : PyData × PyData := (.str r.1, .int r.2)
def prV (r : Str × Int) : Key × V := (Sum.inr r.1, .int r.2)
def PrOk (rs : List (Str × Int)) : Prop := ∀ r ∈ rs, nameS r.1 = true ∧ 0 ≤ r.2 ∧ r.2 ≤ 4
theorem pr_dt {K : PySem.W.Frag} {H : Hp} {a : Addr} {rs : List (Str × Int)} (e : H a = some (.dK (rs.map prV))) : Dt K H (.ref a) (.dict (rs.map prD)) := by
  have h1 : (rs.map fun r => (Sum.inr r.1 : Key)).zip (rs.map fun r => V.int r.2) = rs.map prV := List.zip_map' ..
  have h2 : ((rs.map fun r => (Sum.inr r.1 : Key)).map kD).zip (rs.map fun r => PyData.int r.2) = rs.map prD := by rw [List.map_map]; exact List.zip_map' ..
  rw [← h2]
  refine .dct (by rw [h1]; exact e) (by simp) (DtAll.of (by simp) fun i x d hx hd => ?_)
  rw [List.getElem?_map] at hx hd
  cases hri : rs[i]? with
  | none => rw [hri] at hx; cases hx
  | some r =>
    rw [hri] at hx hd
    cases hx
    cases hd
    exact .int _
/-- what was drawn: if it is a list or a dict, a new one of its own -/
def Thing (K : PySem.W.Frag) (H H' : Hp) (b : Addr) (v : V) (d : PyData) : Prop := ThingOk d ∧
  ((isD "list" d = false ∧ isD "dict" d = false ∧ Dt K (hide H' b) v d) ∨
  (∃ a xs ds, v = .ref a ∧ d = .list ds ∧ H a = none ∧ a ≠ b ∧ H' a = some (.lst xs) ∧ DtAll K (hide2 H' b a) xs ds) ∨
  (∃ (a : Addr) (rs : List (Str × Int)), v = .ref a ∧ d = .dict (rs.map prD) ∧ H a = none ∧ a ≠ b ∧ H' a = some (.dK (rs.map prV)) ∧ rs.length ≤ 12 ∧ PrOk rs))
theorem thing_list {ds : List PyData} (h : ∀ d ∈ ds, Elem d) (hl : ds.length ≤ 13) : ThingOk (.list ds) :=
  ⟨(Sm.list (m := 13) (fun d hd => (h d hd).1) hl).mono (by decide) (by decide), fun l e => by cases e; exact hl⟩
theorem thing_tup {ds : List PyData} (h : ∀ d ∈ ds, Elem d) (hl : ds.length ≤ 13) : ThingOk (.tuple ds) :=
  ⟨(Sm.tuple (m := 13) (fun d hd => (h d hd).1) hl).mono (by decide) (by decide), fun l e => by cases e; exact hl⟩
theorem elem_row {r : Str × Int} (h1 : nameS r.1 = true) (h2 : 0 ≤ r.2) (h3 : r.2 ≤ 4) : Elem (rowPy r) :=
  e_pair (part_name h1) ⟨(Sm.int (by omega) (by omega)).mono (Nat.le_refl _) (by decide), fun _ _ e => by cases e⟩
theorem all_kv {k n : Nat} : ∀ {kvs : List (PyData × PyData)}, (∀ p ∈ kvs, Sm k n p.1 ∧ Sm k n p.2) → PyData.showableKv kvs = true ∧ PyData.depthKv kvs ≤ k ∧ PyData.leavesShortKv 40 kvs = true ∧ PyData.weightKv kvs ≤ kvs.length * (2 * n + 2)
  | [], _ => ⟨rfl, Nat.zero_le _, rfl, Nat.zero_le _⟩
  | (a, b) :: r, h => by
    obtain ⟨i1, i2, i3, i4⟩ := all_kv (kvs := r) fun p m => h p (List.mem_cons_of_mem _ m)
    have ha : Sm k n a := (h (a, b) (by simp)).1
    have hb : Sm k n b := (h (a, b) (by simp)).2
    obtain ⟨a1, a2, a3, a4⟩ := ha.to
    obtain ⟨b1, b2, b3, b4⟩ := hb.to
    refine ⟨?_, ?_, ?_, ?_⟩
    · unfold PyData.showableKv; rw [a1, b1, i1]; rfl
    · unfold PyData.depthKv; omega
    · unfold PyData.leavesShortKv; rw [a3, b3, i3]; rfl
    · unfold PyData.weightKv; rw [List.length_cons, Nat.succ_mul]; omega
theorem Sm.dict {k n m : Nat} {kvs : List (PyData × PyData)} (h : ∀ p ∈ kvs, Sm k n p.1 ∧ Sm k n p.2) (hl : kvs.length ≤ m) : Sm (k + 1) (m * (2 * n + 2)) (.dict kvs) := by
  obtain ⟨i1, i2, i3, i4⟩ := all_kv h
  refine .of (by unfold PyData.showable; exact i1) (by unfold PyData.depth; omega) (by unfold PyData.leavesShort; exact i3) ?_
  unfold PyData.weight
  exact Nat.le_trans i4 (Nat.mul_le_mul_right _ hl)
theorem merge_new : ∀ {kvs acc : List (Key × V)}, ((acc ++ kvs).map (·.1)).Nodup → mergeK acc kvs = acc ++ kvs
  | [], acc, _ => by rw [List.append_nil]; rfl
  | kv :: r, acc, h => by
    have e : putK acc kv.1 kv.2 = acc ++ [kv] := by
      refine putK_new _ (valV_none fun x hx e => ?_)
      rw [List.map_append, List.nodup_append] at h
      exact h.2.2 x.1 (List.mem_map_of_mem hx) kv.1 (by simp) e
    show mergeK (putK acc kv.1 kv.2) r = _
    rw [e, merge_new (by rw [List.append_assoc]; exact h), List.append_assoc]
    rfl
/-- the rows as pairs for dict -/
theorem rows_pairs {K : PySem.W.Frag} {H : Hp} : ∀ {rows : List (Str × Int)} {xs : List V}, DtAll K H xs (rows.map rowPy) → ∃ ps : List Addr, xs = ps.map V.ref ∧ Paired (fun p kv => SqT K H p [kV kv.1, kv.2]) ps (rows.map fun r => ((Sum.inr r.1 : Key), V.int r.2))
  | [], _, h => by cases h; exact ⟨[], rfl, .nil⟩
  | r :: rs, _, h => by
    cases h with
    | cons h0 t =>
      obtain ⟨ps, rfl, hp⟩ := rows_pairs t
      obtain ⟨a, ys, rfl, hT, hA⟩ := h0.tup_inv
      cases hA with
      | cons y0 t1 => cases t1 with
      | cons y1 t2 => cases t2 with
      | nil =>
      cases y0
      cases y1
      exact ⟨a :: ps, rfl, .cons hT hp⟩
theorem pr_small {rs : List (Str × Int)} (h : PrOk rs) (hl : rs.length ≤ 13) : Sm 5 20000 (.dict (rs.map prD)) := by
  refine (Sm.dict (k := 0) (n := 10) (m := 13) (fun p hp => ?_) (by rw [List.length_map]; exact hl)).mono (by decide) (by decide)
  obtain ⟨r, hr, rfl⟩ := List.mem_map.mp hp
  obtain ⟨h1, h2, h3⟩ := h r hr
  exact ⟨(sm_name h1).mono (Nat.le_refl _) (by decide), Sm.int (by omega) (by omega)⟩
theorem dict_rows {rs : List (Str × Int)} (h : PrOk rs) (hl : rs.length ≤ 13) : ThingOk (.dict (rs.map prD)) := ⟨pr_small h hl, fun l e => by cases e⟩
def lateS : Str := "late"
theorem nameS_late : nameS lateS = true := by decide +kernel
theorem pr_put {rs : List (Str × Int)} (h : PrOk rs) : ∃ rs' : List (Str × Int), putK (rs.map prV) (Sum.inr lateS) (.int 1) = rs'.map prV ∧ PrOk rs' ∧ rs'.length ≤ rs.length + 1 := by
  unfold putK
  split
  · refine ⟨rs.map (fun r : Str × Int => if r.1 = lateS then (r.1, (1 : Int)) else r), ?_, ?_, by rw [List.length_map]; omega⟩
    · rw [List.map_map, List.map_map]
      refine List.map_congr_left fun r _ => ?_
      show (if (Sum.inr r.1 : Key) = Sum.inr lateS then (Sum.inr r.1, V.int 1) else (Sum.inr r.1, V.int r.2)) = prV (if r.1 = lateS then (r.1, (1 : Int)) else r)
      by_cases e : r.1 = lateS
      · rw [if_pos e, if_pos (congrArg Sum.inr e)]; rfl
      · rw [if_neg e, if_neg (fun z => e (Sum.inr.inj z))]; rfl
    · intro r hr
      obtain ⟨r0, hr0, rfl⟩ := List.mem_map.mp hr
      by_cases e : r0.1 = lateS
      · rw [if_pos e]; exact ⟨(h r0 hr0).1, (by decide : (0 : Int) ≤ 1), (by decide : (1 : Int) ≤ 4)⟩
      · rw [if_neg e]; exact h r0 hr0
  · refine ⟨rs ++ [((lateS : Str), (1 : Int))], by rw [List.map_append]; rfl, ?_, by simp⟩
    intro r hr
    rcases List.mem_append.mp hr with hr | hr
    · exact h r hr
    · rw [List.mem_singleton.mp hr]
      exact ⟨nameS_late, by decide, by decide⟩
def moreS (i : Nat) : Str := "a" ++ ⟨#[98 + i]⟩
theorem more_elem : ∀ i ∈ List.range 13, smB 1 100 (.tuple [.str (moreS i), .int ((i : Int) % 5)]) = true := by decide +kernel
def spOther (K : PySem.W.Frag) : Sp := fun vs H Q _ => ∃ (b : Addr) (n : Nat) (rw_ : Addr) (rows : List (Str × Int)), vs = [.ref b, .ref rw_] ∧ (∃ o, H b = some o ∧ Bag (n + 14) o) ∧ RowsOk rows ∧
  Dt K (hide H b) (.ref rw_) (.list (rows.map rowPy)) ∧ ∀ H' v d, Dr b n H H' → Thing K H H' b v d → Q v H'

end TS

namespace TS
open PySem PySem.Spec PyProof.Rows L2 TL

theorem Thing.plain {K : PySem.W.Frag} {H H' : Hp} {b : Addr} {v : V} {d : PyData} (t : ThingOk d) (h1 : isD "list" d = false) (h2 : isD "dict" d = false) (h : Dt K (hide H' b) v d) : Thing K H H' b v d := ⟨t, .inl ⟨h1, h2, h⟩⟩
theorem thingC {d : PyData} (h : smB 5 20000 d = true) (n : seqD d = none) : ThingOk d := ⟨h, fun ds e => by rw [n] at e; cases e⟩
theorem kind_tup {c : String} {l : List PyData} (h : (kitB "tuple" c == some true) = false) : isD c (.tuple l) = false := h
/-- what stands beside the bag stands beside a new list, too -/
theorem hide2_new {G G1 : Hp} {b T : Addr} {o : HO} (s : Same (hide G b) (hide G1 b)) (h : G1 T = none) : Same (hide G b) (hide2 (L2.upd G1 T o) b T) := fun a u e => by
  have e1 := s a u e
  have hb : a ≠ b := fun z => by rw [z, hide_self] at e1; cases e1
  have hT : a ≠ T := fun z => by rw [z, hide_ne (by rw [← z]; exact hb), h] at e1; cases e1
  rw [hide_ne hb] at e1
  exact hide2_at hb hT (by rw [upd_ne hT]; exact e1)
theorem ixN_here {n j : Nat} (h : j < n) : ixN n (j : Int) = some j := by
  unfold ixN
  rw [if_pos (by omega), if_pos (by omega)]
  simp
theorem hide2_of {H1 G : Hp} {b F : Addr} {n : Nat} (d : Dr b n H1 G) (h : H1 F = none) : Same (hide H1 b) (hide2 G b F) := fun a u e => by
  have hb : a ≠ b := fun z => by rw [z, hide_self] at e; cases e
  rw [hide_ne hb] at e
  exact hide2_at hb (ne_of_none e h) (d.fx a u hb e)
theorem dp_ints {K : PySem.W.Frag} {H : Hp} : ∀ gs : List Nat, DpAll K H (gs.map fun g => V.int (g : Nat)) (gs.map fun g => PyData.int (g : Nat))
  | [] => .nil
  | g :: r => .cons (.int _) (dp_ints r)
theorem sh_ints (gs : List Nat) : SeqAt.shaped (.list (gs.map fun g => PyData.int (g : Nat))) = true := by
  have a : ∀ gs : List Nat, PyData.canLayAll0 (gs.map fun g => PyData.int (g : Nat)) = true ∧ PyData.depthAll (gs.map fun g => PyData.int (g : Nat)) = 0 := fun gs => by
    induction gs with
    | nil => exact ⟨rfl, rfl⟩
    | cons g r ih =>
      rw [List.map_cons]
      unfold PyData.canLayAll0 PyData.depthAll
      rw [ih.1, ih.2]
      exact ⟨rfl, rfl⟩
  unfold SeqAt.shaped
  rw [show PyData.canLay0 (.list (gs.map fun g => PyData.int (g : Nat))) = PyData.canLayAll0 (gs.map fun g => PyData.int (g : Nat)) from rfl, (a gs).1, show PyData.depth (.list (gs.map fun g => PyData.int (g : Nat))) = PyData.depthAll (gs.map fun g => PyData.int (g : Nat)) + 1 from rfl, (a gs).2]
  rfl
section
variable {P : Program} {w : World} {K : PySem.W.Frag} {mg : Str → Option Value} {base : Heap}
abbrev s__law_otherwise : Stmt := top 28
theorem sc__law_otherwise : FnScope ["_law_box_here", "_law_rows_here", "_law_way", "_law_found", "_law_more", "_law_turn", "_law_good", "_law_at", "_law_k", "_law_row"] ["_law_box_here", "_law_rows_here"] (defScope s__law_otherwise) := ⟨rfl, rfl, rfl, by decide +kernel, rfl, by decide +kernel, by decide +kernel⟩

set_option maxHeartbeats 2000000 in
theorem ok_otherwise (bt : Bt mg) (p__law_take : Prom P w K mg base 1 "_law_take" ["_law_box_here", "_law_many"] spTake) (p__law_row_otherwise : Prom P w K mg base 2 "_law_row_otherwise" ["_law_box_here", "_law_rows_here", "_law_row"] (spRowO K))
    (D : Def K mg "_law_otherwise" s__law_otherwise) : Prom P w K mg base 3 "_law_otherwise" ["_law_box_here", "_law_rows_here"] (spOther K) := by
  refine prom_mk D sc__law_otherwise (fun vs H Q E h => ?_) (fun _ _ _ _ _ _ us hl => match us, hl with | [_, _], _ => rfl) (fun f cdv A outer s H vs Q E hr h => ?_)
  · obtain ⟨b, n, rw_, rows, rfl, _⟩ := h
    rfl
  · obtain ⟨b, n, rw_, rows, rfl, hb, ro, hrw, q⟩ := h
    refine ⟨_, (pss_cons (ps_set (i := 2) sc__law_otherwise.nd rfl (Or.inl rfl) (pe_pc p__law_take (hr.mono (by decide)) rfl (pa_cons (pv 0) (pa_cons pe_int pa_nil))))
      (pss_cons (ps_set (i := 3) sc__law_otherwise.nd rfl (Or.inl rfl) (pe_callTy (T := "list") (listK (K := K)) (by rfl) bt.list_ (by decide +kernel) (pa_cons (pv 1) pa_nil)))
      (pss_cons (ps_if (pt_cmpR op_eq (pv 2) pe_int (nomark _)) (pss_one (ps_ret (pe_ix (ix_listK (K := K)) (pe_lst (pa_cons pe_non (pa_cons pe_dnewK (pa_cons (pe_callTy (T := "dict") (call_dictP rfl) (by rfl) bt.dict_ (by decide +kernel) (pa_cons (pv 1) pa_nil)) (pa_cons pe_str (pa_cons pe_int (pa_cons pe_bl (pa_cons (pe_lst pa_nil) (pa_cons (pe_tup pa_nil) (pa_cons (pe_ix (ix_listK (K := K)) (pv 1) pe_int (fun _ _ => rfl)) pa_nil)))))))))) (pe_pc p__law_take (hr.mono (by decide)) rfl (pa_cons (pv 0) (pa_cons pe_int pa_nil))) (fun _ _ => rfl)))) pss_nil)
      (pss_cons (ps_if (pt_cmpR op_eq (pv 2) pe_int (nomark _)) (pss_cons (ps_setLc (i := 4) (own := [("_law_k", 8)]) (g := gName 8) rfl sc__law_otherwise.nd rfl rfl (sw_true rfl rfl rfl (by decide +kernel)) (pi_range1 rfl bt.range_ (pa_cons pe_int pa_nil)) (blkOk_by (N := ["_law_box_here", "_law_rows_here", "_law_way", "_law_found", "_law_more", "_law_turn", "_law_good", "_law_at", "_law_k", "_law_row"]) (sc := defScope s__law_otherwise) (by decide +kernel)) (fun _ _ _ _ _ => (pg_name (i := 8) sc__law_otherwise.nd rfl (Or.inl rfl))) (fun _ _ _ _ _ => pts_nil) (fun _ _ _ _ _ => (pe_tup (pa_cons (pe_op op_add_str pe_str (pe_ix ix_str pe_str (pv 8) (fun _ _ => rfl))) (pa_cons (pe_op op_mod (pv 8) pe_int) pa_nil)))))
      (pss_one (ps_ret (pe_slice (sl_listK (K := K)) (pv 4) po_none (po_some (pe_op op_add pe_int (pe_pc p__law_take (hr.mono (by decide)) rfl (pa_cons (pv 0) (pa_cons pe_int pa_nil))))))))) pss_nil)
      (pss_cons (ps_for PassesOwn.never rfl (pi_range1 rfl bt.range_ (pa_cons (pe_pc p__law_take (hr.mono (by decide)) rfl (pa_cons (pv 0) (pa_cons pe_int pa_nil))) pa_nil)) (pg_name (i := 5) sc__law_otherwise.nd rfl (Or.inl rfl)) (pss_cons (ps_setLc (i := 6) (own := [("_law_k", 8), ("_law_row", 9)]) rfl sc__law_otherwise.nd rfl rfl (sw_true rfl rfl rfl (by decide +kernel)) (pi_enumK (K := K) rfl rfl bt.enumerate_ (pa_cons (pv 3) pa_nil)) (blkOk_by (N := ["_law_box_here", "_law_rows_here", "_law_way", "_law_found", "_law_more", "_law_turn", "_law_good", "_law_at", "_law_k", "_law_row"]) (sc := defScope s__law_otherwise) (by decide +kernel)) (fun _ _ _ _ _ => (pg_tupK (K := K) (n := 2) rfl rfl (pgs_cons (pg_name (i := 8) sc__law_otherwise.nd rfl (Or.inl rfl)) (pgs_cons (pg_name (i := 9) sc__law_otherwise.nd rfl (Or.inl rfl)) pgs_nil)))) (fun _ _ _ _ _ => (pts_one (PW.pt (pw_and (pt_val (pe_callB (id := "isinstance") (isiK (K := K)) (by rfl) bt.isinstance_ (by decide +kernel) (pa_cons (pv 9) (pa_cons (pe_bltn (v := .ty "tuple") rfl bt.tuple_ (by decide +kernel) rfl) pa_nil)))) (pw_and1 (pt_cmpR op_eq (pe_callB (id := "len") (lenK (K := K)) (by rfl) bt.len_ (by decide +kernel) (pa_cons (pv 9) pa_nil)) pe_int (nomark _))))))) (fun _ _ _ _ _ => (pv 8)))
      (pss_one (ps_if (pt_cmpR (op_neDK (K := K) hr.units) (pv 6) (pe_lst pa_nil) (nomark _)) (pss_cons (ps_set (i := 7) sc__law_otherwise.nd rfl (Or.inl rfl) (pe_ix (ix_listK (K := K)) (pv 6) (pe_pc p__law_take (hr.mono (by decide)) rfl (pa_cons (pv 0) (pa_cons (pe_callB (id := "len") (lenK (K := K)) (by rfl) bt.len_ (by decide +kernel) (pa_cons (pv 6) pa_nil)) pa_nil))) (fun _ _ => rfl)))
      (pss_one (ps_asg (pe_pc p__law_row_otherwise (hr.mono (by decide)) rfl (pa_cons (pv 0) (pa_cons (pv 1) (pa_cons (pe_ix (ix_listK (K := K)) (pv 3) (pv 7) (fun _ _ => rfl)) pa_nil)))) (pg_sub (pv 3) (pv 7) set_list)))) pss_nil))))
      (pss_one (ps_ret (pe_ix (ix_listK (K := K)) (pe_lst (pa_cons (pv 3) (pa_cons (pe_callTy (T := "tuple") (tupleK (K := K)) (by rfl) bt.tuple_ (by decide +kernel) (pa_cons (pv 3) pa_nil)) pa_nil))) (pe_pc p__law_take (hr.mono (by decide)) rfl (pa_cons (pv 0) (pa_cons pe_int pa_nil))) (fun _ _ => rfl))))))))), ?_⟩
    refine ⟨_, rfl, b, _, n + 13, 6, rfl, hb.choose_spec.1, hb.choose_spec.2, by decide, by decide +kernel, fun wy o1 w0 w1 g1 => ?_⟩
    (generalize hG : L2.upd _ b _ = H1; have dr1 := dr_of hG g1; clear hG)
    have hrw1 := Dt.same dr1.hide hrw
    obtain ⟨_, rxs, erw, hrL', hrD'⟩ := hrw1.list_inv
    cases erw
    have hrL := hide_same.seq hrL'
    have hrD := DtAll.same hide_same hrD'
    refine ⟨_, rfl, rw_, _, rfl, .inl hrL, fun F hF => ?_⟩
    (generalize hG : L2.upd _ F _ = H2; have sF := same_of hG hF; have eF := at_of hG; clear hG)
    have DF : Dr b (n + 13) H1 H2 := Dr.same sF dr1.bag
    have nF := dr1.ne hF
    have D2 := dr1.trans DF
    have ne : ∀ {G : Hp} {p : Addr}, Same H2 G → G p = none → p ≠ b := fun sG hp => (Dr.same sG D2.bag).ne hp
    have fr : ∀ {G : Hp} {p : Addr}, Same H2 G → G p = none → H p = none := fun sG hp => D2.free (sG.free hp)
    refine ⟨_, rfl, rfl, _, rfl, ite2 (fun c => ?_) (fun c => ?_)⟩
    · intro l1 h1
      (generalize hG : L2.upd _ l1 _ = A1; have s1 := same_of hG h1; have e1 := at_of hG; clear hG)
      obtain ⟨ps, eps, hps⟩ := rows_pairs (DtAll.same (sF.trans s1) hrD)
      refine ⟨_, rfl, rw_, ps, _, rfl, by rw [← eps]; exact (sF.trans s1).seq hrL, hps, fun l2 h2 => ?_⟩
      rw [merge_new (acc := []) (by
        rw [List.nil_append, List.map_map]
        exact List.pairwise_map.mpr ((List.pairwise_map.mp ro.nd).imp fun z e => z (Sum.inr.inj e))), List.nil_append]
      (generalize hG : L2.upd _ l2 _ = A2; have s2 := same_of hG h2; have e2 := at_of hG; clear hG)
      refine ⟨(by show 0 ≤ sizeLine; decide), fun l3 h3 => ?_⟩
      (generalize hG : L2.upd _ l3 _ = A3; have s3 := same_of hG h3; have e3 := at_of hG; clear hG)
      refine ⟨(by show 0 ≤ sizeLine; decide), fun l4 h4 => ?_⟩
      (generalize hG : L2.upd _ l4 _ = A4; have s4 := same_of hG h4; have e4 := at_of hG; clear hG)
      have t3 := s4
      have t2 := s3.trans t3
      have t1 := s2.trans t2
      have t0 := s1.trans t1
      obtain ⟨r0, rest, rfl⟩ : ∃ r rest, rows = r :: rest := by
        cases rows with
        | nil => exact absurd ro.some_ (by decide)
        | cons r rest => exact ⟨r, rest, rfl⟩
      cases hrD' with
      | @cons w0 ws _ _ hw0 hws =>
      have hrL2 : SqL K A4 rw_ (w0 :: ws) := (sF.trans t0).seq (hide_same.seq hrL')
      refine ⟨_, rfl, rw_, _, _, w0, rfl, rfl, hrL2, atI_nat (j := 0) rfl, (by show 9 ≤ sizeLine; decide), fun l5 h5 => ?_⟩
      (generalize hG : L2.upd _ l5 _ = A5; have s5 := same_of hG h5; have e5 := at_of hG; clear hG)
      have D5 : Dr b (n + 13) H2 A5 := Dr.same (t0.trans s5) D2.bag
      have n1 := ne (Same.refl _) h1
      have n2 := ne s1 h2
      have n3 := ne (s1.trans s2) h3
      have n4 := ne (s1.trans (s2.trans s3)) h4
      have n5 := ne t0 h5
      have f1 := fr (Same.refl _) h1
      have f2 := fr s1 h2
      have f3 := fr (s1.trans s2) h3
      refine ⟨_, rfl, b, _, n + 12, 9, rfl, D5.bag.choose_spec.1, D5.bag.choose_spec.2, by decide, by decide +kernel, fun k o2 k0 k1 g2 => ?_⟩
      (generalize hG : L2.upd _ b _ = G; have dr2 := dr_of hG g2; clear hG)
      have DD := D5.trans dr2
      have D0 : Dr b n H G := (D2.trans DD).mono (by omega)
      have L5 : SqL K G l5 _ := .inl (.inl (dr2.at n5 e5))
      have g : ∀ {p : Addr} {u : HO}, p ≠ b → A5 p = some u → G p = some u := fun h e => dr2.at h e
      have gh : ∀ {p : Addr} {u : HO}, p ≠ b → A5 p = some u → hide G b p = some u := fun h e => by rw [hide_ne h]; exact dr2.at h e
      have c9 : k = 0 ∨ k = 1 ∨ k = 2 ∨ k = 3 ∨ k = 4 ∨ k = 5 ∨ k = 6 ∨ k = 7 ∨ k = 8 := by omega
      rcases c9 with rfl | rfl | rfl | rfl | rfl | rfl | rfl | rfl | rfl
      · exact ⟨l5, _, _, _, rfl, rfl, L5, rfl, q G _ .none D0 (.plain (thingC (by decide +kernel) rfl) (by decide +kernel) (by decide +kernel) .non)⟩
      · exact ⟨l5, _, _, _, rfl, rfl, L5, rfl, q G _ (.dict []) D0 ⟨thingC (by decide +kernel) rfl, .inr (.inr ⟨l1, [], rfl, rfl, f1, n1, g n1 (s5 _ _ (t1 _ _ e1)), by decide, fun r hr => by cases hr⟩)⟩⟩
      · have pok : PrOk (r0 :: rest) := fun r hr => ⟨ro.names r hr, ro.lo r hr, ro.hi r hr⟩
        exact ⟨l5, _, _, _, rfl, rfl, L5, rfl, q G _ _ D0 ⟨dict_rows pok (Nat.le_trans ro.few (by decide)), .inr (.inr ⟨l2, r0 :: rest, rfl, rfl, f2, n2, g n2 (s5 _ _ (t2 _ _ e2)), ro.few, pok⟩)⟩⟩
      · exact ⟨l5, _, _, _, rfl, rfl, L5, rfl, q G _ (.str "a") D0 (.plain (thingC (by decide +kernel) rfl) (by decide +kernel) (by decide +kernel) (.str "a"))⟩
      · exact ⟨l5, _, _, _, rfl, rfl, L5, rfl, q G _ (.int 5) D0 (.plain (thingC (by decide +kernel) rfl) (by decide +kernel) (by decide +kernel) (.int 5))⟩
      · exact ⟨l5, _, _, _, rfl, rfl, L5, rfl, q G _ (.bool true) D0 (.plain (thingC (by decide +kernel) rfl) (by decide +kernel) (by decide +kernel) (.bl true))⟩
      · exact ⟨l5, _, _, _, rfl, rfl, L5, rfl, q G _ (.list []) D0 ⟨thing_list (fun d h => by simp at h) (by decide), .inr (.inl ⟨l3, [], [], rfl, rfl, f3, n3, g n3 (s5 _ _ (t3 _ _ e3)), .nil⟩)⟩⟩
      · exact ⟨l5, _, _, _, rfl, rfl, L5, rfl, q G _ (.tuple []) D0 (.plain (thing_tup (fun d h => by simp at h) (by decide)) (by decide +kernel) (by decide +kernel) (.tup (.inl (.inl (gh n4 (s5 _ _ e4)))) .nil))⟩
      · have er := elem_row (ro.names r0 (by simp)) (ro.lo r0 (by simp)) (ro.hi r0 (by simp))
        exact ⟨l5, _, _, _, rfl, rfl, L5, rfl, q G _ (rowPy r0) D0 (.plain ⟨er.1.mono (by decide) (by decide), fun ds e => by cases e; show 2 ≤ 13; decide⟩ (kind_tup (by decide +kernel)) (kind_tup (by decide +kernel)) (Dt.same (DF.trans DD).hide hw0))⟩
    · refine ⟨_, rfl, rfl, _, rfl, ite2 (fun c1 => ?_) (fun c1 => ?_)⟩
      · refine ⟨_, rfl, by decide, by decide, fun R hR => ?_⟩
        refine lc_draw (k := 0) (N := n + 13) walk_range (fun i G v => Dt K G v (.tuple [.str (moreS i), .int ((i : Int) % 5)])) (fun i G G' v s h => Dt.same s h) (fun _ _ => trivial) (by decide) hR D2.bag (fun _ => rfl) (fun i k G C hi fx hb3 hD3 kk => ?_) (fun G xs dG hlx hx eR neR => ?_)
        · have hi13 : i < 13 := hi
          have cc : ((("bcdefghijklmn" : Str)).cps.toList)[i]? = some (98 + i) := (by decide +kernel : ∀ j ∈ List.range 13, ((("bcdefghijklmn" : Str)).cps.toList)[j]? = some (98 + j)) _ (List.mem_range.mpr hi13)
          have at_ := atI_nat cc
          rw [show ((i : Nat) : Int) = 0 + (i : Int) by omega] at at_
          refine ⟨_, rfl, _, _, _, rfl, rfl, by decide +kernel, at_, _, _, rfl, rfl, ?_, _, rfl, _, _, rfl, rfl, (by show (0 : Int) < 5; decide), (by show 2 ≤ sizeLine; decide), fun t ht => ?_⟩
          · exact sz5 (by show (1 : Nat) + 1 ≤ 100000; decide)
          · have nt := (Dr.refl hb3).ne ht
            (generalize hG : L2.upd _ t _ = G1; have sT := same_of hG ht; have eT := at_of hG; clear hG)
            refine kk _ _ (.tup (.inl (.inl (hide2_at nt ?_ eT))) (.cons (.str _) (.cons ?_ .nil))) (Dr.same sT hb3)
            · obtain ⟨oR, eoR⟩ := hD3
              exact fun z => by rw [z, eoR] at ht; cases ht
            · rw [show (0 : Int) + (i : Int) = (i : Int) by omega]
              exact .int _
        · have DG := D2.trans dG
          refine ⟨_, rfl, _, rfl, b, _, n + 12, 2, rfl, dG.bag.choose_spec.1, dG.bag.choose_spec.2, by decide, by decide +kernel, fun k o2 k0 k1 g2 => ?_⟩
          (generalize hG : L2.upd _ b _ = G1; have dr2 := dr_of hG g2; clear hG)
          obtain ⟨kn, rfl⟩ : ∃ j : Nat, k = j := ⟨k.toNat, by omega⟩
          refine ⟨_, _, rfl, rfl, _, rfl, R, xs, rfl, .inl (.inl (dr2.at neR eR)), fun T hT => ?_⟩
          have hlx' : xs.length = 13 := hlx
          have ec : cutV xs none (some (12 + (kn : Int))) = xs.take (12 + kn) := by
            unfold cutV
            rw [HT.sIx_none, show (12 : Int) + (kn : Int) = ((12 + kn : Nat) : Int) by omega, HT.sIx_nat, Nat.min_eq_left (by omega), Nat.sub_zero, List.drop_zero]
          rw [ec]
          have nT := dr2.ne hT
          have ht := (DG.trans dr2).free hT
          have E1 := (Dr.refl dr2.bag).new (o := .lst (xs.take (12 + kn))) hT
          refine q _ _ (.list (((List.range 13).map fun i => PyData.tuple [.str (moreS i), .int ((i : Int) % 5)]).take (12 + kn))) ((DG.trans (dr2.trans E1)).mono (by omega)) ⟨?_, .inr (.inl ⟨T, xs.take (12 + kn), _, rfl, rfl, ht, nT, upd_same .., ?_⟩)⟩
          · refine ⟨(Sm.list (m := 13) (k := 1) (n := 100) (fun d hd => ?_) (by simp; omega)).mono (by decide) (by decide), fun ds e => by cases e; simp; omega⟩
            obtain ⟨i, hi, rfl⟩ := List.mem_map.mp (List.mem_of_mem_take hd)
            exact more_elem i hi
          · refine DtAll.of (by simp [hlx']) fun i x d hx' hd => ?_
            have il : i < 12 + kn := by
              have := (List.getElem?_eq_some_iff.mp hx').1
              rw [List.length_take] at this
              omega
            rw [List.getElem?_take_of_lt il] at hx' hd
            have i13 : i < 13 := by omega
            rw [List.getElem?_map, List.getElem?_range i13] at hd
            cases hd
            refine Dt.same ?_ (hx i x hx')
            refine (hide_same (b := R)).trans ?_
            exact hide2_new (dr2.hide) hT
      · refine ⟨_, rfl, b, _, n + 12, 3, rfl, D2.bag.choose_spec.1, D2.bag.choose_spec.2, by decide, by decide +kernel, fun tn o2 t0 t1 g2 => ?_⟩
        (generalize hG : L2.upd _ b _ = G0; have dr2 := dr_of hG g2; clear hG)
        refine ⟨_, rfl, by omega, by omega, ?_⟩
        have few := ro.few
        have D0 := DF.trans dr2
        refine for_it walk_range (fun i τ G => (∃ y4 y5 y6 y7 y8 y9, τ = [some (.ref b), some (.ref rw_), some (.int wy), some (.ref F), y4, y5, y6, y7, y8, y9]) ∧ Dr b (n + 12 - 3 * i) H1 G ∧ ∃ (xs : List V) (ds : List PyData), G F = some (.lst xs) ∧
          DtAll K (hide2 G b F) xs ds ∧ (∀ d ∈ ds, Elem d) ∧ ds.length ≤ 12) ⟨⟨_, _, _, _, _, _, rfl⟩, D0, rxs, rows.map rowPy, dr2.at nF eF, DtAll.same (hide2_of D0 hF) hrD', ?_, by rw [List.length_map]; exact few⟩ (fun _ _ _ _ _ => trivial) ?_ ?_
        · intro d hd
          obtain ⟨r, hr, rfl⟩ := List.mem_map.mp hd
          exact elem_row (ro.names r hr) (ro.lo r hr) (ro.hi r hr)
        · rintro i x τ GG G hi ⟨⟨y4, y5, y6, y7, y8, y9, rfl⟩, dG, xs, ds, eF1, hA, hE, hl12⟩ ⟨rfl, rfl⟩
          have hi2 : i < 2 := by omega
          have hl := hA.length
          have hAG := DtAll.same (hide_same.trans hide_same) hA
          refine ⟨_, rfl, F, xs, rfl, .inl (.inl eF1), fun L hL => ?_⟩
          refine lc_it walk_enum (fun j G1 => Same G G1 ∧ ∃ gs : List Nat, G1 L = some (.lst (gs.map fun g => V.int (g : Nat))) ∧ (∀ g ∈ gs, ∃ x y, ds[g]? = some (.tuple [x, y])) ∧ gs.length ≤ j) ⟨Same.new (Same.refl _) hL, [], upd_same .., by simp, Nat.le_refl _⟩ (fun j G1 _ p => .inl (.inl (p.1 _ _ eF1))) ?_ ?_
          · rintro j v G1 G2 hj ⟨sG, gs, eL, hg, gl⟩ ⟨T, u, x, rfl, hT, rfl, eu, hx⟩
            cases eu
            obtain ⟨dj, hdj, hxj⟩ := hAG.get hx
            have sT : Same G1 (L2.upd G1 T (.tup [.int (j : Nat), x])) := Same.new (Same.refl _) hT
            have sA := sG.trans sT
            have hxA := Dt.same sA hxj
            refine ⟨T, _, rfl, .inl (.inl (upd_same ..)), rfl, _, _, rfl, _, _, rfl, rfl, rfl, ?_⟩
            have no : ∀ o : HO, True := fun _ => trivial
            refine ⟨_, rfl, _, _, _, _, isD "tuple" dj, rfl, .ty "tuple", hxA.ty, isi_tuple, _, rfl, ?_⟩
            have stay : Same G (L2.upd G1 T (.tup [.int (j : Nat), x])) ∧ ∃ gs : List Nat, (L2.upd G1 T (.tup [.int (j : Nat), x])) L = some (.lst (gs.map fun g => V.int (g : Nat))) ∧ (∀ g ∈ gs, ∃ x y, ds[g]? = some (.tuple [x, y])) ∧ gs.length ≤ j + 1 := ⟨sA, gs, sT _ _ eL, hg, by omega⟩
            cases ct : isD "tuple" dj with
            | false => exact iteF (iteF stay)
            | true =>
              obtain ⟨l, rfl⟩ := isD_tuple ct
              obtain ⟨r, ys, rfl, hrT, hrA⟩ := hxA.tup_inv
              have hrl := hrA.length
              refine iteT ⟨_, rfl, _, _, rfl, .inr ⟨ys, hrT, rfl⟩, rfl, _, rfl, ?_⟩
              rw [eqV_int]
              by_cases h2 : l.length = 2
              · obtain ⟨d0, d1, rfl⟩ := two_of h2
                refine iteT' (decide_eq_true (by omega)) ⟨_, rfl, _, sT _ _ eL, ?_, ?_, gs ++ [j], ?_, ?_, by simp; omega⟩
                · rw [List.length_map]
                  exact sz5' (by omega)
                · intro a o e
                  rw [upd_ne (ne_of_none e hL)]
                  exact sA _ _ e
                · rw [upd_same, List.map_append]
                  rfl
                · intro g hgm
                  rcases List.mem_append.mp hgm with hgm | hgm
                  · exact hg g hgm
                  · rw [List.mem_singleton.mp hgm]
                    exact ⟨d0, d1, hdj⟩
              · exact iteF' (decide_eq_false (by omega)) stay
          · rintro G1 ⟨sG, gs, eL, hg, gl⟩
            refine ⟨_, rfl, (by show 0 ≤ sizeLine; decide), fun N hN => ?_⟩
            (generalize hG : L2.upd _ N _ = G2; have sN := same_of hG hN; have eN := at_of hG; clear hG)
            have S2 := sG.trans sN
            have eL2 := sN _ _ eL
            refine ⟨.list (gs.map fun g => .int (g : Nat)), .list [], .lst (.inl (.inl eL2)) (dp_ints gs), .lst (.inl (.inl eN)) .nil, sh_ints gs, rfl, _, rfl, ?_⟩
            cases gs with
            | nil =>
              refine iteF ⟨⟨_, _, _, _, _, _, rfl⟩, ?_⟩
              have d2 : Dr b (n + 12 - 3 * i) G G2 := Dr.same S2 dG.bag
              exact ⟨(dG.trans d2).mono (by omega), xs, ds, S2 _ _ eF1, DtAll.same (hide2_fx fun a o _ _ e => S2 a o e) hA, hE, hl12⟩
            | cons g0 gr =>
              refine iteT ?_
              have d2 : Dr b (n + 12 - 3 * i) G G2 := Dr.same S2 dG.bag
              have eb := d2.bag
              have hglen : ((g0 :: gr).map fun g => V.int (g : Nat)).length = (g0 :: gr).length := List.length_map ..
              refine ⟨_, rfl, _, rfl, _, rfl, _, _, rfl, .inl ⟨_, .inl (.inl eL2), rfl⟩, b, _, n + 12 - 3 * i - 1, _, rfl, eb.choose_spec.1, eb.choose_spec.2.mono (by omega), ?_, ?_, fun k o4 k0 k1 g4 => ?_⟩
              · rw [hglen, List.length_cons]; omega
              · rw [hglen]
                have : ((g0 :: gr).length : Int) ≤ 12 := by omega
                exact Int.lt_of_le_of_lt this (by decide +kernel)
              (generalize hG : L2.upd _ b _ = G4; have dr4 := dr_of hG g4; clear hG)
              obtain ⟨kv, hkv, hkm⟩ := atI_in (xs := (g0 :: gr).map fun g => V.int (g : Nat)) k0 k1
              obtain ⟨g, hgm, rfl⟩ := List.mem_map.mp hkm
              obtain ⟨d0, d1, hdg⟩ := hg g hgm
              obtain ⟨xg, hxg, hDg⟩ := hA.getD hdg
              have nL : L ≠ b := dG.ne hL
              have D4 := dG.trans (d2.trans dr4)
              refine ⟨L, _, _, _, rfl, rfl, .inl (.inl (dr4.at nL eL2)), hkv, ?_⟩
              have eF4 := (d2.trans dr4).at nF eF1
              have hs : Same (hide2 G b F) (hide2 G4 b F) := hide2_fx fun a o h _ e => (d2.trans dr4).fx a o h e
              have pe := hE _ (List.mem_of_getElem? hdg)
              have pp := pe.2 d0 d1 rfl
              refine ⟨_, rfl, _, rfl, _, rfl, _, rfl, F, _, _, xg, rfl, rfl, .inl (.inl eF4), atI_nat hxg, b, n + 12 - 3 * (i + 1), rw_, rows, xg, d0, d1, F, _, rfl, nF, eF4, ?_, ro, Dt.same D4.hide hrw1, Dt.same hs hDg, pp.1, pp.2, fun G5 v d d5 el dv => ?_⟩
              · obtain ⟨o, e, gg⟩ := dr4.bag
                exact ⟨o, e, gg.mono (by omega)⟩
              · have eF5 := d5.at nF eF4
                have gx : g < xs.length := (List.getElem?_eq_some_iff.mp hxg).1
                refine ⟨_, rfl, _, rfl, F, _, _, g, rfl, rfl, eF5, ixN_here gx, ⟨_, _, _, _, _, _, rfl⟩, ⟨fun a o ha e => ?_, ?_⟩, xs.set g v, ds.set g d, upd_same .., ?_, ?_, by rw [List.length_set]; exact hl12⟩
                · rw [upd_ne (ne_of_none e hF)]
                  exact (D4.trans d5).fx a o ha e
                · obtain ⟨o, e, gg⟩ := d5.bag
                  exact ⟨o, by rw [upd_ne nF.symm]; exact e, gg⟩
                · have s5 : Same (hide2 G5 b F) (hide2 (L2.upd G5 F (.lst (xs.set g v))) b F) := hide2_fx fun a o _ h e => by rw [upd_ne h]; exact e
                  exact DtAll.set (DtAll.same (hs.trans ((hide2_fx fun a o h _ e => d5.fx a o h e).trans s5)) hA) (Dt.same s5 dv)
                · intro e he
                  rcases List.mem_or_eq_of_mem_set he with he | he
                  · exact hE e he
                  · rw [he]; exact el
        · rintro τ G ⟨⟨y4, y5, y6, y7, y8, y9, rfl⟩, dG, xs, ds, eF1, hA, hE, hl12⟩
          have hAG := DtAll.same hide_same hA
          refine ⟨_, rfl, _, rfl, F, _, rfl, .inl ⟨.inl (.inl eF1), fun T hT => ?_⟩⟩
          (generalize hG : L2.upd _ T _ = G1; have sT := same_of hG hT; have eT := at_of hG; clear hG)
          refine ⟨(by show 2 ≤ sizeLine; decide), fun R hR => ?_⟩
          (generalize hG : L2.upd _ R _ = G2; have sR := same_of hG hR; have eR := at_of hG; clear hG)
          have S2 := sT.trans sR
          have d2 := Dr.same S2 dG.bag
          have nT := dG.ne hT
          have nR : R ≠ b := (Dr.same sT dG.bag).ne hR
          have tn2 : (tn.toNat : Nat) ≤ 2 := by omega
          refine ⟨_, rfl, b, _, n, 2, rfl, d2.bag.choose_spec.1, d2.bag.choose_spec.2.mono (by omega), by decide, by decide +kernel, fun k o4 k0 k1 g4 => ?_⟩
          (generalize hG : L2.upd _ b _ = G4; have dr4 := dr_of hG g4; clear hG)
          have DE := (dG.trans d2).trans dr4
          have eF4 := (d2.trans dr4).at nF eF1
          have c2 : k = 0 ∨ k = 1 := by omega
          rcases c2 with rfl | rfl
          · exact ⟨R, _, _, _, rfl, rfl, .inl (.inl (dr4.at nR eR)), rfl, q G4 _ (.list ds) (dr1.trans DE) ⟨thing_list hE (by omega), .inr (.inl ⟨F, xs, ds, rfl, rfl, dr1.free hF, nF, eF4, DtAll.same (hide2_fx fun a o h _ e => (d2.trans dr4).fx a o h e) hA⟩)⟩⟩
          · refine ⟨R, _, _, _, rfl, rfl, .inl (.inl (dr4.at nR eR)), rfl, q G4 _ (.tuple ds) (dr1.trans DE) (.plain (thing_tup hE (by omega)) (kind_tup (by decide +kernel)) (kind_tup (by decide +kernel)) (.tup (.inl (.inl ?_)) (DtAll.same (d2.trans dr4).hide hAG)))⟩
            rw [hide_ne nT]
            exact dr4.at nT (sR _ _ eT)
end

end TS

namespace TS
open PySem PySem.Spec PyProof.Rows L2 TL

/-! ### the law -/
def spLaw (K : PySem.W.Frag) : Sp := fun vs H Q _ => ∃ (a : Addr) (ns : List Int), vs = [.ref a] ∧ SqL K H a (ns.map V.int) ∧ ns.length ≤ 63 ∧ ∀ H', Q (.bl true) H'
theorem Thing.dt {K : PySem.W.Frag} {H H' : Hp} {b : Addr} {v : V} {d : PyData} (t : Thing K H H' b v d) : Dt K (hide H' b) v d := by
  rcases t.2 with ⟨_, _, h⟩ | ⟨a, xs, ds, rfl, rfl, _, nb, e, h⟩ | ⟨a, rs, rfl, rfl, _, nb, e, _, _⟩
  · exact h
  · exact .lst (.inl (.inl (by rw [hide_ne nb]; exact e))) (DtAll.same hide_same h)
  · exact pr_dt (by rw [hide_ne nb]; exact e)
theorem Thing.weight {K : PySem.W.Frag} {H H' : Hp} {b : Addr} {v : V} {d : PyData} (t : Thing K H H' b v d) : d.weight ≤ 100000 := Nat.le_trans t.1.1.to.2.2.2 (by decide)
theorem units1 {k : Nat} {A : Around} (r : Room k A) : A.units + 1 < cLine := by
  have := r.units
  omega
theorem noDiff {z : Str} : (!decide (V.str z = V.str z)) = false := by simp
theorem sm_none {d : PyData} {k n : Nat} (h : Sm k n d) (z : Str) (hz : smB k n (.str z) = true) : Sm (k + 1) (2 * (n + 1)) (.tuple [.str z, d]) := Sm.tuple (fun e he => by
  simp only [List.mem_cons, List.not_mem_nil, or_false] at he
  rcases he with rfl | rfl
  · exact hz
  · exact h) (by simp)
theorem show_mem : ∀ {ds : List PyData} {d : PyData}, PyData.showableAll ds = true → d ∈ ds → d.showable = true
  | x :: r, d, h, m => by
    unfold PyData.showableAll at h
    obtain ⟨h1, h2⟩ := Bool.and_eq_true_iff.mp h
    rcases List.mem_cons.mp m with e | m
    · rw [e]; exact h1
    · exact show_mem h2 m
theorem short_mem : ∀ {ds : List PyData} {d : PyData}, PyData.leavesShortAll 40 ds = true → d ∈ ds → d.leavesShort 40 = true
  | x :: r, d, h, m => by
    unfold PyData.leavesShortAll at h
    obtain ⟨h1, h2⟩ := Bool.and_eq_true_iff.mp h
    rcases List.mem_cons.mp m with e | m
    · rw [e]; exact h1
    · exact short_mem h2 m
theorem deep_mem : ∀ {ds : List PyData} {d : PyData}, d ∈ ds → d.depth ≤ PyData.depthAll ds
  | x :: r, d, m => by
    unfold PyData.depthAll
    rcases List.mem_cons.mp m with e | m
    · rw [e]; omega
    · have := deep_mem m; omega
theorem kind_list {c : String} {l : List PyData} (h : (kitB "list" c == some true) = false) : isD c (.list l) = false := h
theorem kind_dict {c : String} {l : List (PyData × PyData)} (h : (kitB "dict" c == some true) = false) : isD c (.dict l) = false := h
theorem weightAll_app : ∀ (l : List PyData) (d : PyData), PyData.weightAll (l ++ [d]) = PyData.weightAll l + (d.weight + 1)
  | [], d => by show PyData.weightAll [d] = _; unfold PyData.weightAll; unfold PyData.weightAll; omega
  | x :: r, d => by
    show PyData.weightAll (x :: (r ++ [d])) = PyData.weightAll (x :: r) + _
    unfold PyData.weightAll
    rw [weightAll_app r d]
    omega
theorem late_list {ds : List PyData} (h : ThingOk (.list ds)) : Sm 5 21000 (.list (ds ++ [.str "late"])) := by
  obtain ⟨a, b, c, e⟩ := h.1.to
  unfold PyData.showable at a
  unfold PyData.depth at b
  unfold PyData.leavesShort at c
  unfold PyData.weight at e
  refine .of ?_ ?_ ?_ ?_
  · unfold PyData.showable
    exact all_show fun d hd => (List.mem_append.mp hd).elim (fun m => show_mem a m) (fun m => by rw [List.mem_singleton.mp m]; rfl)
  · unfold PyData.depth
    have := all_deep (k := 4) (ds := ds ++ [.str "late"]) fun d hd => (List.mem_append.mp hd).elim (fun m => Nat.le_trans (deep_mem m) (by omega)) (fun m => by rw [List.mem_singleton.mp m]; exact Nat.zero_le _)
    omega
  · unfold PyData.leavesShort
    exact all_short fun d hd => (List.mem_append.mp hd).elim (fun m => short_mem c m) (fun m => by rw [List.mem_singleton.mp m]; decide +kernel)
  · unfold PyData.weight
    rw [weightAll_app]
    have : (PyData.str "late").weight = 4 := by decide +kernel
    omega
section
variable {P : Program} {w : World} {K : PySem.W.Frag} {mg : Str → Option Value} {base : Heap}
abbrev s_law : Stmt := top 30
theorem sc_law : FnScope ["_law_script", "_law_k", "_law_box_here", "_law_rows_here", "_law_turn", "_law_thing", "_law_kept", "_law_good", "_law_found"] ["_law_script"] (defScope s_law) := ⟨rfl, rfl, rfl, by decide +kernel, rfl, by decide +kernel, by decide +kernel⟩

set_option maxHeartbeats 800000 in
theorem ok_law (Y : Sys K) (bt : Bt mg) (p__law_cell : Prom P w K mg base 1 "_law_cell" ["_law_script", "_law_k"] (spCell K)) (p__law_box : Prom P w K mg base 1 "_law_box" ["_law_cell_here"] spBag)
    (p__law_rows : Prom P w K mg base 3 "_law_rows" ["_law_box_here"] (spDRows K)) (p__law_otherwise : Prom P w K mg base 3 "_law_otherwise" ["_law_box_here", "_law_rows_here"] (spOther K)) (p__law_are_words : Prom P w K mg base 2 "_law_are_words" ["_law_thing"] (spRows K))
    (p__law_caught : Prom P w K mg base 6 "_law_caught" ["_law_thing"] (spCaught K))
    {fL : Addr} {fdL : FuncData} (FL : FunD K "law" "law" (defArgs s_law) (defBody s_law) (defScope s_law) [] [] fL fdL) : FnG P w K mg base CX0 8 fL fdL ["_law_script"] (spLaw K) := by
  refine fnG_mk FL sc_law (fun vs H Q E h => ?_) (fun f cdv A outer s H vs Q E hgd hr h => ?_)
  · obtain ⟨a, ns, rfl, _⟩ := h
    rfl
  · obtain ⟨a, ns, rfl, hS, hl, q⟩ := h
    refine ⟨_, (pss_cons (ps_for PassesOwn.never rfl (pi_range1 rfl bt.range_ (pa_cons (pe_callB (id := "max") (call_max2 rfl) (by rfl) bt.max_ (by decide +kernel) (pa_cons pe_int (pa_cons (pe_callB (id := "min") (call_min2 rfl) (by rfl) bt.min_ (by decide +kernel) (pa_cons pe_int (pa_cons (pe_callB (id := "len") (lenK (K := K)) (by rfl) bt.len_ (by decide +kernel) (pa_cons (pv 0) pa_nil)) pa_nil))) pa_nil))) pa_nil)) (pg_name (i := 1) sc_law.nd rfl (Or.inl rfl)) (pss_cons (ps_set (i := 2) sc_law.nd rfl (Or.inl rfl) (pe_pc p__law_box (hr.mono (by decide)) rfl (pa_cons (pe_pc p__law_cell (hr.mono (by decide)) rfl (pa_cons (pv 0) (pa_cons (pv 1) pa_nil))) pa_nil)))
      (pss_cons (ps_set (i := 3) sc_law.nd rfl (Or.inl rfl) (pe_pc p__law_rows (hr.mono (by decide)) rfl (pa_cons (pv 2) pa_nil)))
      (pss_one (ps_for PassesOwn.never rfl (pi_range1 rfl bt.range_ (pa_cons pe_int pa_nil)) (pg_name (i := 4) sc_law.nd rfl (Or.inl rfl)) (pss_cons (ps_set (i := 5) sc_law.nd rfl (Or.inl rfl) (pe_pc p__law_otherwise (hr.mono (by decide)) rfl (pa_cons (pv 2) (pa_cons (pv 3) pa_nil))))
      (pss_cons (ps_set (i := 6) sc_law.nd rfl (Or.inl rfl) (pe_callB (id := "repr") (reprK (K := K) Y hgd hr.units) (by rfl) bt.repr_ (by decide +kernel) (pa_cons (pv 5) pa_nil)))
      (pss_cons (ps_set (i := 7) sc_law.nd rfl (Or.inl rfl) (pe_pc p__law_are_words (hr.mono (by decide)) rfl (pa_cons (pv 5) pa_nil)))
      (pss_cons (ps_set (i := 8) sc_law.nd rfl (Or.inl rfl) (pe_pc p__law_caught (hr.mono (by decide)) rfl (pa_cons (pv 5) pa_nil)))
      (pss_cons (ps_if (PW.pt (pw_or (pt_cmpR op_ne (pe_callB (id := "repr") (reprK (K := K) Y hgd hr.units) (by rfl) bt.repr_ (by decide +kernel) (pa_cons (pv 5) pa_nil)) (pv 6) (nomark _)) (pw_or1 (PW.pt (pw_and (pt_truth (pv 7) (by intro _; rfl)) (pw_and1 (pt_cmpR op_ne (pe_callB (id := "repr") (reprK (K := K) Y hgd hr.units) (by rfl) bt.repr_ (by decide +kernel) (pa_cons (pv 8) pa_nil)) (pe_callB (id := "repr") (reprK (K := K) Y hgd hr.units) (by rfl) bt.repr_ (by decide +kernel) (pa_cons (pe_tup (pa_cons pe_str (pa_cons (pe_callB (id := "len") (lenK (K := K)) (by rfl) bt.len_ (by decide +kernel) (pa_cons (pv 5) pa_nil)) pa_nil))) pa_nil)) (nomark _)))))))) (pss_one (ps_ret pe_bl)) pss_nil)
      (pss_cons (ps_if (PW.pt (pw_and (pt_not (pt_truth (pv 7) (by intro _; rfl))) (pw_and1 (pt_val (pe_callB (id := "isinstance") (isiK (K := K)) (by rfl) bt.isinstance_ (by decide +kernel) (pa_cons (pv 5) (pa_cons (pe_bltn (v := .ty "list") rfl bt.list_ (by decide +kernel) rfl) pa_nil))))))) (pss_one (ps_expr (pe_appendK (K := K) rfl (pv 5) pe_str))) pss_nil)
      (pss_cons (ps_if (PW.pt (pw_and (pt_not (pt_truth (pv 7) (by intro _; rfl))) (pw_and1 (pt_val (pe_callB (id := "isinstance") (isiK (K := K)) (by rfl) bt.isinstance_ (by decide +kernel) (pa_cons (pv 5) (pa_cons (pe_bltn (v := .ty "dict") rfl bt.dict_ (by decide +kernel) rfl) pa_nil))))))) (pss_one (ps_dput (units1 hr) (pv 5) pe_str pe_int rfl)) pss_nil)
      (pss_one (ps_if (PW.pt (pw_and (pt_not (pt_truth (pv 7) (by intro _; rfl))) (pw_and1 (pt_cmpR op_ne (pe_callB (id := "repr") (reprK (K := K) Y hgd hr.units) (by rfl) bt.repr_ (by decide +kernel) (pa_cons (pv 8) pa_nil)) (pe_callB (id := "repr") (reprK (K := K) Y hgd hr.units) (by rfl) bt.repr_ (by decide +kernel) (pa_cons (pe_tup (pa_cons pe_str (pa_cons (pv 5) pa_nil))) pa_nil)) (nomark _))))) (pss_one (ps_ret pe_bl)) pss_nil))))))))))))))
      (pss_one (ps_ret pe_bl))), ?_⟩
    have hn3 : ∀ k : Int, k = (if (if (ns.map V.int).length < (10 : Int) then ((ns.map V.int).length : Int) else 10) > 2 then (if (ns.map V.int).length < (10 : Int) then ((ns.map V.int).length : Int) else 10) else 2) → 0 ≤ k ∧ k ≤ 10 := by
      intro k hk
      rw [hk]
      split <;> split <;> omega
    refine ⟨_, rfl, _, _, rfl, .inl ⟨_, hS, rfl⟩, _, _, rfl, _, _, rfl, _, rfl, ?_, ?_, ?_⟩
    · have := hn3 _ rfl
      omega
    · have := hn3 _ rfl
      omega
    have hb12 := (hn3 _ rfl).2
    refine for_it walk_range (fun i σ H' => ∃ s1 s2 s3 s4 s5 s6 s7 s8 : Option V, σ = [some (.ref a), s1, s2, s3, s4, s5, s6, s7, s8] ∧ Same H H') ⟨_, _, _, _, _, _, _, _, rfl, Same.refl H⟩ (fun _ _ _ _ _ => trivial) ?_ (fun σ G p => q G)
    rintro i x σ H1' H1 hi ⟨s1, s2, s3, s4, s5, s6, s7, s8, rfl, e1⟩ ⟨rfl, rfl⟩
    refine ⟨_, rfl, _, rfl, a, ns, i, (by show [V.ref a, V.int (0 + (i : Int))] = _; rw [Int.zero_add]), e1.seq hS, by omega, fun c => ?_⟩
    refine ⟨c, rfl, fun b o hb bg => ?_⟩
    have hbH : H b = none := e1.free hb
    (generalize hG : L2.upd _ b _ = H2; have sb := same_of hG hb; have eb := at_of hG; clear hG)
    refine ⟨_, rfl, b, 800000000, rfl, ⟨o, eb, bg.mono (by decide)⟩, fun H3 rw_ rows d3 ro hrw hrows => ?_⟩
    have keepH : ∀ {m : Nat} {G G' : Hp}, Dr b m G G' → Same H G → Same H G' := fun d s a' o' e => d.fx a' o' (ne_of_none e hbH) (s a' o' e)
    have e3 := keepH d3 (e1.trans sb)
    refine ⟨_, rfl, by decide, by decide, for_it walk_range (fun j σ G => (∃ s1 s4 s5 s6 s7 s8 : Option V, σ = [some (.ref a), s1, some (.ref b), some (.ref rw_), s4, s5, s6, s7, s8]) ∧ Same H G ∧ (∃ o, G b = some o ∧ Bag (700000000 - 20 * j) o) ∧ Dt K (hide G b) (.ref rw_) (.list (rows.map rowPy)))
      ⟨⟨_, _, _, _, _, _, rfl⟩, e3, let ⟨o, e, g⟩ := d3.bag; ⟨o, e, g.mono (by decide)⟩, hrows⟩ (fun _ _ _ _ _ => trivial) ?_ ?_⟩
    · rintro j x σ GG G hj ⟨⟨s1, s4, s5, s6, s7, s8, rfl⟩, eG, hbG, hrG⟩ ⟨rfl, rfl⟩
      have hj6 : j < 6 := hj
      refine ⟨_, rfl, _, rfl, b, 700000000 - 20 * (j + 1), rw_, rows, rfl, let ⟨o, e, g⟩ := hbG; ⟨o, e, g.mono (by omega)⟩, ro, hrG, fun G1 v d d1 th => ?_⟩
      have dt1 := Dt.same hide_same th.dt
      have sh : Shows d := th.1.1.shows
      have eG1 := keepH d1 eG
      refine ⟨_, rfl, v, d, rfl, dt1, sh.ok, sh.deep, sh.size, ?_⟩
      refine ⟨_, rfl, v, d, rfl, dt1, th.weight, fun ds e => Nat.le_trans (th.1.2 ds e) (by decide), fun G2 s2 => ?_⟩
      have dt2 := Dt.same s2 dt1
      refine ⟨_, rfl, v, d, rfl, dt2, th.weight, fun ds e => Nat.le_trans (th.1.2 ds e) (by decide), fun ds es rl G3 p s3 hp ep => ?_, fun rl G3 p s3 hp ep => ?_⟩
      · have dt3 := Dt.same s3 dt2
        have rd : rowsD d = true := by unfold rowsD; rw [es]; exact rl
        refine ⟨_, rfl, v, d, rfl, dt3, sh.ok, sh.deep, sh.size, _, rfl, rfl, _, rfl, ?_⟩
        refine iteF' noDiff ⟨_, rfl, _, rfl, iteT' rd ?_⟩
        have l13 := th.1.2 ds es
        have dn : Sm 1 30 (.tuple [.str "told", .int ds.length]) := (Sm.tuple (m := 2) (k := 0) (n := 10) (fun e he => by
          simp only [List.mem_cons, List.not_mem_nil, or_false] at he
          rcases he with rfl | rfl
          · show smB 0 10 (.str "told") = true
            decide +kernel
          · exact Sm.int (by omega) (by omega)) (by simp)).mono (by decide) (by decide)
        have shn := dn.shows
        obtain ⟨aa, xs, rfl, hSq, hAl⟩ := dt3.seq es
        have hxl := hAl.length
        refine ⟨_, rfl, .ref p, _, rfl, .tup (.inl (.inl ep)) (.cons (.str "told") (.cons (.int _) .nil)), shn.ok, shn.deep, shn.size, _, rfl, _, _, rfl, hSq.len, (by show 2 ≤ sizeLine; decide), fun t ht => ?_⟩
        rw [hxl]
        (generalize hG : L2.upd _ t _ = G4; have s4 := same_of hG ht; have e4 := at_of hG; clear hG)
        refine ⟨.ref t, .tuple [.str "told", .int ds.length], rfl, .tup (.inl (.inl e4)) (.cons (.str "told") (.cons (.int _) .nil)), shn.ok, shn.deep, shn.size, rfl, _, rfl, iteF' noDiff ?_⟩
        have no : (!rowsD d) = false := by rw [rd]; rfl
        refine ⟨_, rfl, _, rfl, iteF' no (iteF ⟨_, rfl, _, rfl, iteF' no (iteF ⟨_, rfl, _, rfl, iteF' no (iteF ?_)⟩)⟩)⟩
        have S := s2.trans (s3.trans s4)
        have dS := Dr.same S d1.bag
        exact ⟨⟨_, _, _, _, _, _, rfl⟩, keepH dS eG1, dS.bag, Dt.same (d1.trans dS).hide hrG⟩
      · have dt3 := Dt.same s3 dt2
        refine ⟨_, rfl, v, d, rfl, dt3, sh.ok, sh.deep, sh.size, _, rfl, rfl, _, rfl, ?_⟩
        refine iteF' noDiff ⟨_, rfl, _, rfl, iteF' rl (iteF ?_)⟩
        have ng : (!rowsD d) = true := by rw [rl]; rfl
        have S := s2.trans s3
        have d3S := Dr.same S d1.bag
        have dt13 := Dt.same d3S.hide th.dt
        refine ⟨_, rfl, _, rfl, iteT' ng ⟨_, rfl, _, _, _, _, isD "list" d, rfl, .ty "list", dt3.ty, isi_list, _, rfl, ?_⟩⟩
        rcases th.2 with ⟨k1, k2, _⟩ | ⟨aa, xs, ds, rfl, rfl, fa, nb, ea, hA⟩ | ⟨aa, rs, rfl, rfl, fa, nb, ea, rl12, pok⟩
        · refine iteF' k1 ⟨_, rfl, _, rfl, iteT' ng ⟨_, rfl, _, _, _, _, isD "dict" d, rfl, .ty "dict", dt3.ty, isi_dict, _, rfl, iteF' k2 ?_⟩⟩
          have smn := sm_none th.1.1 "none" (by decide +kernel)
          have shn := smn.shows
          refine ⟨_, rfl, _, rfl, iteT' ng ⟨_, rfl, .ref p, _, rfl, .tup (.inl (.inl ep)) (.cons (.str "none") (.cons dt3 .nil)), shn.ok, shn.deep, shn.size, _, rfl, (by show 2 ≤ sizeLine; decide), fun t ht => ?_⟩⟩
          (generalize hG : L2.upd _ t _ = G4; have s4 := same_of hG ht; have e4 := at_of hG; clear hG)
          refine ⟨.ref t, .tuple [.str "none", d], rfl, .tup (.inl (.inl e4)) (.cons (.str "none") (.cons (Dt.same s4 dt3) .nil)), shn.ok, shn.deep, shn.size, rfl, _, rfl, iteF' noDiff ?_⟩
          have dS := Dr.same (S.trans s4) d1.bag
          exact ⟨⟨_, _, _, _, _, _, rfl⟩, keepH dS eG1, dS.bag, Dt.same (d1.trans dS).hide hrG⟩
        · have ea3 := S _ _ ea
          have hA3 := DtAll.same (hide2_fx (D := aa) (b := b) fun a o _ _ e => S a o e) hA
          have hxl := hA.length
          have l13 := th.1.2 ds rfl
          refine iteT' (isD_lists ds) ⟨_, rfl, .inl ⟨rfl, _, .inl (.inl ea3)⟩, aa, xs, _, rfl, rfl, ea3, sz5' (by omega), ?_⟩
          have np : p ≠ aa := fun z => by rw [z, s2 _ _ ea] at hp; cases hp
          have nG : ∀ {a' : Addr} {o' : HO}, G a' = some o' → a' ≠ aa := fun e => ne_of_none e fa
          have mt : L2.upd G3 aa (.lst (xs ++ [.str "late"])) aa = some (.lst (xs ++ [.str "late"])) := upd_same ..
          have mo : ∀ a' : Addr, a' ≠ aa → L2.upd G3 aa (.lst (xs ++ [.str "late"])) a' = G3 a' := fun a' h => upd_ne h
          generalize L2.upd G3 aa (.lst (xs ++ [.str "late"])) = G5 at mt mo ⊢
          have dt5 : Dt K G5 (.ref aa) (.list (ds ++ [.str "late"])) := .lst (.inl (.inl mt)) (DtAll.append (DtAll.same (fun a' o' e => by
            have h2 : a' ≠ aa := fun z => by rw [z] at e; have e' : hide (hide G3 b) aa aa = some o' := e; rw [hide_self] at e'; cases e'
            rw [mo a' h2]
            exact hide_same _ _ (hide_same _ _ e)) hA3) (.cons (.str "late") .nil))
          have sml : Sm 5 21000 (.list (ds ++ [.str "late"])) := late_list th.1
          have kd5 : isD "dict" (.list (ds ++ [.str "late"])) = false := kind_list (by decide +kernel)
          obtain ⟨d5, ed5⟩ : ∃ d5, d5 = PyData.list (ds ++ [.str "late"]) := ⟨_, rfl⟩
          rw [← ed5] at dt5 sml kd5
          clear ed5
          have smn := sm_none sml "none" (by decide +kernel)
          have shn := smn.shows
          refine ⟨_, rfl, _, rfl, iteT' ng ⟨_, rfl, _, _, _, _, isD "dict" d5, rfl, .ty "dict", dt5.ty, isi_dict, _, rfl, iteF' kd5 ?_⟩⟩
          have ep5 : G5 p = some (.tup [.str "none", .ref aa]) := (mo p np).trans ep
          refine ⟨_, rfl, _, rfl, iteT' ng ⟨_, rfl, .ref p, _, rfl, .tup (.inl (.inl ep5)) (.cons (.str "none") (.cons dt5 .nil)), shn.ok, shn.deep, shn.size, _, rfl, (by show 2 ≤ sizeLine; decide), fun t ht => ?_⟩⟩
          (generalize hG : L2.upd _ t _ = G4; have s4 := same_of hG ht; have e4 := at_of hG; clear hG)
          refine ⟨.ref t, .tuple [.str "none", d5], rfl, .tup (.inl (.inl e4)) (.cons (.str "none") (.cons (Dt.same s4 dt5) .nil)), shn.ok, shn.deep, shn.size, rfl, _, rfl, iteF' noDiff ?_⟩
          have naH : ∀ {a' : Addr} {o' : HO}, H a' = some o' → a' ≠ aa := fun e => nG (eG _ _ e)
          refine ⟨⟨_, _, _, _, _, _, rfl⟩, fun a' o' e => s4 _ _ ((mo a' (naH e)).trans (S _ _ (eG1 _ _ e))), ?_, Dt.same (fun a' o' e => ?_) hrG⟩
          · obtain ⟨o, e, gg⟩ := d3S.bag
            exact ⟨o, s4 _ _ ((mo b nb.symm).trans e), gg⟩
          · have hb' : a' ≠ b := fun z => by rw [z, hide_self] at e; cases e
            rw [hide_ne hb'] at e ⊢
            exact s4 _ _ ((mo a' (nG e)).trans (S _ _ (d1.fx a' o' hb' e)))
        · have ea3 := S _ _ ea
          refine iteF' (kind_dict (by decide +kernel)) ⟨_, rfl, _, rfl, iteT' ng ⟨_, rfl, _, _, _, _, true, rfl, .ty "dict", dt3.ty, kit_ty (show kitB "dict" "dict" = some true by decide +kernel), _, rfl, iteT ⟨_, rfl, aa, _, rfl, DPut.k (k := Sum.inr lateS) ea3 (by rw [List.length_map]; exact sz5' (by omega)), ?_⟩⟩⟩
          obtain ⟨rs', er, pok', rl13⟩ := pr_put pok
          rw [er]
          have np : p ≠ aa := fun z => by rw [z, s2 _ _ ea] at hp; cases hp
          have nG : ∀ {a' : Addr} {o' : HO}, G a' = some o' → a' ≠ aa := fun e => ne_of_none e fa
          have mt : L2.upd G3 aa (.dK (rs'.map prV)) aa = some (.dK (rs'.map prV)) := upd_same ..
          have mo : ∀ a' : Addr, a' ≠ aa → L2.upd G3 aa (.dK (rs'.map prV)) a' = G3 a' := fun a' h => upd_ne h
          generalize L2.upd G3 aa (.dK (rs'.map prV)) = G5 at mt mo ⊢
          have dt5 : Dt K G5 (.ref aa) (.dict (rs'.map prD)) := pr_dt mt
          have sml : Sm 5 20000 (.dict (rs'.map prD)) := pr_small pok' (by omega)
          obtain ⟨d5, ed5⟩ : ∃ d5, d5 = PyData.dict (rs'.map prD) := ⟨_, rfl⟩
          rw [← ed5] at dt5 sml
          clear ed5
          have smn := sm_none sml "none" (by decide +kernel)
          have shn := smn.shows
          have ep5 : G5 p = some (.tup [.str "none", .ref aa]) := (mo p np).trans ep
          refine ⟨_, rfl, _, rfl, iteT' ng ⟨_, rfl, .ref p, _, rfl, .tup (.inl (.inl ep5)) (.cons (.str "none") (.cons dt5 .nil)), shn.ok, shn.deep, shn.size, _, rfl, (by show 2 ≤ sizeLine; decide), fun t ht => ?_⟩⟩
          (generalize hG : L2.upd _ t _ = G4; have s4 := same_of hG ht; have e4 := at_of hG; clear hG)
          refine ⟨.ref t, .tuple [.str "none", d5], rfl, .tup (.inl (.inl e4)) (.cons (.str "none") (.cons (Dt.same s4 dt5) .nil)), shn.ok, shn.deep, shn.size, rfl, _, rfl, iteF' noDiff ?_⟩
          have naH : ∀ {a' : Addr} {o' : HO}, H a' = some o' → a' ≠ aa := fun e => nG (eG _ _ e)
          refine ⟨⟨_, _, _, _, _, _, rfl⟩, fun a' o' e => s4 _ _ ((mo a' (naH e)).trans (S _ _ (eG1 _ _ e))), ?_, Dt.same (fun a' o' e => ?_) hrG⟩
          · obtain ⟨o, e, gg⟩ := d3S.bag
            exact ⟨o, s4 _ _ ((mo b nb.symm).trans e), gg⟩
          · have hb' : a' ≠ b := fun z => by rw [z, hide_self] at e; cases e
            rw [hide_ne hb'] at e ⊢
            exact s4 _ _ ((mo a' (nG e)).trans (S _ _ (d1.fx a' o' hb' e)))
    · rintro σ G ⟨⟨s1, s4, s5, s6, s7, s8, rfl⟩, eG, _, _⟩
      exact ⟨_, _, _, _, _, _, _, _, rfl, eG⟩
end

end TS

namespace TS
open PySem PySem.Spec PyProof.Rows L2 TL

section
variable {P : Program} {w : World} {K : PySem.W.Frag} {mg : Str → Option Value} {base : Heap}
abbrev s__law_cell : Stmt := top 18
theorem sc__law_cell : FnScope ["_law_script", "_law_k"] ["_law_script", "_law_k"] (defScope s__law_cell) := ⟨rfl, rfl, rfl, by decide +kernel, rfl, by decide +kernel, by decide +kernel⟩

theorem ok_cell (bt : Bt mg) (D : Def K mg "_law_cell" s__law_cell) : Prom P w K mg base 1 "_law_cell" ["_law_script", "_law_k"] (spCell K) := by
  refine prom_mk D sc__law_cell (fun vs H Q E h => ?_) (fun _ _ _ _ _ _ us hl => match us, hl with | [_, _], _ => rfl) (fun f cdv A outer s H vs Q E hr h => ?_)
  · obtain ⟨a, ns, k, rfl, _⟩ := h
    rfl
  · obtain ⟨a, ns, k, rfl, hS, hk, q⟩ := h
    refine ⟨_, (pss_cons (ps_if (pt_cmpR op_lt (pv 1) (pe_callB (id := "len") (lenK (K := K)) (by rfl) bt.len_ (by decide +kernel) (pa_cons (pv 0) pa_nil)) (nomark _)) (pss_one (ps_ret (pe_ix (ix_listK (K := K)) (pv 0) (pv 1) (fun _ _ => rfl)))) pss_nil)
      (pss_one (ps_ret (pe_op op_add (pe_op op_mul pe_int (pv 1)) pe_int)))), ?_⟩
    refine ⟨_, rfl, _, rfl, _, _, rfl, .inl ⟨_, hS, rfl⟩, _, _, rfl, rfl, _, rfl, ?_⟩
    refine ite2 (fun c => ?_) (fun c => ?_)
    · have c' := of_decide_eq_true c
      rw [List.length_map] at c'
      have hk' : k < ns.length := by omega
      exact ⟨_, rfl, _, rfl, a, _, _, .int ns[k], rfl, rfl, hS, atI_nat (by rw [List.getElem?_map, List.getElem?_eq_getElem hk']; rfl), q _⟩
    · exact ⟨_, rfl, _, _, rfl, rfl, .inl ⟨by decide, by decide⟩, _, _, rfl, rfl, q _⟩
abbrev s__law_box : Stmt := top 19
theorem sc__law_box : FnScope ["_law_cell_here"] ["_law_cell_here"] (defScope s__law_box) := ⟨rfl, rfl, rfl, by decide +kernel, rfl, by decide +kernel, by decide +kernel⟩

theorem ok_bag (bt : Bt mg) (D : Def K mg "_law_box" s__law_box) : Prom P w K mg base 1 "_law_box" ["_law_cell_here"] spBag := by
  refine prom_mk D sc__law_box (fun vs H Q E h => ?_) (fun _ _ _ _ _ _ us hl => match us, hl with | [_], _ => rfl) (fun f cdv A outer s H vs Q E hr h => ?_)
  · obtain ⟨c, rfl, _⟩ := h
    rfl
  · obtain ⟨c, rfl, q⟩ := h
    refine ⟨_, (pss_one (ps_ret (pe_lst (pa_cons (pe_callB (id := "max") (call_max2 rfl) (by rfl) bt.max_ (by decide +kernel) (pa_cons pe_int (pa_cons (pe_op op_sub (pv 0) (pe_op op_pow pe_int pe_int)) pa_nil))) (pa_cons (pe_op op_mod (pv 0) pe_int) (pa_cons pe_int pa_nil)))))), ?_⟩
    refine ⟨_, rfl, _, _, rfl, rfl, ⟨by decide, by decide, by decide⟩, _, _, rfl, rfl, _, _, rfl, ?_⟩
    refine ⟨_, rfl, _, _, rfl, rfl, (by show (0 : Int) < 2147483629; decide), (by show 3 ≤ sizeLine; decide), fun p hp => q p _ hp ?_⟩
    refine ⟨_, _, _, rfl, ?_, Int.emod_nonneg _ (by decide), Int.emod_lt_of_pos _ (by decide), Int.le_refl 0, by decide⟩
    split <;> omega
abbrev s__law_take : Stmt := top 20
theorem sc__law_take : FnScope ["_law_box_here", "_law_many", "_law_digit", "_law_number"] ["_law_box_here", "_law_many"] (defScope s__law_take) := ⟨rfl, rfl, rfl, by decide +kernel, rfl, by decide +kernel, by decide +kernel⟩

theorem pow_small {x : Int} {n : Nat} (h0 : 0 ≤ x) (h1 : x < 2 ^ 60) : x.natAbs < 2 ^ 64 := by
  have : (2 : Int) ^ 60 = 1152921504606846976 := by decide
  have h2 : (2 : Nat) ^ 64 = 18446744073709551616 := by decide
  omega
theorem ok_take (D : Def K mg "_law_take" s__law_take) : Prom P w K mg base 1 "_law_take" ["_law_box_here", "_law_many"] spTake := by
  refine prom_mk D sc__law_take (fun vs H Q E h => ?_) (fun _ _ _ _ _ _ us hl => match us, hl with | [_, _], _ => rfl) (fun f cdv A outer s H vs Q E hr h => ?_)
  · obtain ⟨b, o, n, many, rfl, _⟩ := h
    rfl
  · obtain ⟨b, o, n, many, rfl, hb, ⟨x, y, z, rfl, hx, hy, hy', hz, hn⟩, hm, hm', q⟩ := h
    have hL : ∀ {H : Hp} {xs : List V}, H b = some (.lst xs) → SqL K H b xs := fun h => .inl (.inl h)
    refine ⟨_, (pss_cons (ps_if (pt_cmpR op_gt (pe_ix (ix_listK (K := K)) (pv 0) pe_int (fun _ _ => rfl)) pe_int (nomark _)) (pss_cons (ps_set (i := 2) sc__law_take.nd rfl (Or.inl rfl) (pe_op op_mod (pe_ix (ix_listK (K := K)) (pv 0) pe_int (fun _ _ => rfl)) (pv 1)))
      (pss_cons (ps_asg (pe_op op_fdivW (pe_ix (ix_listK (K := K)) (pv 0) pe_int (fun _ _ => rfl)) (pv 1)) (pg_sub (pv 0) pe_int set_list))
      (pss_one (ps_ret (pv 2))))) pss_nil)
      (pss_cons (ps_asg (pe_op op_add (pe_ix (ix_listK (K := K)) (pv 0) pe_int (fun _ _ => rfl)) pe_int) (pg_sub (pv 0) pe_int set_list))
      (pss_cons (ps_set (i := 3) sc__law_take.nd rfl (Or.inl rfl) (pe_op op_mod (pe_op op_pow (pe_op op_add (pe_op op_add (pe_ix (ix_listK (K := K)) (pv 0) pe_int (fun _ _ => rfl)) (pe_op op_mul pe_int (pe_ix (ix_listK (K := K)) (pv 0) pe_int (fun _ _ => rfl)))) pe_int) pe_int) pe_int))
      (pss_cons (ps_set (i := 3) sc__law_take.nd rfl (Or.inl rfl) (pe_op op_mod (pe_op op_pow (pe_op op_add (pv 3) (pe_op op_mul pe_int (pe_ix (ix_listK (K := K)) (pv 0) pe_int (fun _ _ => rfl)))) pe_int) pe_int))
      (pss_one (ps_ret (pe_op op_mod (pe_op op_fdivW (pv 3) pe_int) (pv 1)))))))), ?_⟩
    refine ⟨_, rfl, b, _, _, _, rfl, rfl, hL hb, rfl, _, _, rfl, rfl, _, rfl, ?_⟩
    refine ite2 (fun c => ?_) (fun c => ?_)
    · have c' := of_decide_eq_true c
      refine ⟨_, rfl, b, _, _, _, rfl, rfl, hL hb, rfl, _, rfl, _, _, rfl, rfl, hm, ?_⟩
      refine ⟨_, rfl, b, _, _, _, rfl, rfl, hL hb, rfl, _, rfl, _, _, rfl, rfl, ?_, ?_⟩
      · exact wide_div (b := 201) hm (by have h1 : (2 : Int) ^ 200 = 1606938044258990275541962092341162602522202993782792835301376 := by decide +kernel
                                         have h3 : (2 : Nat) ^ 201 = 3213876088517980551083924184682325205044405987565585670602752 := by decide +kernel
                                         rw [h1] at hm'
                                         rw [h3]
                                         omega) (by decide) (by decide)
      · refine ⟨_, rfl, b, _, _, 0, rfl, rfl, hb, rfl, _, rfl, ?_⟩
        exact q _ _ (Int.emod_nonneg _ (by omega)) (Int.emod_lt_of_pos _ hm) ⟨_, _, _, rfl, Int.ediv_nonneg hx (by omega), hy, hy', hz, by omega⟩
    · refine ⟨_, rfl, b, _, _, _, rfl, rfl, hL hb, rfl, _, _, rfl, rfl, _, rfl, b, _, _, 2, rfl, rfl, hb, rfl, ?_⟩
      have hb1 : (L2.upd H b (.lst [.int x, .int y, .int (z + 1)])) b = some (.lst [.int x, .int y, .int (z + 1)]) := upd_same
      refine ⟨_, rfl, b, _, _, _, rfl, rfl, hL hb1, rfl, _, rfl, b, _, _, _, rfl, rfl, hL hb1, rfl, _, _, rfl, rfl, .inl ⟨by decide, by decide⟩, _, _, rfl, rfl, _, _, rfl, rfl, _, _, rfl, rfl, ⟨by decide, by decide, ?_⟩, _, _, rfl, rfl, (by show (0 : Int) < 2147483647; decide), ?_⟩
      · exact pow_small (n := 0) (by omega) (by have : (2 : Int) ^ 60 = 1152921504606846976 := by decide
                                                omega)
      · have r0 := Int.emod_nonneg ((y + 7919 * (z + 1) + 37) ^ 5) (show (2147483647 : Int) ≠ 0 by decide)
        have r1 := Int.emod_lt_of_pos ((y + 7919 * (z + 1) + 37) ^ 5) (show (0 : Int) < 2147483647 by decide)
        refine ⟨_, rfl, _, rfl, b, _, _, _, rfl, rfl, hL hb1, rfl, _, _, rfl, rfl, .inl ⟨by decide, by decide⟩, _, _, rfl, rfl, _, _, rfl, rfl, ⟨by decide, by decide, ?_⟩, _, _, rfl, rfl, (by show (0 : Int) < 2147483587; decide), ?_⟩
        · exact pow_small (n := 0) (Int.add_nonneg r0 (by omega)) (by have : (2 : Int) ^ 60 = 1152921504606846976 := by decide
                                                                      omega)
        · refine ⟨_, rfl, _, _, rfl, rfl, wide_div (b := 10) (by decide) (by decide) (by decide) (by decide), _, rfl, _, _, rfl, rfl, hm, ?_⟩
          exact q _ _ (Int.emod_nonneg _ (by omega)) (Int.emod_lt_of_pos _ hm) ⟨_, _, _, rfl, hx, hy, hy', by omega, by omega⟩
end

end TS

namespace TS
open PySem PySem.Spec PyProof.Rows L2 TL

/-! ### the head and the end -/
def fn : List He.DefD := [defD "is_whole" s_is_whole, defD "is_name" s_is_name, defD "is_row" s_is_row, defD "are_rows" s_are_rows, defD "_law_cell" s__law_cell, defD "_law_box" s__law_box, defD "_law_take" s__law_take, defD "_law_names" s__law_names, defD "_law_rows" s__law_rows, defD "_law_is_name" s__law_is_name, defD "_law_are_words" s__law_are_words, defD "_law_row_otherwise" s__law_row_otherwise, defD "_law_otherwise" s__law_otherwise, defD "_law_caught" s__law_caught, defD "law" s_law, methD "NoWords" "__init__" "NoWords.__init__" s_NoWords___init__, methD "Words" "__init__" "Words.__init__" s_Words___init__, methD "Words" "__len__" "Words.__len__" s_Words___len__]
def gl : List Str := ["is_whole", "is_name", "is_row", "are_rows", "_law_cell", "_law_box", "_law_take", "_law_names", "_law_rows", "_law_is_name", "_law_are_words", "_law_row_otherwise", "_law_otherwise", "_law_caught", "law", "TermError", "NoWords", "Words"]
def more (K : PySem.W.Frag) : Bool := ((famB K "TermError" && ownB K "NoWords" "found") && ((He.Fa.cls "Words").ok K && ((He.Fa.noat "Words" "by_name").ok K && ((He.Fa.mkr "Words").ok K && (He.Fa.meth "Words" "__len__").ok K)))) &&
  (((He.Fa.exm "NoWords" "NoWords" true).ok K && (He.Fa.int "MOST_SIGNS" 8).ok K) && ((He.Fa.str "SMALL" "abcdefghijklmnopqrstuvwxyz").ok K && ((He.Fa.int "MOST_PLACES" 4).ok K && (He.Fa.int "MOST_WORDS" 12).ok K)))
def chk : PySem.W.Frag → Bool := chkX gl more
abbrev R : PySem.W.OpenRow := PySem.W.OpenLaw.row PySem.Challenge.rw_termshelf_k06_words_refused
abbrev hk : PySem.W.Hook := hookX 6 chk fn
def ob (s : PySem.W.SharedT) : He.AlD := obsX 6 chk fn (HandSHeadRun.getT s)
def loose : List PySem.Str := (["_wall", "TermError", "Absent", "NoWords", "NotThere", "SMALL", "MOST_SIGNS", "is_whole", "is_name", "MOST_WORDS", "MOST_PLACES", "is_row", "are_rows", "Words", "_law_cell", "_law_box", "_law_take", "_law_names", "_law_rows", "_law_letters", "_law_signs", "_law_is_name", "_law_are_words", "_law_row_otherwise", "_law_otherwise", "_law_caught"] : List PySem.Str)
theorem run (w : World) : HandSHeadRun.RunEq R (PySem.W.view R.prog [30]) hk ob 6000 loose w := by
  intro os
  kernel_rfl
theorem facts {w : World} {K : PySem.W.Frag} {h : Heap} {mg : Str → Option Value} {f : Addr} (X : K.In h) (G : h.Ns mainGlobals mg) (hfa : mg ("law" : Str) = some (.ref f)) (c : chk K = true) (c1 : fn.all (fun d => d.ok K) = true)
    (c2 : fn.map (fun d => He.fnW K d.at_) = fn.map He.DefD.val) : LawAt PySem.Challenge.rw_termshelf_k06_words_refused w mg 8 63 "_law_script" h f K := by
  obtain ⟨ca, cb⟩ := He.ba c
  obtain ⟨cs, cbt⟩ := He.ba ca
  obtain ⟨cg, cm⟩ := He.ba cb
  obtain ⟨cm1, cm2⟩ := He.ba cm
  obtain ⟨cm3, cm4⟩ := He.ba cm1
  obtain ⟨k1, k2⟩ := He.ba cm3
  obtain ⟨k3, cm5⟩ := He.ba cm4
  obtain ⟨k4, cm6⟩ := He.ba cm5
  obtain ⟨k5, k6⟩ := He.ba cm6
  obtain ⟨cm7, cm8⟩ := He.ba cm2
  obtain ⟨k7, k8⟩ := He.ba cm7
  obtain ⟨k9, cm9⟩ := He.ba cm8
  obtain ⟨k10, k11⟩ := He.ba cm9
  have Y := sysB_ok cs
  have bt := bt_of X G cbt
  have g : ∀ (x : Str), x ∈ gl → (He.Fa.glo x).ok K = true := fun x hx => List.all_eq_true.mp cg x hx
  have gg : ∀ (x : Str), x ∈ gl → mg x = some (.ref (He.ga K x)) := fun x hx => He.glo_ok X G (g x hx)
  have D : ∀ {x : Str} {st : Stmt} (i : Nat), fn[i]? = some (defD x st) → x ∈ gl → Def K mg x st := fun i hi hx => def_of X G c1 c2 i hi (g _ hx)
  have d0 : Def K mg "is_whole" s_is_whole := D 0 rfl (by decide +kernel)
  have d1 : Def K mg "is_name" s_is_name := D 1 rfl (by decide +kernel)
  have d2 : Def K mg "is_row" s_is_row := D 2 rfl (by decide +kernel)
  have d3 : Def K mg "are_rows" s_are_rows := D 3 rfl (by decide +kernel)
  have d4 : Def K mg "_law_cell" s__law_cell := D 4 rfl (by decide +kernel)
  have d5 : Def K mg "_law_box" s__law_box := D 5 rfl (by decide +kernel)
  have d6 : Def K mg "_law_take" s__law_take := D 6 rfl (by decide +kernel)
  have d7 : Def K mg "_law_names" s__law_names := D 7 rfl (by decide +kernel)
  have d8 : Def K mg "_law_rows" s__law_rows := D 8 rfl (by decide +kernel)
  have d9 : Def K mg "_law_is_name" s__law_is_name := D 9 rfl (by decide +kernel)
  have d10 : Def K mg "_law_are_words" s__law_are_words := D 10 rfl (by decide +kernel)
  have d11 : Def K mg "_law_row_otherwise" s__law_row_otherwise := D 11 rfl (by decide +kernel)
  have d12 : Def K mg "_law_otherwise" s__law_otherwise := D 12 rfl (by decide +kernel)
  have d13 : Def K mg "_law_caught" s__law_caught := D 13 rfl (by decide +kernel)
  have d14 : Def K mg "law" s_law := D 14 rfl (by decide +kernel)
  have m0 : DefM K (He.ma K (He.ga K "NoWords") "__init__") "__init__" "NoWords.__init__" s_NoWords___init__ := meth_of c1 c2 15 rfl
  have m1 : DefM K (He.ma K (He.ga K "Words") "__init__") "__init__" "Words.__init__" s_Words___init__ := meth_of c1 c2 16 rfl
  have m2 : DefM K (He.ma K (He.ga K "Words") "__len__") "__len__" "Words.__len__" s_Words___len__ := meth_of c1 c2 17 rfl
  have gT := gg "TermError" (by decide +kernel)
  have gN := gg "NoWords" (by decide +kernel)
  have gW := gg "Words" (by decide +kernel)
  have cl := He.cls_ok k3
  have nb := He.noat_ok k4
  have xN := ownB_ok k2
  obtain ⟨fL, fdL, FL, mL⟩ := id d14
  have e := hfa.symm.trans mL
  cases e
  have b := FunD.bindsA (ps := ["_law_script"]) FL fun _ _ _ _ _ _ us hl => match us, hl with | [_], _ => rfl
  refine ⟨X, fdL, spLaw K, fun s v => b s [v] rfl, fun H a ns hl _ hS => ⟨a, ns, rfl, hS, hl, fun _ => rfl⟩, fun base _ _ => ?_⟩
  have p0 := ok_take (P := PySem.Challenge.rw_termshelf_k06_words_refused.prog) (w := w) (base := base) d6
  have pn := ok_is_name (P := PySem.Challenge.rw_termshelf_k06_words_refused.prog) (w := w) (base := base) bt (He.int_ok X G k8) (He.str_ok X G k9) d1
  have pw := ok_is_whole (P := PySem.Challenge.rw_termshelf_k06_words_refused.prog) (w := w) (base := base) bt d0
  have pr := ok_is_row bt (He.int_ok X G k10) pn pw d2
  have pa := ok_are_rows bt (He.int_ok X G k11) pr d3
  have pi := ok_NoWords_ini (P := PySem.Challenge.rw_termshelf_k06_words_refused.prog) (w := w) (base := base) (famB_ok k1) gT xN m0
  have pwi := ok_Words_ini bt cl nb pa gN xN pi m1
  have pwl := ok_Words_len (P := PySem.Challenge.rw_termshelf_k06_words_refused.prog) (w := w) (base := base) bt cl nb m2
  have pc := ok_caught bt (He.mkr_ok k5) (He.meth_ok k6) gW gN xN (He.exm_ok k7) pwi pwl d13
  have pnm := ok_names bt p0 d7
  have pdr := ok_drows bt p0 pnm d8
  have pln := ok_law_is_name (P := PySem.Challenge.rw_termshelf_k06_words_refused.prog) (w := w) (base := base) bt d9
  have plw := ok_law_are_words bt pln d10
  have pro := ok_row_otherwise bt p0 d11
  have pot := ok_otherwise bt p0 pro d12
  exact ok_law Y bt (ok_cell bt d4) (ok_bag bt d5) pdr pot plw pc FL

end TS
open PySem PySem.W PySem.Calls PyProof.Rows
set_option maxHeartbeats 0 in
theorem PySem.Challenge.cw_termshelf_k06_words_refused_holds : PySem.Challenge.rw_termshelf_k06_words_refused.Holds := by
  w_on; o_law
  refine HandSHeadRun.head_any (r := OpenLaw.row PySem.Challenge.rw_termshelf_k06_words_refused) (q := view (OpenLaw.row PySem.Challenge.rw_termshelf_k06_words_refused).prog [30]) (H := TS.hk) (ob := TS.ob) (M := 6000) (loose := TS.loose) (d := HandSHeadRun.topDef (OpenLaw.row PySem.Challenge.rw_termshelf_k06_words_refused).prog 30) (kwd := []) TS.obsX_eq
    (by kernel_rfl) (fun s => by kernel_rfl) TS.run (by kernel_rfl) (by kernel_rfl) (by kernel_rfl) (by rfl) (by first | assumption | decide +kernel) (by decide +kernel) ⟨rfl, rfl, rfl, rfl, rfl, by decide +kernel⟩ ?hw ?hc
  case hw => w_witness2
  case hc =>
    refine TS.walkG (l := PySem.Challenge.rw_termshelf_k06_words_refused) (n := 63) (k := 8) (x := "_law_script") rfl (by decide) (by kernel_rfl) ⟨rfl, by decide, by decide⟩ ?F
    intro w mg fa h Y G hmg0
    obtain ⟨K, KX, c, c1, c2⟩ := Y
    have hmg : mg ("law" : PySem.Str) = some (.ref fa) := by
      have e : (HandSHeadRun.topDef (OpenLaw.row PySem.Challenge.rw_termshelf_k06_words_refused).prog 30).name = ("law" : PySem.Str) := by kernel_rfl
      rw [← e]
      exact hmg0
    exact ⟨K, TS.facts KX G hmg c c1 c2⟩

