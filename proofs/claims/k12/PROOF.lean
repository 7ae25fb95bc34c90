import PyProof.Rows.All
import Wide.All
import OpenK.AllK
import Wide.FinOn
import KE.KStateDown
import Lean
import HandS.ForMost
import HandS.More
import HandS.WordsExc
import HandS.Defaults
import HandS.IsInst
import HandS.Wide
import HandS.Flow
import HandS.Conv
import HandS.Replace
import HandS.EndBits
import HandS.Head0
import HandS.Head1
import HandS.Head2
import HandS.HeadEnd
import HandS.HeadHook1
import HandS.HeadHook2
import HandS.Walk
import HandS.SetBool
import HandS.SetKeys
import KE.GoesMore
import PyProof.EnumMake
import HandS.ExcInit
import HandS.ExcField
import HandS.ExcOwn
import HandS.ClsMeth
import HandS.DictComp
import HandS.WordsDict
import PyProof.ReprLen
import HandS.MakeKwOnly
import HandS.OwnEq
import HandS.ListItems
import PyProof.InstEq
import PyProof.EqKinds
import PyProof.FactsAll.dict
import KE.KCallOwn
import HandS.FStr
import KE.IntTextLaws
import PySem.Challenge.RW_termshelf_k12_terms_read_and_compared
set_option Elab.async false
set_option linter.all false
set_option maxRecDepth 100000
/-! ### 1. promises of defs that may show things (repr): no guard runs around -/
namespace TS
open PySem PySem.Spec PyProof.Rows L2
structure FnG (P : Program) (w : World) (K : PySem.W.Frag) (mg : Str → Option Value) (base : Heap) (CX : CXT) (k : Nat) (f : Addr) (fd : FuncData) (ps : List Str) (sp : Sp) : Prop where
  len : ∀ vs H Q E, sp vs H Q E → vs.length = ps.length
  run : ∀ (A : Around) (outer : List Env) (s : Shared) (H : Hp) (args : Args) (us : List Value) (vs : List V) (Q : VK) (E : XK), A.guards = some [] → Room k A → Env0 P w K mg base A outer s H →
    BindsTo s fd args (ps.zip us) → Vals vs us → sp vs H Q E → codeAny (model P w) A (.call (.ref f) args) (CR CX outer P w H s Q E) s
section
variable {P : Program} {w : World} {K : PySem.W.Frag} {mg : Str → Option Value} {base : Heap} {CX : CXT} {k : Nat} {f : Addr} {fd : FuncData} {ps : List Str} {sp : Sp}
theorem FnG.of (F : FnOk P w K mg base CX k f fd ps sp) : FnG P w K mg base CX k f fd ps sp := ⟨F.len, fun A outer s H args us vs Q E _ => F.run A outer s H args us vs Q E⟩
/-- the body's rule, the guards told -/
theorem okG {x qual : Str} {params : Arguments} {body : List Stmt} {scope : Scope} {dvs : List V} {kws : List (Str × V)} {N : List Str} (F : FunD K x qual params body scope dvs kws f fd) (S : FnScope N ps scope)
    (len : ∀ vs H Q E, sp vs H Q E → vs.length = ps.length)
    (hbody : ∀ (cdv : Value) (A : Around) (outer : List Env) (s : Shared) (H : Hp) (vs : List V) (Q : VK) (E : XK), (A.deeper (envOfC qual scope s.heap.objs.size f cdv)).guards = some [] →
      Room k (A.deeper (envOfC qual scope s.heap.objs.size f cdv)) → sp vs H Q E →
      ∃ t, PSs (cxOf CX P w K mg base N qual scope f cdv A outer s H E) body t ∧ t { nx := fun _ H' => Q .non H', rt := Q } (start N vs) H) : FnG P w K mg base CX (k + 1) f fd ps sp := by
  obtain ⟨oc, od, dV, kV, doc, pm, an, cdv, ct, osl, rfl, lk, hcd, _, _⟩ := F.ex
  refine ⟨len, fun A outer s H args us vs Q E hg hr e0 hb r hsp => ?_⟩
  have KX : K.In s.heap := e0.mod.kin.keeps fun b o e => (e0.bs b o e).1
  have NL : s.heap.NoLimit := e0.mod.nolimit.keeps fun b o e => (e0.bs b o e).1
  have kinds : ∀ y ∈ ps.zip us, scope.names.lookup y.1 = some .local ∨ (scope.names.lookup y.1 = some .cell ∧ ((cellsFrom (s.heap.objs.size + 1) scope.names []).lookup y.1).isSome = true) := by
    rintro ⟨n, v⟩ hy
    exact (S.par n (List.of_mem_zip hy).1).imp id fun q => ⟨q, PySem.W.cellsFrom_some _ _ _ (.inl q)⟩
  refine codeAny_call_function hr.depth (KX _ _ lk) rfl S.co S.gen rfl (PySem.W.codeRec_of KX hcd) (hb _ _ _ _ (wpAny_newFunctionEnv_cells S.kind kinds fun env he s1 x => ?_))
  subst he
  obtain ⟨t, ht, hq⟩ := hbody cdv A outer s H vs Q E hg (hr.deeper _) hsp
  have I0 := inv_start (CX := CX) (E := E) (f := f) (cd := cdv) (qual := qual) S hr.hd e0 (len _ _ _ _ hsp) r x
  refine ⟨NL.keeps x.toInCall.keep, codeAny_func (wpAny_mono (ht.run [] s1 (start N vs) H _ I0 hq) (fun fl s' hs => ?_) fun _ _ z => z)⟩
  cases fl with
  | ret u => exact let ⟨v, _, H', J, rv, q⟩ := hs; ⟨v, H', J.os, J.bare, J.base, J.hok, rv, q⟩
  | next => exact let ⟨_, H', J, q⟩ := hs; ⟨V.non, H', J.os, J.bare, J.base, J.hok, rfl, q⟩
  | brk => exact let ⟨_, _, _, q⟩ := hs; False.elim q
  | cont => exact let ⟨_, _, _, q⟩ := hs; False.elim q
end
section
variable {X : Cx} {CX : CXT} {k : Nat} {f C : Addr} {fd : FuncData} {ps : List Str} {sp : Sp} {dvs : List V} {ds : List Value} {E : XK} {x m : Str} {p pos apos : Pos} {e o : Expr} {es : List Expr} {ta : TE} {t : TA}
theorem run_G {pins : List (Addr × Obj)} {σ : L2.St} {H : Hp} {s : Shared} {Q : VK} {us : List Value} {vs : List V} (F : FnG X.prog X.w X.K X.mg X.base CX k f fd ps sp) (hgd : X.A.guards = some []) (hr : Room k X.A)
    (hb : Binds X.K fd ps ds) (hd : Vals dvs ds) (hx : Passes CX X E) (I : Inv X pins σ H s) (r : Vals vs us) (h : sp (vs ++ dvs) H Q E) : wpAny (model X.prog X.w) X.A (call (.ref f) us) (EP X pins σ Q) X.xe s := by
  have r2 := r.append hd
  have hl : (us ++ ds).length = ps.length := r2.length.symm.trans (F.len _ _ _ _ h)
  refine wpAny_call (codeAny_mono (F.run X.A X.stack s H ⟨us, []⟩ (us ++ ds) (vs ++ dvs) Q E hgd hr I.env0 (hb s us I.kIn hl) r2 h) fun r s' hq => ?_)
  match r, hq with
  | .error e, hq => exact hx pins σ H s e s' I hq
  | .ok (.ret u), hq => exact I.after hq
theorem pe_callG (F : FnG X.prog X.w X.K X.mg X.base CX k f fd ps sp) (hgd : X.A.guards = some []) (hr : Room k X.A) (hg : Gl X x) (hm : X.mg x = some (.ref f)) (hk : PySem.W.keepIn X.K (.ref f) = true)
    (hb : Binds X.K fd ps ds) (hd : Vals dvs ds) (hx : Passes CX X E) (ha : PA X (e :: es) t) (hdb : (x == ("__debug__" : Str)) = false := by decide)
    (he : starEach (e :: es) X.env = (false, eval e X.env) :: starEach es X.env := by rfl) (hpl : (backTo pos (starEach es X.env)).any (·.1) = false := by rfl) :
    PE X (.Call (.Name x p) (e :: es) [] pos) (tCall sp dvs E t) := by
  refine ⟨fun pins s σ H Q I h => wpAny_Call_Name_kw (ld_glob I hg hm ?_ hdb)⟩
  exact PySem.W.callWith_K (h₀ := X.base) I.ok.mod.kin hk (thn (ha.run pos pins s σ H _ I h) fun us s1 ⟨vs, H1, I1, r, q⟩ => ⟨I1.kIn, run_G F hgd hr hb hd hx I1 r q⟩) he hpl
end

/-! ### 2. data at any depth, dicts too, and how they are shown -/
def kD : Key → PyData
  | .inl i => .int i
  | .inr x => .str x
mutual
inductive Dt (K : PySem.W.Frag) (H : Hp) : V → PyData → Prop
  | non : Dt K H .non .none
  | bl (b : Bool) : Dt K H (.bl b) (.bool b)
  | int (i : Int) : Dt K H (.int i) (.int i)
  | str (x : Str) : Dt K H (.str x) (.str x)
  | lst {a : Addr} {xs : List V} {ds : List PyData} : SqL K H a xs → DtAll K H xs ds → Dt K H (.ref a) (.list ds)
  | tup {a : Addr} {xs : List V} {ds : List PyData} : SqT K H a xs → DtAll K H xs ds → Dt K H (.ref a) (.tuple ds)
  | dct {a : Addr} {ks : List Key} {xs : List V} {ds : List PyData} : H a = some (.dK (ks.zip xs)) → ks.length = xs.length → DtAll K H xs ds → Dt K H (.ref a) (.dict ((ks.map kD).zip ds))
inductive DtAll (K : PySem.W.Frag) (H : Hp) : List V → List PyData → Prop
  | nil : DtAll K H [] []
  | cons {v : V} {vs : List V} {d : PyData} {ds : List PyData} : Dt K H v d → DtAll K H vs ds → DtAll K H (v :: vs) (d :: ds)
end
theorem DtAll.length {K : PySem.W.Frag} {H : Hp} : ∀ {vs : List V} {ds : List PyData}, DtAll K H vs ds → vs.length = ds.length
  | _, _, .nil => rfl
  | _, _, .cons _ t => congrArg (· + 1) (DtAll.length t)
theorem SqT.same {K : PySem.W.Frag} {H H' : Hp} {a : Addr} {xs : List V} (e : Same H H') (h : SqT K H a xs) : SqT K H' a xs := by
  rcases h with (h | ⟨o, h⟩) | h
  · exact .inl (.inl (e _ _ h))
  · exact .inl (.inr ⟨o, e _ _ h⟩)
  · exact .inr h
mutual
theorem Dt.same {K : PySem.W.Frag} {H H' : Hp} (e : Same H H') : ∀ {v : V} {d : PyData}, Dt K H v d → Dt K H' v d
  | _, _, .non => .non
  | _, _, .bl b => .bl b
  | _, _, .int i => .int i
  | _, _, .str x => .str x
  | _, _, .lst h a => .lst (e.seq h) (DtAll.same e a)
  | _, _, .tup h a => .tup (SqT.same e h) (DtAll.same e a)
  | _, _, .dct h l a => .dct (e _ _ h) l (DtAll.same e a)
theorem DtAll.same {K : PySem.W.Frag} {H H' : Hp} (e : Same H H') : ∀ {v : List V} {d : List PyData}, DtAll K H v d → DtAll K H' v d
  | _, _, .nil => .nil
  | _, _, .cons a b => .cons (Dt.same e a) (DtAll.same e b)
end
/-- what the written part tells of the machine's own objects -/
structure Sys (K : PySem.W.Frag) : Prop where
  mods : ∃ o, K.lookup sysModules = some o ∧ o.cls = .type "dict"
  book : PySem.W.nsIn K cStatics sharingNotToldKey = some none
section
variable {X : Cx} {pins : List (Addr × Obj)} {σ : L2.St} {H : Hp} {s : Shared}
theorem noMods (Y : Sys X.K) (I : Inv X pins σ H s) {a : Addr} {o : Obj} (e : s.heap.get? a = some o) (h : o.cls ≠ .type "dict") : sysModules ≠ a := fun z => by
  obtain ⟨o', h1, h2⟩ := Y.mods
  have q := I.kIn _ _ h1
  rw [z, e] at q
  cases q
  exact h h2
theorem keys_read : ∀ {es : List DictEntry} {vs : List (Key × Value)}, Pairs (mixKind X.prog X.w) es vs → ReadsAll s.heap (es.map (·.key)) (vs.map fun kv => kD kv.1) []
  | _, _, .nil => .nil
  | _, _, .cons hk hv t => by
    have q := keys_read t
    rcases keyIs_shape hk with ⟨i, t, e1, e2⟩ | ⟨x, t, e1, e2⟩
    · rw [List.map_cons, List.map_cons, e2]
      show ReadsAll s.heap _ (kD _ :: _) _
      rw [e1]
      exact ReadsAll.cons (as := []) (Reads.int i t) q
    · rw [List.map_cons, List.map_cons, e2]
      show ReadsAll s.heap _ (kD _ :: _) _
      rw [e1]
      exact ReadsAll.cons (as := []) (Reads.str x t) q
theorem vals_read : ∀ {es : List DictEntry} {vs : List (Key × Value)}, Pairs (mixKind X.prog X.w) es vs → es.map (·.val) = vs.map (·.2)
  | _, _, .nil => rfl
  | _, _, .cons _ hv t => by rw [List.map_cons, List.map_cons, hv, vals_read t]
theorem kv_fst {κ : Type} : ∀ {kvs : List (κ × V)} {vs : List (κ × Value)}, KV kvs vs → kvs.map (·.1) = vs.map (·.1)
  | _, _, .nil => rfl
  | _, _, .cons r t => by rw [List.map_cons, List.map_cons, r.1, kv_fst t]
theorem kv_snd {κ : Type} : ∀ {kvs : List (κ × V)} {vs : List (κ × Value)}, KV kvs vs → Vals (kvs.map (·.2)) (vs.map (·.2))
  | _, _, .nil => .nil
  | _, _, .cons r t => .cons r.2 (kv_snd t)
theorem zip_fst {α β : Type} : ∀ {l : List α} {m : List β}, l.length = m.length → (l.zip m).map (·.1) = l
  | [], _, _ => by simp
  | a :: l, [], h => by simp at h
  | a :: l, b :: m, h => by
    rw [List.zip_cons_cons, List.map_cons, zip_fst (by simpa using h)]
theorem zip_snd {α β : Type} : ∀ {l : List α} {m : List β}, l.length = m.length → (l.zip m).map (·.2) = m
  | [], m, h => by cases m <;> simp_all
  | a :: l, [], h => by simp
  | a :: l, b :: m, h => by
    rw [List.zip_cons_cons, List.map_cons, zip_snd (by simpa using h)]
mutual
theorem Dt.reads (Y : Sys X.K) (I : Inv X pins σ H s) : ∀ {v : V} {d : PyData} {u : Value}, Dt X.K H v d → RelV v u → ∃ as, Reads s.heap u d as ∧ sysModules ∉ as
  | _, _, _, .non, r => by
    cases r
    exact ⟨_, Reads.none, by simp⟩
  | _, _, _, .bl b, r => by
    cases r
    exact ⟨_, Reads.bool b, by simp⟩
  | _, _, _, .int i, r => by
    obtain ⟨t, rfl⟩ := r
    exact ⟨_, Reads.int i t, by simp⟩
  | _, _, _, .str x, r => by
    obtain ⟨t, rfl⟩ := r
    exact ⟨_, Reads.str x t, by simp⟩
  | _, _, _, .lst hs ha, r => by
    cases r
    obtain ⟨its, rv, ⟨o, n, ho, hc, _, hd⟩, _⟩ := I.list hs
    obtain ⟨as, hr, hn⟩ := DtAll.reads Y I ha rv
    have ne := noMods Y I ho (by rw [hc]; decide +kernel)
    exact ⟨_, Reads.list ho hc hd hr, fun z => (List.mem_cons.mp z).elim ne hn⟩
  | _, _, _, .tup hs ha, r => by
    cases r
    obtain ⟨its, rv, ⟨o, ho, hc, n, hd⟩, _⟩ := I.tuple hs
    obtain ⟨as, hr, hn⟩ := DtAll.reads Y I ha rv
    exact ⟨_, Reads.tuple ho hc hd hr, hn⟩
  | _, _, _, .dct (a := a) (ks := ks) (xs := xs) (ds := ds) h l ha, r => by
    cases r
    obtain ⟨hz, hS, vs, rk, o, es, ep, ho, hx, hd, _, hp, _⟩ := (show ObjOk X.prog X.w H s.heap a (.dK (ks.zip xs)) from I.hok a _ h)
    have e1 := (kv_fst rk).symm.trans (zip_fst l)
    have e2 := kv_snd rk
    rw [zip_snd l] at e2
    obtain ⟨as, hr, hn⟩ := DtAll.reads Y I ha e2
    have q1 : ReadsAll s.heap (es.toList.map (·.key)) (ks.map kD) [] := by
      have z := keys_read (s := s) hp
      have z2 : vs.map (fun kv => kD kv.1) = ks.map kD := by rw [← e1, List.map_map]; rfl
      rw [z2] at z
      exact z
    have ln : (ks.map kD).length = ds.length := by rw [List.length_map, l, ha.length]
    have q2 := vals_read hp
    refine ⟨a :: [] ++ as, Reads.dict ho hx.1 hd (by rw [zip_fst ln]; exact q1) (by rw [zip_snd ln, q2]; exact hr), fun z => ?_⟩
    rcases List.mem_cons.mp (show sysModules ∈ a :: as from z) with z | z
    · exact absurd z.symm (by simpa using hS)
    · exact hn z
theorem DtAll.reads (Y : Sys X.K) (I : Inv X pins σ H s) : ∀ {vs : List V} {ds : List PyData} {us : List Value}, DtAll X.K H vs ds → Vals vs us → ∃ as, ReadsAll s.heap us ds as ∧ sysModules ∉ as
  | _, _, _, .nil, r => by
    cases r
    exact ⟨_, ReadsAll.nil, by simp⟩
  | _, _, _, .cons h1 h2, r => by
    cases r with
    | cons r1 r2 =>
      obtain ⟨as, q1, n1⟩ := Dt.reads Y I h1 r1
      obtain ⟨bs, q2, n2⟩ := DtAll.reads Y I h2 r2
      exact ⟨_, ReadsAll.cons q1 q2, fun z => (List.mem_append.mp z).elim n1 n2⟩
end
/-- repr(x), x data -/
def rRepr (K : PySem.W.Frag) : List V → Hp → VK → Prop := fun xs H Q => ∃ x d, xs = [x] ∧ Dt K H x d ∧ d.showable = true ∧ d.depth ≤ 40 ∧ d.shown.length ≤ sizeLine ∧ Q (.str d.shown) H
theorem call_repr (Y : Sys X.K) (hgd : X.A.guards = some []) (hu : X.A.units + 64 < cLine) : CallR X (.builtin "repr") (rRepr X.K) := by
  intro pins s σ H xs us Q I r h
  obtain ⟨x, d, rfl, hd, hs, hp, hz, q⟩ := h
  obtain ⟨u, rfl, r1⟩ := vals1 r
  obtain ⟨as, rd, hn⟩ := Dt.reads Y I hd r1
  have fin : ∀ h' v tk, (∀ b o, s.heap.get? b = some o → h'.get? b = some o) → EP X pins σ Q (.str d.shown v) { s with heap := h', toks := tk } := fun h' v tk hk => ⟨.str d.shown, H, I.kept hk, ⟨_, rfl⟩, q⟩
  cases hd with
  | non => cases r1; exact PySem.P.repr_of_none (fin _ _ _ fun _ _ z => z)
  | bl b => cases r1; exact PySem.P.repr_of_bool (fin _ _ _ fun _ _ z => z)
  | int i =>
    obtain ⟨t, rfl⟩ := r1
    exact PySem.P.repr_of_int (by simpa [PyData.showable] using hs) (fin _ _ _ fun _ _ z => z)
  | str y =>
    obtain ⟨t, rfl⟩ := r1
    exact PySem.P.repr_of_str (fin _ _ _ fun _ _ z => z) hz
  | lst h1 h2 => cases r1; exact repr_of_reads' rd hs (fun _ => hn) hgd (by omega) (fun _ _ e => e) fin hz
  | tup h1 h2 => cases r1; exact repr_of_reads' rd hs (fun _ => hn) hgd (by omega) (fun _ _ e => e) fin hz
  | dct h1 h2 h3 => cases r1; exact repr_of_reads' rd hs (fun _ => hn) hgd (by omega) (fun _ _ e => e) fin hz
theorem ns_none {K : PySem.W.Frag} {h : Heap} {a : Addr} {m : Str → Option Value} {n : Str} (X : K.In h) (G : h.Ns a m) (e : PySem.W.nsIn K a n = some none) : m n = none := by
  obtain ⟨o, es, ep, ho, hd, _, hf⟩ := G
  unfold PySem.W.nsIn at e
  split at e
  · rename_i c d es' n' sl q
    have z := X _ _ q
    rw [ho] at z
    cases z
    cases hd
    split at e
    · cases e
    · rename_i he
      rw [← hf]
      unfold nsFind findBy
      rw [← Array.find?_toList, he]
      rfl
  · cases e
theorem unbooked (Y : Sys X.K) (I : Inv X pins σ H s) : NoneBooked s.heap := by
  obtain ⟨mc, h1, h2⟩ := I.nolimit
  exact ⟨mc, h1, ns_none I.kIn h1 Y.book⟩
end
end TS

/-! ### 3. defs by their promises -/
namespace TS
open PySem PySem.Spec PyProof.Rows L2
def Def (K : PySem.W.Frag) (mg : Str → Option Value) (x : Str) (st : Stmt) : Prop := ∃ f fd, FunD K x x (defArgs st) (defBody st) (defScope st) [] [] f fd ∧ mg x = some (.ref f)
def Prom (P : Program) (w : World) (K : PySem.W.Frag) (mg : Str → Option Value) (base : Heap) (k : Nat) (x : Str) (ps : List Str) (sp : Sp) : Prop :=
  ∃ f fd, FnOk P w K mg base CX0 k f fd ps sp ∧ mg x = some (.ref f) ∧ PySem.W.keepIn K (.ref f) = true ∧ Binds K fd ps []
def PromG (P : Program) (w : World) (K : PySem.W.Frag) (mg : Str → Option Value) (base : Heap) (k : Nat) (x : Str) (ps : List Str) (sp : Sp) : Prop :=
  ∃ f fd, FnG P w K mg base CX0 k f fd ps sp ∧ mg x = some (.ref f) ∧ PySem.W.keepIn K (.ref f) = true ∧ Binds K fd ps []
section
variable {X : Cx} {k : Nat} {ps : List Str} {sp : Sp} {x : Str} {p pos : Pos} {e : Expr} {es : List Expr} {t : TA}
theorem pe_pc (pr : Prom X.prog X.w X.K X.mg X.base k x ps sp) (hr : Room k X.A) (hg : Gl X x) (ha : PA X (e :: es) t) (hdb : (x == ("__debug__" : Str)) = false := by decide)
    (he : starEach (e :: es) X.env = (false, eval e X.env) :: starEach es X.env := by rfl) (hpl : (backTo pos (starEach es X.env)).any (·.1) = false := by rfl) :
    PE X (.Call (.Name x p) (e :: es) [] pos) (tCall sp [] E0 t) := by
  obtain ⟨f, fd, F, m, kp, b⟩ := pr
  exact pe_call F hr hg m kp b .nil pass0 ha hdb he hpl
theorem pe_pcG (pr : PromG X.prog X.w X.K X.mg X.base k x ps sp) (hgd : X.A.guards = some []) (hr : Room k X.A) (hg : Gl X x) (ha : PA X (e :: es) t) (hdb : (x == ("__debug__" : Str)) = false := by decide)
    (he : starEach (e :: es) X.env = (false, eval e X.env) :: starEach es X.env := by rfl) (hpl : (backTo pos (starEach es X.env)).any (·.1) = false := by rfl) :
    PE X (.Call (.Name x p) (e :: es) [] pos) (tCall sp [] E0 t) := by
  obtain ⟨f, fd, F, m, kp, b⟩ := pr
  exact pe_callG F hgd hr hg m kp b .nil pass0 ha hdb he hpl
end
section
variable {P : Program} {w : World} {K : PySem.W.Frag} {mg : Str → Option Value} {base : Heap} {N ps : List Str} {k : Nat} {sp : Sp} {x : Str} {st : Stmt}
theorem prom_mk (D : Def K mg x st) (S : FnScope N ps (defScope st)) (len : ∀ vs H Q E, sp vs H Q E → vs.length = ps.length)
    (hb : ∀ (kV doc pm : Value) (an : Option Addr) (cdv ct : Value) (us : List Value), us.length = ps.length → bindArgs (PySem.W.fnOf x x (defArgs st) (defBody st) (defScope st) .none kV doc pm an cdv ct) ⟨us, []⟩ = pure (ps.zip us))
    (body : ∀ (f : Addr) (cdv : Value) (A : Around) (outer : List Env) (s : Shared) (H : Hp) (vs : List V) (Q : VK) (E : XK), Room k (A.deeper (envOfC x (defScope st) s.heap.objs.size f cdv)) → sp vs H Q E →
      ∃ t, PSs (cxOf CX0 P w K mg base N x (defScope st) f cdv A outer s H E).nox (defBody st) t ∧ t { nx := fun _ H' => Q .non H', rt := Q } (start N vs) H) : Prom P w K mg base (k + 1) x ps sp := by
  obtain ⟨f, fd, F, m⟩ := D
  refine ⟨f, fd, F.ok S len fun cdv A outer s H vs Q E hr h => ?_, m, F.kp, F.bindsN hb⟩
  obtain ⟨t, h1, h2⟩ := body f cdv A outer s H vs Q E hr h
  exact ⟨t, h1.nox, h2⟩
theorem promG_mk (D : Def K mg x st) (S : FnScope N ps (defScope st)) (len : ∀ vs H Q E, sp vs H Q E → vs.length = ps.length)
    (hb : ∀ (kV doc pm : Value) (an : Option Addr) (cdv ct : Value) (us : List Value), us.length = ps.length → bindArgs (PySem.W.fnOf x x (defArgs st) (defBody st) (defScope st) .none kV doc pm an cdv ct) ⟨us, []⟩ = pure (ps.zip us))
    (body : ∀ (f : Addr) (cdv : Value) (A : Around) (outer : List Env) (s : Shared) (H : Hp) (vs : List V) (Q : VK) (E : XK), (A.deeper (envOfC x (defScope st) s.heap.objs.size f cdv)).guards = some [] →
      Room k (A.deeper (envOfC x (defScope st) s.heap.objs.size f cdv)) → sp vs H Q E →
      ∃ t, PSs (cxOf CX0 P w K mg base N x (defScope st) f cdv A outer s H E).nox (defBody st) t ∧ t { nx := fun _ H' => Q .non H', rt := Q } (start N vs) H) : PromG P w K mg base (k + 1) x ps sp := by
  obtain ⟨f, fd, F, m⟩ := D
  refine ⟨f, fd, okG F S len fun cdv A outer s H vs Q E hg hr h => ?_, m, F.kp, F.bindsN hb⟩
  obtain ⟨t, h1, h2⟩ := body f cdv A outer s H vs Q E hg hr h
  exact ⟨t, h1.nox, h2⟩
end
section
variable {P : Program} {w : World} {K : PySem.W.Frag} {mg : Str → Option Value} {base : Heap} {N ps : List Str} {k : Nat} {sp : Sp} {x : Str} {st : Stmt} {f : Addr} {fd : FuncData}
theorem fnG_mk (F : FunD K x x (defArgs st) (defBody st) (defScope st) [] [] f fd) (S : FnScope N ps (defScope st)) (len : ∀ vs H Q E, sp vs H Q E → vs.length = ps.length)
    (body : ∀ (f : Addr) (cdv : Value) (A : Around) (outer : List Env) (s : Shared) (H : Hp) (vs : List V) (Q : VK) (E : XK), (A.deeper (envOfC x (defScope st) s.heap.objs.size f cdv)).guards = some [] →
      Room k (A.deeper (envOfC x (defScope st) s.heap.objs.size f cdv)) → sp vs H Q E →
      ∃ t, PSs (cxOf CX0 P w K mg base N x (defScope st) f cdv A outer s H E).nox (defBody st) t ∧ t { nx := fun _ H' => Q .non H', rt := Q } (start N vs) H) : FnG P w K mg base CX0 (k + 1) f fd ps sp := by
  refine okG F S len fun cdv A outer s H vs Q E hg hr h => ?_
  obtain ⟨t, h1, h2⟩ := body f cdv A outer s H vs Q E hg hr h
  exact ⟨t, h1.nox, h2⟩
end
/-- the built-in names that the text leaves alone -/
structure Bt (mg : Str → Option Value) : Prop where
  len_ : mg "len" = none
  isinstance_ : mg "isinstance" = none
  range_ : mg "range" = none
  max_ : mg "max" = none
  min_ : mg "min" = none
  int_ : mg "int" = none
  str_ : mg "str" = none
  bool_ : mg "bool" = none
  repr_ : mg "repr" = none
  all_ : mg "all" = none
  any_ : mg "any" = none
  list_ : mg "list" = none
  tuple_ : mg "tuple" = none
  dict_ : mg "dict" = none
  set_ : mg "set" = none
  sorted_ : mg "sorted" = none
  enumerate_ : mg "enumerate" = none
  zip_ : mg "zip" = none
  reversed_ : mg "reversed" = none
def btNames : List Str := ["len", "isinstance", "range", "max", "min", "int", "str", "bool", "repr", "all", "any", "list", "tuple", "dict", "set", "sorted", "enumerate", "zip", "reversed"]
theorem bt_of {K : PySem.W.Frag} {h : Heap} {mg : Str → Option Value} (X : K.In h) (G : h.Ns mainGlobals mg) (c : btNames.all (fun x => (He.Fa.free x).ok K) = true) : Bt mg := by
  have z : ∀ x ∈ btNames, mg x = none := fun x hx => He.free_ok X G (List.all_eq_true.mp c x hx)
  refine ⟨z _ ?_, z _ ?_, z _ ?_, z _ ?_, z _ ?_, z _ ?_, z _ ?_, z _ ?_, z _ ?_, z _ ?_, z _ ?_, z _ ?_, z _ ?_, z _ ?_, z _ ?_, z _ ?_, z _ ?_, z _ ?_, z _ ?_⟩ <;> decide +kernel

/-! ### 4. heaps: what is kept but for one object -/
def Fx (b : Addr) (H H' : Hp) : Prop := ∀ a o, a ≠ b → H a = some o → H' a = some o
def hide (H : Hp) (b : Addr) : Hp := fun a => if a = b then none else H a
theorem hide_self {H : Hp} {b : Addr} : hide H b b = none := by unfold hide; rw [if_pos rfl]
theorem hide_ne {H : Hp} {a b : Addr} (h : a ≠ b) : hide H b a = H a := by unfold hide; rw [if_neg h]
theorem hide_same {H : Hp} {b : Addr} : Same (hide H b) H := fun a o e => by
  unfold hide at e
  split at e
  · cases e
  · exact e
theorem Fx.refl (b : Addr) (H : Hp) : Fx b H H := fun _ _ _ e => e
theorem Fx.trans {b : Addr} {H H1 H2 : Hp} (x : Fx b H H1) (y : Fx b H1 H2) : Fx b H H2 := fun a o h e => y a o h (x a o h e)
theorem Fx.of {b : Addr} {H H' : Hp} (s : Same H H') : Fx b H H' := fun a o _ e => s a o e
theorem Fx.upd {b : Addr} {H H' : Hp} {o : HO} (x : Fx b H H') : Fx b H (upd H' b o) := fun a u h e => by
  rw [upd_ne h]
  exact x a u h e
theorem Fx.new {b p : Addr} {H H' : Hp} {o : HO} (x : Fx b H H') (h : H' p = none) : Fx b H (L2.upd H' p o) := fun a u ha e => by
  have q := x a u ha e
  rw [upd_ne (ne_of_none q h)]
  exact q
theorem Fx.hide {b : Addr} {H H' : Hp} (x : Fx b H H') : Same (hide H b) (hide H' b) := fun a o e => by
  have h : a ≠ b := fun z => by rw [z, hide_self] at e; cases e
  rw [hide_ne h] at e ⊢
  exact x a o h e
theorem Fx.sq {K : PySem.W.Frag} {b a : Addr} {H H' : Hp} {xs : List V} (x : Fx b H H') (h : a ≠ b) (s : SqL K H a xs) : SqL K H' a xs := by
  rcases s with (q | ⟨o, q⟩) | q
  · exact .inl (.inl (x _ _ h q))
  · exact .inl (.inr ⟨o, x _ _ h q⟩)
  · exact .inr q
theorem Same.new {H H' : Hp} {p : Addr} {o : HO} (s : Same H H') (h : H' p = none) : Same H (L2.upd H' p o) := fun a u e => by
  have q := s a u e
  rw [upd_ne (ne_of_none q h)]
  exact q
theorem sq_hide {K : PySem.W.Frag} {H : Hp} {a b : Addr} {xs : List V} (h : a ≠ b) (s : SqL K H a xs) : SqL K (hide H b) a xs := by
  rcases s with (q | ⟨o, q⟩) | q
  · exact .inl (.inl (by rw [hide_ne h]; exact q))
  · exact .inl (.inr ⟨o, by rw [hide_ne h]; exact q⟩)
  · exact .inr q
/-! ### 5. bags of draws -/
def Bag (n : Nat) (o : HO) : Prop := ∃ x y z : Int, o = .lst [.int x, .int y, .int z] ∧ 0 ≤ x ∧ 0 ≤ y ∧ y < 2147483629 ∧ 0 ≤ z ∧ z + n ≤ 1000000000
theorem Bag.mono {m n : Nat} {o : HO} (h : Bag n o) (l : m ≤ n) : Bag m o := let ⟨x, y, z, e, a, b, c, d, f⟩ := h; ⟨x, y, z, e, a, b, c, d, by omega⟩
theorem Bag.is {n : Nat} {o : HO} (h : Bag n o) : ∃ xs, o = .lst xs := let ⟨_, _, _, e, _⟩ := h; ⟨_, e⟩
/-- a cell of the script, or a number of its own -/
def spCell (K : PySem.W.Frag) : Sp := fun vs H Q _ => ∃ (a : Addr) (ns : List Int) (k : Nat), vs = [.ref a, .int k] ∧ SqL K H a (ns.map V.int) ∧ k ≤ 100 ∧ ∀ c, Q (.int c) H
def spBag : Sp := fun vs H Q _ => ∃ c : Int, vs = [.int c] ∧ ∀ p o, H p = none → Bag 900000000 o → Q (.ref p) (upd H p o)
/-- a draw below many -/
def spTake : Sp := fun vs H Q _ => ∃ (b : Addr) (o : HO) (n : Nat) (many : Int), vs = [.ref b, .int many] ∧ H b = some o ∧ Bag (n + 1) o ∧ 0 < many ∧ many < 2 ^ 200 ∧
  ∀ (d : Int) (o' : HO), 0 ≤ d → d < many → Bag n o' → Q (.int d) (upd H b o')
/-! ### 6. rules whose readings name K itself (for blocks) -/
def rLenK (K : PySem.W.Frag) : List V → Hp → VK → Prop := fun xs H Q => ∃ x n, xs = [x] ∧ LenV K x H n ∧ Q (.int n) H
def rListOf (K : PySem.W.Frag) : List V → Hp → VK → Prop := fun xs H Q => ∃ p ys, xs = [.ref p] ∧ (SqL K H p ys ∨ SqT K H p ys) ∧ ∀ l, H l = none → Q (.ref l) (upd H l (.lst ys))
def rTupleOf (K : PySem.W.Frag) : List V → Hp → VK → Prop := fun xs H Q => ∃ p ys, xs = [.ref p] ∧ ((SqL K H p ys ∧ ∀ l, H l = none → Q (.ref l) (upd H l (.tup ys))) ∨ (SqT K H p ys ∧ Q (.ref p) H))
def rJoin (K : PySem.W.Frag) : V → List V → Hp → VK → Prop := fun x xs H Q => ∃ a p, ∃ ys : List Str, x = .str a ∧ xs = [.ref p] ∧ (SqL K H p (ys.map V.str) ∨ SqT K H p (ys.map V.str)) ∧
  (ys.map (·.length)).sum + ys.length * a.length ≤ 16777216 ∧ Q (.str (Txt.join a ys)) H
section
variable {X : Cx} {K : PySem.W.Frag}
theorem ix_listK (hK : X.K = K := by rfl) : IxR X (rIxL K) := by subst hK; exact ix_list
theorem ix_tupK (hK : X.K = K := by rfl) : IxR X (rIxT K) := by subst hK; exact ix_tup
theorem sl_listK (hK : X.K = K := by rfl) : SlR X (rSlL K) := by subst hK; exact sl_list
theorem lenK (hK : X.K = K := by rfl) : CallR X (.builtin "len") (rLenK K) := by subst hK; exact call_len
theorem isiK (hK : X.K = K := by rfl) : CallR X (.builtin "isinstance") (rIsi K) := by subst hK; exact call_isi
theorem isiTK (hK : X.K = K := by rfl) : CallR X (.builtin "isinstance") (rIsiT K) := by subst hK; exact call_isiT
theorem allK (hc : X.calm = true) (hK : X.K = K := by rfl) : CallR X (.builtin "all") (rAll K) := by subst hK; exact cr_all hc
theorem listK (hK : X.K = K := by rfl) : CallR X (.type "list") (rListOf K) := by subst hK; exact call_list_of
theorem tupleK (hK : X.K = K := by rfl) : CallR X (.type "tuple") (rTupleOf K) := by subst hK; exact call_tuple_of
theorem reprK (Y : Sys K) (hgd : X.A.guards = some []) (hu : X.A.units + 64 < cLine) (hK : X.K = K := by rfl) : CallR X (.builtin "repr") (rRepr K) := by subst hK; exact call_repr Y hgd hu
theorem op_inK (hK : X.K = K := by rfl) : OpR X (compareOp .In) (rIn K false) := by subst hK; exact op_in_seq
theorem op_notInK (hK : X.K = K := by rfl) : OpR X (compareOp .NotIn) (rIn K true) := by subst hK; exact op_notIn_seq
theorem op_eqDK (hu : X.A.units + 64 < cLine) (hK : X.K = K := by rfl) : OpR X (compareOp .Eq) (rEqD K) := by subst hK; exact op_eqD hu
theorem op_neDK (hu : X.A.units + 64 < cLine) (hK : X.K = K := by rfl) : OpR X (compareOp .NotEq) (rNeD K) := by subst hK; exact op_neD hu
variable {o e : Expr} {es : List Expr} {to te : TE} {t : TA} {apos cpos : Pos}
theorem pe_joinK (hK : X.K = K) (ho : PE X o to) (he : PE X e te) (hs : starEach [e] X.env = [(false, eval e X.env)] := by rfl) (hbase : attributeBase o "join" X.env (eval o X.env) = eval o X.env := by rfl)
    (hline : (apos.endLine == cpos.line) = true := by rfl) : PE X (.Call (.Attribute o "join" apos) [e] [] cpos) (tM1 (rJoin K) to te) := by
  subst hK
  exact pe_join ho he hs hbase hline
theorem pe_appendK (hK : X.K = K) (ho : PE X o to) (he : PE X e te) (hs : starEach [e] X.env = [(false, eval e X.env)] := by rfl) (hbase : attributeBase o "append" X.env (eval o X.env) = eval o X.env := by rfl)
    (hfew : ((backTo cpos (starEach [e] X.env)).all (fun x => !x.1) && (backToKw cpos (keywordEach [] X.env)).all (fun x => x.1.isSome)
      && decide ([e].length + ([] : List Keyword).length + (if ([] : List Keyword).isEmpty then 0 else 1) < 30)) = true := by rfl)
    (hline : (apos.endLine == cpos.line) = true := by rfl) : PE X (.Call (.Attribute o "append" apos) [e] [] cpos) (tBM K "list" rAppend to (tCons te tNil)) := by
  subst hK
  exact pe_bm PySem.F.plainAttrs_list PySem.F.slot_list_append PySem.F.type_list_append mt_append ho (pa_cons he pa_nil hs) hbase hfew hline hs rfl
theorem pi_listK {tg : Expr} (hK : X.K = K) (hl : PE X e te) : PI X tg e (iList K te) := by subst hK; exact pi_list hl
theorem pi_tupK {tg : Expr} (hK : X.K = K) (hl : PE X e te) : PI X tg e (iTup K te) := by subst hK; exact pi_tup hl
theorem pi_enumK {p pos tpos : Pos} {elts : List Expr} {kk : Nat} (hK : X.K = K) (hg : Gl X "enumerate") (hm : X.mg "enumerate" = none) (ha : PA X [e] t) (hs : starEach [e] X.env = [(false, eval e X.env)] := by rfl) :
    PI X (.Tuple elts kk tpos) (.Call (.Name "enumerate" p) [e] [] pos) (iEnum K t) := by subst hK; exact pi_enum hg hm ha hs
theorem pi_revK {tg : Expr} {p pos : Pos} (hK : X.K = K) (hg : Gl X "reversed") (hm : X.mg "reversed" = none) (ha : PA X [e] t) (hs : starEach [e] X.env = [(false, eval e X.env)] := by rfl) :
    PI X tg (.Call (.Name "reversed" p) [e] [] pos) (iRev K t) := by subst hK; exact pi_reversed hg hm ha hs
end
end TS

/-! ### the end of a law, the guards told; the head's facts by any Bool of the written part -/
namespace TS
open PySem PySem.Spec PyProof.Rows L2
theorem law_callG {P : Program} {w : World} {K : PySem.W.Frag} {mg mb : Str → Option Value} {k : Nat} {fa a : Addr} {fd : FuncData} {x : Str} {sp : Sp} {s₁ : Shared} {vs : List Value} {ns : List Int}
    (KX : K.In s₁.heap) (hns : s₁.heap.Ns mainGlobals mg) (hb : s₁.heap.Ns builtinsNs mb) (hbb : ∀ x : Str, x ≠ "__name__" → mb x = bootBuiltins x) (hlim : s₁.heap.NoLimit) (hg : s₁.gens = #[])
    (ha : s₁.heap.get? a = some { cls := .type "list", data := .seq vs.toArray }) (hi : IntsAre vs ns) (hl : ns.length ≤ sizeLine) (hr : Room k callerA)
    (F : ∀ base : Heap, K.In base → base.Ns mainGlobals mg → FnG P w K mg base CX0 k fa fd [x] sp) (hbind : ∀ (s : Shared) (u : Value), BindsTo s fd ⟨[u], []⟩ [(x, u)])
    (hsp : ∀ H : Hp, Only H → SqL K H a (ns.map V.int) → sp [.ref a] H (fun v _ => v = .bl true) E0) :
    codeAny (model P w) callerA (.call (.ref fa) ⟨[.ref a], []⟩) (fun r s' => r = .ok (.ret (.bool true)) ∧ OldK s₁.heap s'.heap ∧ s'.os = s₁.os ∧ AllBare s'.gens) s₁ := by
  have rv := vals_ints hi
  have lenV := hi.length
  have go : ∀ H : Hp, Only H → SqL K H a (ns.map V.int) → HOk P w H s₁.heap → (∀ b u, H b = some u → b = a ∧ K.lookup a = none) →
      codeAny (model P w) callerA (.call (.ref fa) ⟨[.ref a], []⟩) (fun r s' => r = .ok (.ret (.bool true)) ∧ OldK s₁.heap s'.heap ∧ s'.os = s₁.os ∧ AllBare s'.gens) s₁ := by
    intro H hO hS hok hA
    have free : ∀ {b : Addr} {o : Obj}, s₁.heap.get? b = some o → (∀ n sl, o ≠ ⟨.type "list", none, .seq vs.toArray n, sl⟩ ) → H b = none := fun {b o} e d => by
      cases q : H b with
      | none => rfl
      | some u =>
        obtain ⟨rfl, _⟩ := hA b u q
        rw [ha] at e
        exact absurd (Option.some.inj e).symm (d _ _)
    have nsK : ∀ {b : Addr} {m : Str → Option Value}, s₁.heap.Ns b m → (hidT s₁.heap H).Ns b m := fun {b m} ⟨o, es, ep, e, d, r⟩ =>
      ⟨o, es, ep, hidT_get e (free e fun n sl z => by rw [z] at d; cases d), d, r⟩
    have KB : K.In (hidT s₁.heap H) := fun b o e => hidT_get (KX b o e) (by
      cases q : H b with
      | none => rfl
      | some u =>
        obtain ⟨rfl, z⟩ := hA b u q
        rw [z] at e
        cases e)
    have e0 : Env0 P w K mg (hidT s₁.heap H) callerA [] s₁ H :=
      ⟨rfl, ⟨KB, nsK hns, ⟨mb, nsK hb, hbb⟩, let ⟨mc, h1, h2⟩ := hlim; ⟨mc, nsK h1, h2⟩⟩, fun b o e => of_hidT e, Nat.le_of_eq (hidT_size _ _), trivial, (fun b z => nomatch z), hok, .of_eq hg⟩
    refine codeAny_mono ((F _ KB (nsK hns)).run callerA [] s₁ H ⟨[.ref a], []⟩ [.ref a] [.ref a] _ _ rfl hr e0 (hbind s₁ (.ref a)) (.cons rfl .nil) (hsp H hO hS)) fun r s' h => ?_
    match r, h with
    | .error e, h => exact False.elim h
    | .ok (.ret u), ⟨v, H', os, bare, un, hok', r', q⟩ =>
      obtain rfl : v = .bl true := q
      obtain rfl : u = Value.bool true := r'
      refine ⟨rfl, OldK.of_keep fun b o e => ?_, os, bare⟩
      rcases hO b with z | ⟨ob, xs, z⟩
      · exact un.keep b o e z (fun z => nomatch z) (fun z => nomatch z)
      · obtain ⟨e1, _⟩ := hok b _ z
        obtain ⟨e2, _⟩ := hok' b _ (un.frzs b ob _ z)
        rw [e] at e1
        cases e1
        exact e2
  cases hk : K.lookup a with
  | some o =>
    have e := KX a o hk
    rw [ha] at e
    cases e
    exact go (fun _ => none) (fun _ => .inl rfl) (.inr ⟨_, vs.toArray, _, hk, rfl, rfl, rfl, by rw [List.size_toArray, lenV]; exact hl, by simpa using rv⟩) (fun b u z => nomatch (show (none : Option HO) = some u from z)) (fun b u z => nomatch (show (none : Option HO) = some u from z))
  | none =>
    have one : ∀ {b : Addr} {u : HO}, (if b = a then some (HO.frz { cls := .type "list", data := .seq vs.toArray } (.lst (ns.map V.int))) else none) = some u → b = a ∧ u = .frz { cls := .type "list", data := .seq vs.toArray } (.lst (ns.map V.int)) := fun {b u} z => by
      by_cases hb : b = a
      · rw [if_pos hb] at z
        exact ⟨hb, (Option.some.inj z).symm⟩
      · rw [if_neg hb] at z
        cases z
    refine go (fun b => if b = a then some (.frz { cls := .type "list", data := .seq vs.toArray } (.lst (ns.map V.int))) else none) (fun b => ?_) (.inl (.inr ⟨_, if_pos rfl⟩)) (fun b u z => ?_) (fun b u z => ⟨(one z).1, hk⟩)
    · by_cases hb : b = a
      · exact .inr ⟨_, _, if_pos hb⟩
      · exact .inl (if_neg hb)
    · obtain ⟨rfl, rfl⟩ := one z
      exact ⟨ha, by rw [List.length_map]; exact hl, vs, _, rv, ha⟩
/-- what F gives of the law -/
structure LawAt (l : PySem.W.OpenLaw) (w : World) (mg : Str → Option Value) (k n : Nat) (x : Str) (h : Heap) (fa : Addr) (K : PySem.W.Frag) : Prop where
  kin : K.In h
  fn : ∃ (fd : FuncData) (sp : Sp), (∀ (s : Shared) (u : Value), BindsTo s fd ⟨[u], []⟩ [(x, u)]) ∧
    (∀ (H : Hp) (a : Addr) (ns : List Int), ns.length ≤ n → Only H → SqL K H a (ns.map V.int) → sp [.ref a] H (fun v _ => v = .bl true) E0) ∧
    ∀ base : Heap, K.In base → base.Ns mainGlobals mg → FnG l.prog w K mg base CX0 k fa fd [x] sp
theorem walkG {l : PySem.W.OpenLaw} {n k : Nat} {q : Program} {loose : List Str} {XP : (Str → Option Value) → Heap → Prop} {YP : World → Heap → Prop} {d : DefRec} {x : Str}
    (hn : l.most = some n) (hn2 : n ≤ sizeLine) (hdf : d.params.defaults = []) (hr : Room k callerA)
    (F : ∀ (w : World) (mg : Str → Option Value) (fa : Addr) (h : Heap), YP w h → h.Ns mainGlobals mg → mg d.name = some (.ref fa) → ∃ K, LawAt l w mg k n x h fa K) :
    PySem.W.WalkO q loose XP YP l.row.toRowW d [] (fun f vs => PySem.call f vs) := by
  refine Att.attach_call hn hdf fun w s₀ s₁ mg mb fa o pm cd doc a vs ns G Y ho hd hcd hmg hobj hints hlen hg => ?_
  obtain ⟨K, KX, fd, sp, hb, hsp, hF⟩ := F w mg fa _ Y G.T.g hmg
  exact law_callG KX G.T.g G.T.b G.T.builtins G.T.nolimit hg hobj hints (Nat.le_trans hlen hn2) hr hF hb fun H hO hS => hsp H a ns hlen hO hS
/-! ### the head -/
def asX (g : Addr → Option Obj) : Nat → List Addr
  | 0 => [mainGlobals, cStatics]
  | n + 1 => He.growD g (asX g n)
def frX (n : Nat) (g : Addr → Option Obj) : PySem.W.Frag := He.frG g (asX g n ++ [sysModules])
def obsX (n : Nat) (chk : PySem.W.Frag → Bool) (fn : List He.DefD) (g : Addr → Option Obj) : He.AlD :=
  (chk (frX n g) && fn.all (fun d => d.ok (frX n g)), fn.map fun d => He.fnW (frX n g) d.at_)
def hookX (n : Nat) (chk : PySem.W.Frag → Bool) (fn : List He.DefD) : PySem.W.Hook where
  α := He.AlD
  obs := fun s => obsX n chk fn s.heap.get?
  val := fun _ => (true, fn.map He.DefD.val)
  says := fun _ h => ∃ K : PySem.W.Frag, K.In h ∧ chk K = true ∧ fn.all (fun d => d.ok K) = true ∧ fn.map (fun d => He.fnW K d.at_) = fn.map He.DefD.val
  of := fun _ s e => ⟨_, He.frG_in, (He.ba (congrArg (·.1) e)).1, (He.ba (congrArg (·.1) e)).2, congrArg (·.2) e⟩
  keeps := fun _ _ _ ⟨K, hK, c⟩ k => ⟨K, PySem.W.Frag.In.keeps hK k, c⟩
theorem obsX_eq {n : Nat} {chk : PySem.W.Frag → Bool} {fn : List He.DefD} (s : PySem.W.SharedT) : obsX n chk fn (HandSHeadRun.getT s) = (hookX n chk fn).obs s.abs := by
  have e : HandSHeadRun.getT s = s.abs.heap.get? := funext (HandSHeadRun.getT_eq s)
  show obsX n chk fn (HandSHeadRun.getT s) = obsX n chk fn s.abs.heap.get?
  rw [e]
/-- a def's datum: a top statement -/
def defD (x : Str) (st : Stmt) : He.DefD := ⟨(x, none), x, x, defArgs st, defBody st, defScope st, [], []⟩
theorem def_of {K : PySem.W.Frag} {h : Heap} {mg : Str → Option Value} {fn : List He.DefD} (X : K.In h) (G : h.Ns mainGlobals mg) (c1 : fn.all (fun d => d.ok K) = true) (c2 : fn.map (fun d => He.fnW K d.at_) = fn.map He.DefD.val)
    {x : Str} {st : Stmt} (i : Nat) (hi : fn[i]? = some (defD x st)) (hg : (He.Fa.glo x).ok K = true) : Def K mg x st := by
  have e1 : He.fnW K (defD x st).at_ = (defD x st).val := by
    have h1 := congrArg (·[i]?) c2
    simp only [List.getElem?_map, hi, Option.map_some] at h1
    exact Option.some.inj h1
  obtain ⟨fd, F⟩ := He.DefD.funD e1 (List.all_eq_true.mp c1 _ (List.mem_of_getElem? hi))
  exact ⟨He.ga K x, fd, F, He.glo_ok X G hg⟩
/-- what is asked of the machine's own objects -/
def sysB (K : PySem.W.Frag) : Bool := (match K.lookup sysModules with | some o => decide (o.cls = .type "dict") | none => false) && decide (PySem.W.nsIn K cStatics sharingNotToldKey = some none)
theorem sysB_ok {K : PySem.W.Frag} (h : sysB K = true) : Sys K := by
  obtain ⟨h1, h2⟩ := He.ba h
  refine ⟨?_, of_decide_eq_true h2⟩
  cases e : K.lookup sysModules with
  | none => rw [e] at h1; cases h1
  | some o => rw [e] at h1; exact ⟨o, rfl, of_decide_eq_true h1⟩
def chkX (gl : List Str) (more : PySem.W.Frag → Bool) (K : PySem.W.Frag) : Bool := (sysB K && btNames.all fun x => (He.Fa.free x).ok K) && ((gl.all fun x => (He.Fa.glo x).ok K) && more K)
end TS

set_option maxHeartbeats 2000000
/-! ### comprehensions of any kind: one walk for every clause, whatever is done with what comes -/
namespace TS
open PySem PySem.Spec PyProof.Rows L2 PpSet
/-- one turn of a clause: what comes, its store, its tests; then what is done with it -/
def Steps (P : Program) (w : World) (A : Around) (it : Value) (tg : Expr) (cs : List Expr) (env : Env) (act : (Shared → Prop) → Shared → Prop) (E : Value → Shared → Prop) (stop next : Shared → Prop) (s : Shared) : Prop :=
  wpAny (model P w) A (pyNext it) (fun r t => match r with
    | none => stop t
    | some v => wpAny (model P w) A (letOwnedTupleGo tg it v) (fun _ t => wpAny (model P w) A (assign tg env v) (fun _ t => wpAny (model P w) A (forIn cs true fun c r => if r = true then do let ok ← isTrue c env (eval c env); pure (ForInStep.yield ok) else pure (ForInStep.yield r))
        (fun b t => if b = true then act next t else next t) E t) E t) E t) E s
/-- a clause's code goes by such turns -/
def Goes (P : Program) (w : World) (A : Around) (c : Code) (it : Value) (tg : Expr) (cs : List Expr) (env : Env) (act : (Value → Shared → Prop) → (Shared → Prop) → Shared → Prop) : Prop :=
  ∀ (R : Result → Shared → Prop) (I : Nat → Shared → Prop), (∀ n s, I n s → Steps P w A it tg cs env (act (notedBy (model P w) A env fun e t => R (.error e) t)) (notedBy (model P w) A env fun e t => R (.error e) t) (R (.ok .next)) (fun t => ∃ m, m < n ∧ I m t) s) →
    ∀ n s, I n s → codeAny (model P w) A c R s
/-- the turns of one clause, as readings: W by the turn and a measure, Out behind the last one, Body what is asked of an item that passes -/
def Rounds (J : It) (g : TG) (tt : TT) (τ : L2.St) (W : Nat → Nat → Hp → Prop) (Out : Hp → Prop) (ws : L2.St → L2.St) (Body : (Hp → Prop) → L2.St → Hp → Prop) : Prop :=
  ∀ i m H, W i m H → (J.stop i H ∧ Out H) ∨ (J.go i H ∧ ∃ Nx : Hp → Prop, (∀ G, Nx G → ∃ k, k < m ∧ W (i + 1) k G) ∧ ∀ x G, J.yld i H x G → g x τ G fun σ2 H2 => ws σ2 = τ ∧ tt σ2 H2 fun b H3 => if b = true then Body Nx σ2 H3 else Nx H3)
theorem walk_clause {Y : Cx} {c : Code} {tg : Expr} {cs : List Expr} {g : TG} {tt : TT} {it : Addr} {fp : List Addr} {tn : Nat → Heap → Prop} {J : It} {act : (Value → Shared → Prop) → (Shared → Prop) → Shared → Prop} {R : Result → Shared → Prop}
    {pins : List (Addr × Obj)} {τ : L2.St} {W : Nat → Nat → Hp → Prop} {Out : Hp → Prop} {vs : List Nat} {Body : (Hp → Prop) → L2.St → Hp → Prop}
    (goes : Goes Y.prog Y.w Y.A c (.ref it) tg cs Y.env act) (calm : Y.calm = true) (mute : Y.xe = fun _ _ => False) (T : Turn Y.prog Y.w Y.K tg J fp it tn) (pg : PG Y tg g) (pt : PTs Y cs tt)
    (free : ∀ (σ : L2.St) (H : Hp) (s : Shared), Inv Y pins σ H s → ∀ b ∈ fp, H b = none → FpOk Y pins H b)
    (rounds : Rounds J g tt τ W Out (fun σ => wipe σ vs) Body)
    (done : ∀ s H, Inv Y pins τ H s → Out H → R (.ok .next) s)
    (acts : ∀ (E : Value → Shared → Prop) (h : Heap) (s : Shared) (σ2 : L2.St) (H : Hp) (Nx : Hp → Prop) (next : Shared → Prop), Inv Y (pins ++ pinsAt fp h) σ2 H s → wipe σ2 vs = τ → Body Nx σ2 H →
      (∀ s' H' σ', Inv Y (pins ++ pinsAt fp h) σ' H' s' → τ.length = σ'.length → (∀ (j : Nat) v, τ[j]? = some (some v) → σ'[j]? = some (some v)) → Nx H' → next s') → act E next s)
    {s : Shared} {H : Hp} {m : Nat} (I : Inv Y pins τ H s) (st : tn 0 s.heap) (nf : ∀ b ∈ fp, H b = none) (w0 : W 0 m H) : codeAny (model Y.prog Y.w) Y.A c R s := by
  refine goes R (fun n t => ∃ i G, Inv Y pins τ G t ∧ tn i t.heap ∧ (∀ b ∈ fp, G b = none) ∧ W i n G) (fun n t ⟨i, G, IG, sG, nG, wG⟩ => ?_) m s ⟨0, H, I, st, nf, w0⟩
  have fG := fun b hb => free _ _ _ IG b hb (nG b hb)
  rcases rounds i n G wG with ⟨hs, ho⟩ | ⟨hg, Nx, hN, step⟩
  · refine thnF (T.done Y rfl rfl rfl calm i pins t τ G (fun _ _ => False) IG fG sG hs) fun r t1 h => ?_
    obtain ⟨rfl, I1⟩ := h
    exact done t1 G I1 ho
  refine thnF (T.item Y rfl rfl rfl calm i pins t τ G (fun _ _ => False) IG fG sG hg) fun r t1 h => ?_
  obtain ⟨u, rfl, h⟩ := h
  refine thnF h fun _ t2 h => ?_
  obtain ⟨x, G2, I2, rx, hy, s2, n2⟩ := h
  have P2 := I2.pinned (fun b hb => free _ _ _ I2 b hb (n2 b hb)) (T.obj _ _ s2)
  have leave : ∀ (t' : Shared) (G' : Hp) (σ' : L2.St), Inv Y (pins ++ pinsAt fp t2.heap) σ' G' t' → τ.length = σ'.length → (∀ (j : Nat) v, τ[j]? = some (some v) → σ'[j]? = some (some v)) → Nx G' →
      ∃ k, k < n ∧ ∃ i G, Inv Y pins τ G t' ∧ tn i t'.heap ∧ (∀ b ∈ fp, G b = none) ∧ W i k G := fun t' G' σ' I' l e nx => by
    obtain ⟨k, lk, wk⟩ := hN G' nx
    have at_ : ∀ b ∈ fp, ∀ o, t2.heap.get? b = some o → t'.heap.get? b = some o ∧ G' b = none := fun b hb o eo =>
      have p := I'.pin (b, o) (List.mem_append_right _ (List.mem_append_right _ (mem_pinsAt hb eo)))
      ⟨p.1, p.2.1⟩
    exact ⟨k, lk, i + 1, G', I'.unpinned.weak l e, T.keep _ _ _ s2 fun b hb o eo => (at_ b hb o eo).1, fun b hb => let ⟨o, eo, _⟩ := T.obj _ _ s2 b hb; (at_ b hb o eo).2, wk⟩
  have stored := pg.run _ t2 τ G2 x u _ P2 rx (step x G2 hy)
  rw [mute] at stored
  refine thnF stored fun _ t3 h => ?_
  obtain ⟨σ3, G3, I3, hw, h⟩ := h
  have hl : τ.length = σ3.length := by rw [← show wipe σ3 vs = τ from hw, wipe_length]
  have he : ∀ (j : Nat) v, τ[j]? = some (some v) → σ3[j]? = some (some v) := fun j v e => by
    rw [← show wipe σ3 vs = τ from hw] at e
    exact (wipe_some e).1
  have tested := pt.run _ t3 σ3 G3 _ I3 h
  rw [mute] at tested
  refine thnF tested fun b t4 h => ?_
  obtain ⟨G4, I4, h⟩ := h
  cases b with
  | false => exact leave t4 G4 σ3 I4 hl he h
  | true => exact acts _ t2.heap t4 σ3 G4 Nx _ I4 hw h leave
section
variable {X : Cx} {pins : List (Addr × Obj)} {σ : L2.St} {H : Hp} {s : Shared}
/-- a fresh object of the block's, laid by a constructor -/
def Makes (X : Cx) (mk : Sem Value) (o : Addr → HO) : Prop := ∀ (pins : List (Addr × Obj)) (σ : L2.St) (H : Hp) (s : Shared) (Q : Value → Shared → Prop) (E : Value → Shared → Prop), Inv X pins σ H s →
  (∀ (D : Addr) (t : Shared), D = s.heap.objs.size → H D = none → (∀ b u, s.heap.get? b = some u → t.heap.get? b = some u) → t.heap.objs.size = D + 1 → Inv X pins σ (upd H D (o D)) t → Q (.ref D) t) → wpAny (model X.prog X.w) X.A mk Q E s
/-- a comprehension: its constructor, its first clause's turns; what is done with an item is told by Body and act -/
theorem comp_any {Q : VK} {ce tg iter : Expr} {cs : List Expr} {rest : List Comprehension} {scope : Scope} {own : List (PySem.Str × Nat)} {pos : Pos} {wi : TI} {g : TG} {tt : TT} {mk : Sem Value} {o : Addr → HO} {use : Option (Value → Sem Unit)} {Qf : Value → Shared → Prop}
    {act : Value → Env → (Value → Shared → Prop) → (Shared → Prop) → Shared → Prop} {Body : Addr → (Hp → Prop) → L2.St → Hp → Prop}
    (hcl : clausesOf ce = ⟨tg, iter, cs, 0⟩ :: rest) (hmk : Makes X mk o) (goes : ∀ (it acc : Addr) (env : Env), Goes X.prog X.w X.A (.compLoop ce 0 (.ref it) (.ref acc) env) (.ref it) tg cs env (act (.ref acc) env))
    (start : ∀ (R : Result → Shared → Prop) (s : Shared) (it acc : Value) (env : Env), codeAny (model X.prog X.w) X.A (.compLoop ce 0 it acc env) R s →
      wpAny (model X.prog X.w) X.A (pyIter it) (fun it' t => codeAny (model X.prog X.w) X.A (.compLoop ce 0 it' acc env) R t) (notedBy (model X.prog X.w) X.A env fun x t => R (.error x) t) s → codeAny (model X.prog X.w) X.A (.compStart ce 0 it acc env) R s)
    (calm : X.calm = true) (nod : X.N.Nodup) (I : Inv X pins σ H s) (pit : PI X tg iter wi) (bk : BlkOk X.N X.env.scope scope own)
    (ptg : ∀ (s : Shared) (H : Hp) (C : Addr) (cl : List (PySem.Str × Addr)) (fp : List Addr), PG (X.blk s H scope (compEnvC scope cl C X.env) fp) tg g) (ptt : ∀ (s : Shared) (H : Hp) (C : Addr) (cl : List (PySem.Str × Addr)) (fp : List Addr), PTs (X.blk s H scope (compEnvC scope cl C X.env) fp) cs tt)
    (fold : ∀ x, foldedSetIterable iter X.env x = pure x)
    (rd : wi σ H fun J H1 => ∀ D, H1 D = none → ∃ W : Nat → Nat → Hp → Prop, (∃ m, W 0 m (upd H1 D (o D))) ∧ Rounds J g tt (wipe σ (own.map (·.2))) W (fun G => Q (.ref D) G) (fun σ => wipe σ (own.map (·.2))) (Body D))
    (acts : ∀ (s0 : Shared) (H0 : Hp) (C : Addr) (cl : List (PySem.Str × Addr)) (fp : List Addr) (D : Addr) (E : Value → Shared → Prop) (pins : List (Addr × Obj)) (s : Shared) (σ2 : L2.St) (G : Hp) (Nx : Hp → Prop) (next : Shared → Prop), Inv (X.blk s0 H0 scope (compEnvC scope cl C X.env) fp) pins σ2 G s →
      wipe σ2 (own.map (·.2)) = wipe σ (own.map (·.2)) → Body D Nx σ2 G →
      (∀ s' H' σ', Inv (X.blk s0 H0 scope (compEnvC scope cl C X.env) fp) pins σ' H' s' → (wipe σ (own.map (·.2))).length = σ'.length → (∀ (j : Nat) v, (wipe σ (own.map (·.2)))[j]? = some (some v) → σ'[j]? = some (some v)) → Nx H' → next s') → act (.ref D) (compEnvC scope cl C X.env) E next s)
    (back : ∀ D C t m G, Inv X pins σ G t → Q (.ref D) G → t.heap.Ns C m → FpOk X pins G C → compPost (model X.prog X.w) X.A X.xe use Qf (.ref D) C (.ok .next) t) :
    wpAny (model X.prog X.w) X.A (comprehension ce scope X.env pos mk false (eval iter X.env) use) Qf X.xe s := by
  have reach : ∀ y ∈ scope.names, y.2 = .free → ∃ c, X.env.cells.lookup y.1 = some c := fun y hy e => I.ok.has _ (bk.free y hy e)
  refine wpAny_comprehension_free (use := use) hcl fold (closure_ok reach) bk.kind (fun y hy e => (bk.uniq y hy).trans (congrArg some e)) (thn (pit.run pins s σ H _ I rd) fun _ _ h1 => thn h1 fun _ t2 h2 => ?_)
  obtain ⟨it, fp, tn, J, G2, rfl, I2, T, sT, fr, h⟩ := h2
  refine hmk pins σ G2 t2 _ _ I2 fun D t3 eD nD up size I3 => newEnv_comp ?_
  obtain ⟨W, ⟨m, w0⟩, rounds⟩ := h D nD
  have old : ∀ b ∈ fp, b < t2.heap.objs.size := fun b hb => let ⟨u, e, _⟩ := T.obj _ _ sT b hb; Heap.lt_size e
  have fr3 : ∀ b ∈ fp, FpOk X pins (upd G2 D (o D)) b ∧ b < t3.heap.objs.size := fun b hb => by
    have l := old b hb
    exact ⟨⟨(upd_ne (by rw [eD]; exact Nat.ne_of_lt l)).trans (fr b hb).1, (fr b hb).2⟩, by rw [size, eD]; exact Nat.lt_succ_of_lt l⟩
  have I4 := block_start I3 bk nod fr3
  have k4 : ∀ b u, t2.heap.get? b = some u → (pushCells (t3.heap.push { cls := .type "dict", data := .dict #[] }) scope.names).get? b = some u := fun b u e => pushCells_keeps _ _ _ _ (Heap.get?_push_of_some _ (up b u e))
  generalize ecl : cellsFrom (t3.heap.objs.size + 1) scope.names (cloFrom X.env.cells scope.names []) = cl at I4
  generalize eG : upd G2 D (o D) = G3 at I3 I4 w0 fr3
  generalize eC : t3.heap.objs.size = C at I4
  have lC : (compEnvC scope cl C X.env).locals = C := rfl
  refine start _ _ _ _ _ ?_ (T.self X.A 0 _ _ _ (T.keep _ _ _ sT fun b hb u e => k4 b u e) ?_)
  all_goals
    show codeAny _ _ (.compLoop ce 0 (.ref it) (.ref D) (compEnvC scope cl C X.env)) (compPost (model X.prog X.w) X.A X.xe use Qf (.ref D) C) _
    refine walk_clause (Y := X.blk t3 G3 scope (compEnvC scope cl C X.env) fp) (pins := []) (goes it D _) calm rfl T (ptg t3 G3 C cl fp) (ptt t3 G3 C cl fp) (fun τ G t J b hb hn => ⟨hn, (J.ok.exf b hb).1, J.ok.exfs b hb, .inl hb, fun x c e => (J.ok.exf b hb).2 x c e, fun p hp => absurd (show p ∈ ([] : List (Addr × Obj)) ++ [] from hp) (by simp)⟩)
      rounds (fun t G J q => ?_) (fun E h t σ2 G Nx next J e hb fin => acts t3 G3 C cl fp D E _ t σ2 G Nx next J e hb fin) I4 (T.keep _ _ _ sT fun b hb u e => k4 b u e) (fun b hb => (fr3 b hb).1.1) w0
    have K : Inv X pins σ G t := I3.call' (ch := fp) J.os J.base J.hok J.bare fun b hb => let ⟨_, f1, _, f3, f4, f5⟩ := (fr3 b hb).1; ⟨f3, f1, f4, f5⟩
    obtain ⟨mm, hn, _⟩ := J.loc
    exact back D C t mm G K q hn (I3.fpOk (Nat.le_of_eq eC) J.free)
end
end TS

set_option maxHeartbeats 2000000
/-! ### 7. set comprehensions of ints and texts, and how many there are -/
namespace TS
open PySem PySem.Spec PyProof.Rows L2 PpSet
section
variable {X : Cx}
theorem setK_fresh {P : Program} {w : World} {h : Heap} : (h.push { cls := .type "set", dict := none, data := .set #[] 0 (.fresh 0 0 (!w.params.followText "set-order")) }).SetOf (mixKind P w) h.objs.size (fun _ => false) 0 :=
  ⟨_, #[], 0, _, Heap.get?_push_size h rfl, ⟨rfl, rfl, rfl⟩, rfl, (fun e z => by simp at z), (fun k => by simp), (by decide), (by rfl), rfl⟩
theorem makes_set : Makes X (newSet (.type "set")) fun D => SetK X.prog X.w D (fun _ => false) 0 := fun pins σ H s Q E I q => by
  refine newSet_ok (q _ _ rfl (I.hok.fresh (Nat.le_refl _)) (fun b u e => Heap.get?_push_of_some _ e) (Heap.size_push ..) ?_)
  exact I.laid (t' := s.toks) (fun b u e => Heap.get?_push_of_some _ e) (Nat.le_refl _) (setK_new setK_fresh)
theorem addK_ok {pins : List (Addr × Obj)} {σ : L2.St} {H : Hp} {s : Shared} {E : Value → Shared → Prop} {D : Addr} {S : Key → Bool} {n : Nat} {k : Key} {u : Value} {Q : Value → Shared → Prop} (J : Inv X pins σ H s) (eD : H D = some (SetK X.prog X.w D S n)) (rk : RelV (kV k) u)
    (room : n + 1 < scanBound) (q : ∀ t, Inv X pins σ (upd H D (SetK X.prog X.w D (fun j => S j || decide (j = k)) (if S k = true then n else n + 1))) t → Q .none t) : wpAny (model X.prog X.w) X.A (call (.builtin "set.add") [.ref D, u]) Q E s := by
  refine call_set_add (kV_is rk) (key_scan rk) (setK_get J eD) room fun hp sb nw => ?_
  have there : ∃ v, hp.get? D = some v := let ⟨o, _, _, _, ho, _⟩ := nw; ⟨o, ho⟩
  exact q _ (J.write (e := D) (t' := s.toks + 1) (by rw [eD]; trivial) (.inl rfl) (fun b v hb hv => (sb.2 b hb).trans hv) there (setK_new nw))
/-- what is asked of an item that goes into the set D -/
def setBody (P : Program) (w : World) (te : TE) (D : Addr) (Nx : Hp → Prop) (σ2 : L2.St) (H3 : Hp) : Prop :=
  te σ2 H3 fun y H4 => ∃ (k : Key) (S : Key → Bool) (n : Nat), y = kV k ∧ H4 D = some (SetK P w D S n) ∧ n + 1 < scanBound ∧ Nx (upd H4 D (SetK P w D (fun j => S j || decide (j = k)) (if S k = true then n else n + 1)))
/-- {elt for target in iter if ..}, elt an int or a text: D the new set -/
def tScK (P : Program) (w : World) (wi : TI) (g : TG) (tt : TT) (te : TE) (vs : List Nat) : TE := fun σ H Q => wi σ H fun J H1 => ∀ D, H1 D = none → ∃ Wt : Nat → Nat → Hp → Prop, (∃ m, Wt 0 m (upd H1 D (SetK P w D (fun _ => false) 0))) ∧ ∀ i m H, Wt i m H →
  (J.stop i H ∧ Q (.ref D) H) ∨ (J.go i H ∧ ∃ Nx : Hp → Prop, (∀ G, Nx G → ∃ m', m' < m ∧ Wt (i + 1) m' G) ∧ ∀ x G, J.yld i H x G → g x (wipe σ vs) G fun σ2 H2 => wipe σ2 vs = wipe σ vs ∧ tt σ2 H2 fun b H3 =>
    if b = true then te σ2 H3 fun y H4 => ∃ (k : Key) (S : Key → Bool) (n : Nat), y = kV k ∧ H4 D = some (SetK P w D S n) ∧ n + 1 < scanBound ∧ Nx (upd H4 D (SetK P w D (fun j => S j || decide (j = k)) (if S k = true then n else n + 1))) else Nx H3)
/-- as a value -/
theorem pe_scK {elt tg iter : Expr} {ifs : List Expr} {scope : Scope} {own : List (PySem.Str × Nat)} {pos : Pos} {wi : TI} {g : TG} {tt : TT} {te : TE} (calm : X.calm = true) (nod : X.N.Nodup) (pit : PI X tg iter wi) (bk : BlkOk X.N X.env.scope scope own)
    (ptg : ∀ (s : Shared) (H : Hp) (C : Addr) (cl : List (PySem.Str × Addr)) (fps : List Addr), PG (X.blk s H scope (compEnvC scope cl C X.env) fps) tg g) (ptt : ∀ (s : Shared) (H : Hp) (C : Addr) (cl : List (PySem.Str × Addr)) (fps : List Addr), PTs (X.blk s H scope (compEnvC scope cl C X.env) fps) ifs tt)
    (pel : ∀ (s : Shared) (H : Hp) (C : Addr) (cl : List (PySem.Str × Addr)) (fps : List Addr), PE (X.blk s H scope (compEnvC scope cl C X.env) fps) elt te) (fold : ∀ x, foldedSetIterable iter X.env x = pure x := by intro _; rfl) :
    PE X (.SetComp elt [⟨tg, iter, ifs, 0⟩] scope pos) (tScK X.prog X.w wi g tt te (own.map (·.2))) := by
  refine ⟨fun pins s σ H Q I rd => ?_⟩
  rw [eval_SetComp]
  refine comp_any (rest := []) (Body := setBody X.prog X.w te) (act := fun acc env E next s => wpAny (model X.prog X.w) X.A (eval elt env) (fun v t => wpAny (model X.prog X.w) X.A (call (.builtin "set.add") [acc, v]) (fun _ t => next t) E t) E s) rfl makes_set
    (fun it acc env R I turn n s h => compLoopS_any I turn n h) (fun R s it acc env h0 h => codeAny_compStart_set h0 h) calm nod I pit bk ptg ptt fold rd (fun s0 H0 C cl fp D E pins s σ2 G Nx next J e hb fin => ?_)
    fun D C t m G J q hn f => ⟨m, hn, fun h2 sb => ?_⟩
  · refine thnF ((pel s0 H0 C cl fp).run _ s σ2 G _ J hb) fun v t h => ?_
    obtain ⟨y, G2, J2, ry, k, S, n, rfl, eD, room, nx⟩ := h
    refine addK_ok (X := X.blk s0 H0 scope (compEnvC scope cl C X.env) fp) J2 eD ry room fun t2 J3 => fin t2 _ σ2 J3 (by rw [← e, wipe_length]) (fun j x q => ?_) nx
    rw [← e] at q
    exact (wipe_some q).1
  · obtain ⟨f0, f1, _, f3, f4, f5⟩ := f
    exact ⟨.ref D, G, J.turned (t' := t.toks) (fun b o hb e => (sb.2 b hb).trans e) f0 f1 f3 f4 f5, rfl, q⟩
def rLenSet (P : Program) (w : World) : List V → Hp → VK → Prop := fun xs H Q => ∃ (a : Addr) (S : Key → Bool) (n : Nat), xs = [.ref a] ∧ H a = some (SetK P w a S n) ∧ n < 2 ^ 40 ∧ Q (.int n) H
theorem len_setK : CallR X (.builtin "len") (rLenSet X.prog X.w) := by
  intro pins s σ H xs us Q J r rd
  obtain ⟨a, S, n, rfl, ea, hn, q⟩ := rd
  obtain ⟨u, rfl, ra⟩ := vals1 r
  cases ra
  have ⟨o, es, ep, t, ho, hx, hd, h1, h2, h3, h4, h5⟩ := setK_get J ea
  subst h5
  exact call_len_set ho hx hd h4 (by have := hn; omega) ⟨.int es.size, H, J.kept fun _ _ z => z, ⟨_, rfl⟩, q⟩
end
end TS

set_option maxHeartbeats 2000000
/-! ### 8. enumerate over a tuple; readings by either of two ways -/
namespace PySem
open Sem (wp)
open AutoSeq1 (wpAny_loadPart')
theorem ts_enum_newT (l : Addr) (items : Array Value) (n : Nat) (dct : Option Addr) (sl : Array (Option Value)) :
    Meets (Builtin.«enumerate.__new__» ⟨[.type "enumerate", .ref l], []⟩) (fun _ R s => s.heap.get? l = some { cls := .type "tuple", dict := dct, data := .seq items n, slots := sl } ∧
      R (.ok (.ret (.ref (s.heap.push { cls := .type "tuple_iterator", data := .fields #[.ref l, .int 0 0] }).objs.size)))
        { s with heap := (s.heap.push { cls := .type "tuple_iterator", data := .fields #[.ref l, .int 0 0] }).push { cls := .type "enumerate", data := .fields #[.none, .bool false, .ref s.heap.objs.size, rawInt 0, .none, .none] } }) :=
  .of_wp fun prog w A R s h => by
    obtain ⟨hp, g, d, tk, os⟩ := s
    obtain ⟨there, rest⟩ := h
    have se := sub_enumerate
    have tup : Heap.IsTuple (Shared.heap ⟨hp, g, d, tk, os⟩) l items := ⟨_, there, rfl, n, rfl⟩
    wp_walk using wpAny_loadPart' there
    refine wpAny_stack_any fun st => wpAny_pure ?_
    split
    · rename_i c _ _ _ _ _
      cases (c == Value.type "enumerate")
      · wp_walk using wpAny_loadPart' there, wpAny_pyIter_tuple tup
        exact ⟨_, rfl, rest⟩
      · wp_walk using wpAny_loadPart' there, wpAny_pyIter_tuple tup
        exact ⟨_, rfl, rest⟩
    · wp_walk using wpAny_loadPart' there, wpAny_pyIter_tuple tup
      exact ⟨_, rfl, rest⟩
theorem ts_call_enumT {prog : Program} {w : World} {A : Around} {E : Value → Shared → Prop} {s : Shared} {l : Addr} {items : Array Value} {Q : Value → Shared → Prop} (tup : s.heap.IsTuple l items)
    (q : ∀ G, IsEnum G (s.heap.objs.size + 1) s.heap.objs.size 0 .none → G.IsTupleIter s.heap.objs.size l 0 → (∀ b o, s.heap.get? b = some o → G.get? b = some o) → Q (.ref (s.heap.objs.size + 1)) { s with heap := G }) :
    wpAny (model prog w) A (call (.type "enumerate") [.ref l]) Q E s := by
  obtain ⟨⟨c, dct, dt, sl⟩, there, ec, n, ed⟩ := tup
  replace ec : c = .type "tuple" := ec
  replace ed : dt = .seq items n := ed
  subst ec ed
  refine callType_new F.called_enumerate (by decide) (F.typeCall_enumerate_1 _) (F.newCall_enumerate_1 _) (fun z => F.args_object_init_2 z _) F.entry_enumerate_new (ts_enum_newT l items n dct sl) ⟨there, ?_⟩
  have sz : (s.heap.push { cls := .type "tuple_iterator", data := .fields #[.ref l, .int 0 0] }).objs.size = s.heap.objs.size + 1 := Heap.size_push ..
  show _ ∧ _
  rw [sz]
  have en : IsEnum ((s.heap.push { cls := .type "tuple_iterator", data := .fields #[.ref l, .int 0 0] }).push
      { cls := .type "enumerate", data := .fields #[.none, .bool false, .ref s.heap.objs.size, rawInt 0, .none, .none] }) (s.heap.objs.size + 1) s.heap.objs.size 0 .none := by
    have z := Heap.get?_push_size (s.heap.push { cls := .type "tuple_iterator", data := .fields #[.ref l, .int 0 0] })
      (o := { cls := .type "enumerate", data := .fields #[.none, .bool false, .ref s.heap.objs.size, rawInt 0, .none, .none] }) rfl
    rw [sz] at z; exact z
  exact ⟨⟨_, en, rfl⟩, q _ en ⟨_, Heap.get?_push_of_some _ (Heap.get?_push_size _ rfl), rfl, rfl⟩ fun b o x => Heap.get?_push_of_some _ (Heap.get?_push_of_some _ x)⟩
end PySem
namespace TS
open PySem PySem.Spec PyProof.Rows L2
/-- the tuple at a, the items in new pairs with their places -/
def IteT (K : PySem.W.Frag) (a : Addr) : It :=
  ⟨fun i H => ∃ (xs : List V) (x : V), SqT K H a xs ∧ xs[i]? = some x,
    fun i H v G => ∃ T x, v = .ref T ∧ H T = none ∧ G = upd H T (.tup [.int (i : Nat), x]) ∧ ∀ xs, SqT K H a xs → xs[i]? = some x,
    fun i H => ∃ xs : List V, SqT K H a xs ∧ xs.length ≤ i⟩
theorem turn_enumT {P : Program} {w : World} {K : PySem.W.Frag} {elts : List Expr} {kk : Nat} {tpos : Pos} (a e it : Addr) :
    Turn P w K (.Tuple elts kk tpos) (IteT K a) [e, it] e (fun i h => (∃ old, IsEnum h e it i old) ∧ h.IsTupleIter it a i ∧ e ≠ it) where
  mem := by simp
  obj := fun i h st b hb => by
    obtain ⟨⟨old, en⟩, ⟨o, ho, hc, hd⟩, _⟩ := st
    have e' : b = e ∨ b = it := by simpa using hb
    rcases e' with z | z
    · rw [z]; exact ⟨_, en, fun v q => nomatch q⟩
    · rw [z]; exact ⟨o, ho, fun v q => by rw [hd] at q; cases q⟩
  keep := fun i h G st k => let ⟨⟨old, en⟩, ti, ne⟩ := st; ⟨⟨old, k e (by simp) _ en⟩, ti.at fun o q => k it (by simp) o q, ne⟩
  item := by
    intro X hP hw hK hc i pins s σ H E J hf st hg
    subst hP hw hK
    obtain ⟨⟨old, en⟩, ti, ne⟩ := st
    obtain ⟨xs, x, hq, hx⟩ := hg
    obtain ⟨its, rv, p, hz⟩ := J.tuple hq
    obtain ⟨u, hu, ru⟩ := rv.get hx
    have p' : s.heap.IsTuple a its.toArray := p
    have lte : e < s.heap.objs.size := Heap.lt_size en
    have lti : it < s.heap.objs.size := by obtain ⟨_, q, _⟩ := ti; exact Heap.lt_size q
    have nai : a ≠ it := fun z => by
      obtain ⟨o, ho, hc1, hd1⟩ := ti
      obtain ⟨o2, ho2, hc2, _⟩ := p'
      rw [z, ho] at ho2
      cases ho2
      rw [hc1] at hc2
      exact absurd hc2 (by decide +kernel)
    have nae : e ≠ a := fun z => by
      obtain ⟨o2, ho2, hc2, _⟩ := p'
      rw [← z] at ho2
      have en' : s.heap.get? e = some _ := en
      rw [en'] at ho2
      cases ho2
      exact absurd (show Value.type "enumerate" = Value.type "tuple" from hc2) (by decide +kernel)
    have ui : its.toArray[i]? = some u := by simpa using hu
    have lt : i < its.toArray.size := by
      rcases Nat.lt_or_ge i its.toArray.size with z | z
      · exact z
      · rw [Array.getElem?_eq_none z] at ui; cases ui
    have hd := J.ok.hd hc
    refine wpAny_pyNext_enum_itemD (Draws.tuple (by exact hd) it a nai its.toArray) en ⟨ti, p'⟩ lt ne (by simp [ne, nae]) fun y G tk hy ho st' hT hsz hk => ?_
    rw [ui] at hy
    cases hy
    refine ⟨_, rfl, wpAny_letOwnedTupleGo_enum (s := { s with heap := G, toks := tk + 1 }) ho fun G2 en' sb => ?_⟩
    have hT2 : G2.get? s.heap.objs.size = some { cls := .type "tuple", data := .seq #[.int i tk, u] } := (sb.2 _ (Nat.ne_of_gt lte)).trans hT
    have new : ObjOk X.prog X.w (upd H s.heap.objs.size (.tup [.int (i : Nat), x])) G2 s.heap.objs.size (.tup [.int (i : Nat), x]) :=
      ⟨by show 2 ≤ sizeLine; decide, [.int i tk, u], .cons ⟨_, rfl⟩ (.cons ru .nil), ⟨_, hT2, rfl, _, rfl⟩⟩
    have J1 : Inv X pins σ (upd H s.heap.objs.size (.tup [.int (i : Nat), x])) { s with heap := G2, toks := tk + 1 } :=
      J.turnedNew (ch := [e, it]) (fun b ob hb q => (sb.2 b (fun z => hb (by simp [z]))).trans (hk b ob (fun z => hb (by simp [z])) (fun z => hb (by simp [z])) q)) hf (Nat.le_refl _) new
    refine ⟨.ref s.heap.objs.size, _, J1, rfl, ⟨_, x, rfl, J.hok.fresh (Nat.le_refl _), rfl, fun ys hy => by rw [J.tuple_inj hy hq]; exact hx⟩, ⟨⟨u, ?_⟩, st'.1.at fun o q => (sb.2 it (Ne.symm ne)).trans q, ne⟩, fun b hb => ?_⟩
    · have e1 : ((i + 1 : Nat) : Int) = (i : Int) + 1 := by omega
      rw [e1]; exact en'
    · have lb : b < s.heap.objs.size := by
        have e' : b = e ∨ b = it := by simpa using hb
        rcases e' with z | z
        · rw [z]; exact lte
        · rw [z]; exact lti
      rw [upd_ne (Nat.ne_of_lt lb)]
      exact (hf b hb).1
  done := by
    intro X hP hw hK hc i pins s σ H E J hf st hg
    subst hP hw hK
    obtain ⟨⟨old, en⟩, ti, ne⟩ := st
    obtain ⟨xs, hq, hx⟩ := hg
    obtain ⟨its, rv, p, hz⟩ := J.tuple hq
    obtain ⟨f0, f1, f2, f3, f4, f5⟩ := hf it (by simp)
    have hl := rv.length
    have p' : s.heap.IsTuple a its.toArray := p
    have hT : s.TypeIs (.ref e) "enumerate" := ⟨_, en, rfl⟩
    have hd := J.ok.hd hc
    unfold pyNext
    refine wpAny_bind (wpAny_attempt (wpAny_callSpecial?_slot (name := Str.ofString "__next__") hT F.slot_enumerate_next
      (wpAny_call_entry F.slot_enumerate_next hT F.entry_enumerate_next ?_ (F.args_enumerate_next_1 _))))
    show wpAny _ _ (field (.ref e) 2 >>= _) _ _ _
    refine wpAny_bind (wpAny_field en rfl (x := .ref it) rfl ?_)
    refine wpAny_bind (wpAny_nextOf_tuple_end (by exact hd) ti p' (by simp; omega) fun G x eb hx' => ?_)
    obtain ⟨o, ho, hco⟩ := hx'
    refine wpAny_bind (wpAny_isInstance (T := "StopIteration") (b := true) ⟨o, ho, hco⟩ isSubtype_stop ?_)
    exact wpAny_pure ⟨rfl, J.turned (t' := s.toks) (fun b o hb q => eb b o hb q) f0 f1 f3 f4 f5⟩
  self := fun A i s Q E st h => let ⟨⟨_, en⟩, _⟩ := st; wpAny_pyIter_enum en h
def iEnumT (K : PySem.W.Frag) (ta : TA) : TI := fun σ H R => ta σ H fun vs H1 => ∃ a xs, vs = [.ref a] ∧ SqT K H1 a xs ∧ R (IteT K a) H1
theorem pi_enumT {X : Cx} {K : PySem.W.Frag} {e : Expr} {ta : TA} {p pos tpos : Pos} {elts : List Expr} {kk : Nat} (hK : X.K = K) (hg : Gl X "enumerate") (hm : X.mg "enumerate" = none) (ha : PA X [e] ta) (hs : starEach [e] X.env = [(false, eval e X.env)] := by rfl) :
    PI X (.Tuple elts kk tpos) (.Call (.Name "enumerate" p) [e] [] pos) (iEnumT K ta) := by
  subst hK
  refine ⟨fun pins s σ H R J h => ?_⟩
  refine Call_ (ld_blt J hg hm boot_enumerate (PyProof.Rows.callWith_type1 (thn (ha.run pos pins s σ H _ J h) fun us t ⟨vs, H1, J1, r1, q1⟩ => ?_) hs rfl))
  obtain ⟨a, xs, ex, hq, q⟩ := q1
  subst ex
  obtain ⟨u, rfl, ra⟩ := vals1 r1
  cases ra
  obtain ⟨its, rv, p', hz⟩ := J1.tuple hq
  refine ts_call_enumT (show t.heap.IsTuple a its.toArray from p') fun G en ti hk => wpAny_pyIter_enum en ?_
  have J2 : Inv X pins σ H1 { t with heap := G } := J1.kept (t' := t.toks) hk
  refine ⟨t.heap.objs.size + 1, [t.heap.objs.size + 1, t.heap.objs.size], _, _, H1, rfl, J2, turn_enumT a (t.heap.objs.size + 1) t.heap.objs.size, ⟨⟨.none, en⟩, ti, Nat.succ_ne_self _⟩, fun b hb => ?_, q⟩
  have le : t.heap.objs.size ≤ b := by
    have e' : b = t.heap.objs.size + 1 ∨ b = t.heap.objs.size := by simpa using hb
    rcases e' with z | z <;> rw [z]
    · exact Nat.le_add_right _ _
    · exact Nat.le_refl _
  exact J1.fpOk le (J1.hok.fresh le)
theorem walk_enumT {K : PySem.W.Frag} {a : Addr} {xs : List V} : Walk (IteT K a) xs.length (fun H => SqT K H a xs) (YPair (fun i => some (.int (i : Nat))) (fun i => xs[i]?)) := by
  refine ⟨fun i _ hi q => ⟨xs, xs[i], q, by simp [hi]⟩, fun _ q => ⟨xs, q, Nat.le_refl _⟩, fun i H v G _ q y => ?_⟩
  obtain ⟨T, x, h1, h2, h3, h4⟩ := y
  exact ⟨T, .int (i : Nat), x, h1, h2, h3, rfl, h4 xs q⟩
/-! either of two readings -/
section
variable {X : Cx} {e tg : Expr} {t1 t2 : TE} {i1 i2 : TI}
theorem pe_either (h1 : PE X e t1) (h2 : PE X e t2) : PE X e (fun σ H Q => t1 σ H Q ∨ t2 σ H Q) := ⟨fun pins s σ H Q J h => h.elim (h1.run pins s σ H Q J) (h2.run pins s σ H Q J)⟩
theorem pi_either (h1 : PI X tg e i1) (h2 : PI X tg e i2) : PI X tg e (fun σ H R => i1 σ H R ∨ i2 σ H R) := ⟨fun pins s σ H R J h => h.elim (h1.run pins s σ H R J) (h2.run pins s σ H R J)⟩
end
end TS

set_option maxHeartbeats 2000000
/-! ### 9. defs that raise; own exceptions with one field; several except clauses -/
namespace TS
open PySem PySem.Spec PyProof.Rows L2
/-- a method's def at f -/
def DefM (K : PySem.W.Frag) (f : Addr) (m qual : Str) (st : Stmt) : Prop := ∃ fd, FunD K m qual (defArgs st) (defBody st) (defScope st) [] [] f fd
/-- a promise by the def's place -/
def PromA (CX : CXT) (P : Program) (w : World) (K : PySem.W.Frag) (mg : Str → Option Value) (base : Heap) (k : Nat) (f : Addr) (ps : List Str) (sp : Sp) : Prop := ∃ fd, FnOk P w K mg base CX k f fd ps sp ∧ Binds K fd ps []
/-- a def that may raise, by its name -/
def PromX (P : Program) (w : World) (K : PySem.W.Frag) (mg : Str → Option Value) (base : Heap) (k : Nat) (x : Str) (ps : List Str) (sp : Sp) : Prop :=
  ∃ f, PromA (L2.CX P w) P w K mg base k f ps sp ∧ mg x = some (.ref f) ∧ PySem.W.keepIn K (.ref f) = true
section
variable {P : Program} {w : World} {K : PySem.W.Frag} {mg : Str → Option Value} {base : Heap} {N ps : List Str} {k : Nat} {sp : Sp} {x m qual : Str} {st : Stmt} {f : Addr}
theorem meth_mk (D : DefM K f m qual st) (S : FnScope N ps (defScope st)) (len : ∀ vs H Q E, sp vs H Q E → vs.length = ps.length)
    (hb : ∀ (kV doc pm : Value) (an : Option Addr) (cdv ct : Value) (us : List Value), us.length = ps.length → bindArgs (PySem.W.fnOf m qual (defArgs st) (defBody st) (defScope st) .none kV doc pm an cdv ct) ⟨us, []⟩ = pure (ps.zip us))
    (body : ∀ (cdv : Value) (A : Around) (outer : List Env) (s : Shared) (H : Hp) (vs : List V) (Q : VK) (E : XK), Room k (A.deeper (envOfC qual (defScope st) s.heap.objs.size f cdv)) → sp vs H Q E →
      ∃ t, PSs (cxOf CX0 P w K mg base N qual (defScope st) f cdv A outer s H E).nox (defBody st) t ∧ t { nx := fun _ G => Q .non G, rt := Q } (start N vs) H) : PromA CX0 P w K mg base (k + 1) f ps sp := by
  obtain ⟨fd, F⟩ := D
  refine ⟨fd, F.ok S len fun cdv A outer s H vs Q E hr h => ?_, F.bindsN hb⟩
  obtain ⟨t, h1, h2⟩ := body cdv A outer s H vs Q E hr h
  exact ⟨t, h1.nox, h2⟩
theorem methX_mk (D : DefM K f m qual st) (S : FnScope N ps (defScope st)) (len : ∀ vs H Q E, sp vs H Q E → vs.length = ps.length)
    (hb : ∀ (kV doc pm : Value) (an : Option Addr) (cdv ct : Value) (us : List Value), us.length = ps.length → bindArgs (PySem.W.fnOf m qual (defArgs st) (defBody st) (defScope st) .none kV doc pm an cdv ct) ⟨us, []⟩ = pure (ps.zip us))
    (body : ∀ (cdv : Value) (A : Around) (outer : List Env) (s : Shared) (H : Hp) (vs : List V) (Q : VK) (E : XK), Room k (A.deeper (envOfC qual (defScope st) s.heap.objs.size f cdv)) → sp vs H Q E →
      ∃ t, PSs (cxOf (L2.CX P w) P w K mg base N qual (defScope st) f cdv A outer s H E) (defBody st) t ∧ t { nx := fun _ G => Q .non G, rt := Q } (start N vs) H) : PromA (L2.CX P w) P w K mg base (k + 1) f ps sp := by
  obtain ⟨fd, F⟩ := D
  exact ⟨fd, F.ok S len body, F.bindsN hb⟩
theorem promX_mk (D : Def K mg x st) (S : FnScope N ps (defScope st)) (len : ∀ vs H Q E, sp vs H Q E → vs.length = ps.length)
    (hb : ∀ (kV doc pm : Value) (an : Option Addr) (cdv ct : Value) (us : List Value), us.length = ps.length → bindArgs (PySem.W.fnOf x x (defArgs st) (defBody st) (defScope st) .none kV doc pm an cdv ct) ⟨us, []⟩ = pure (ps.zip us))
    (body : ∀ (f : Addr) (cdv : Value) (A : Around) (outer : List Env) (s : Shared) (H : Hp) (vs : List V) (Q : VK) (E : XK), Room k (A.deeper (envOfC x (defScope st) s.heap.objs.size f cdv)) → sp vs H Q E →
      ∃ t, PSs (cxOf (L2.CX P w) P w K mg base N x (defScope st) f cdv A outer s H E) (defBody st) t ∧ t { nx := fun _ G => Q .non G, rt := Q } (start N vs) H) : PromX P w K mg base (k + 1) x ps sp := by
  obtain ⟨f, fd, F, m⟩ := D
  exact ⟨f, ⟨fd, F.ok S len (body f), F.bindsN hb⟩, m, F.kp⟩
/-- in a def that may raise, what it lets out is taken -/
theorem takesF {E : XK} {qual : Str} {scope : Scope} {f : Addr} {cdv : Value} {A : Around} {outer : List Env} {s : Shared} {H : Hp} :
    Takes (cxOf (L2.CX P w) P w K mg base N qual scope f cdv A outer s H E) (fun cls d _ G => E cls d G) := takes_of rfl rfl rfl rfl
end
/-! calls of defs that may raise: what is let out goes to W -/
section
variable {X : Cx} {k : Nat} {f C : Addr} {ps : List Str} {sp : Sp} {W : WX} {x : Str} {p pos : Pos} {e : Expr} {es : List Expr} {t : TA}
theorem pe_pcX (pr : PromX X.prog X.w X.K X.mg X.base k x ps sp) (tk : Takes X W) (hr : Room k X.A) (hg : Gl X x) (ha : PA X (e :: es) t) (hdb : (x == ("__debug__" : Str)) = false := by decide)
    (he : starEach (e :: es) X.env = (false, eval e X.env) :: starEach es X.env := by rfl) (hpl : (backTo pos (starEach es X.env)).any (·.1) = false := by rfl) :
    PE X (.Call (.Name x p) (e :: es) [] pos) (tCallS sp (WE W) t) := by
  obtain ⟨f, ⟨fd, F, b⟩, m, kp⟩ := pr
  exact pe_callS F hr hg m kp b (fun σ => passAt tk σ) ha hdb he hpl
/-- C(e, ..) of an own class whose __init__ may raise -/
def tMakeS (C : Addr) (sp : Sp) (W : WX) (t : TA) : TE := fun σ H Q => t σ H fun vs H1 => ∀ x dx, H1 x = none → H1 dx = none → dx ≠ x →
  sp (.ref x :: vs) (upd (upd H1 dx (.own x)) x (.ins C dx [])) (fun v H2 => v = .non ∧ Q (.ref x) H2) (WE W σ)
theorem make_runS {fd : FuncData} {pins : List (Addr × Obj)} {σ : L2.St} {H : Hp} {s : Shared} {Q : VK} {us : List Value} {vs : List V} (M : Mk X.K C f) (F : FnOk X.prog X.w X.K X.mg X.base (L2.CX X.prog X.w) k f fd ps sp) (hr : Room (k + 1) X.A) (hb : Binds X.K fd ps [])
    (tk : Takes X W) (J : Inv X pins σ H s) (r : Vals vs us)
    (h : ∀ x dx, H x = none → H dx = none → dx ≠ x → sp (.ref x :: vs) (upd (upd H dx (.own x)) x (.ins C dx [])) (fun v H2 => v = .non ∧ Q (.ref x) H2) (WE W σ)) :
    wpAny (model X.prog X.w) X.A (call (.ref C) us) (EP X pins σ Q) X.xe s := by
  have q := h (s.heap.objs.size + 1) s.heap.objs.size (J.hok.fresh (Nat.le_succ _)) (J.hok.fresh (Nat.le_refl _)) (Nat.ne_of_lt (Nat.lt_succ_self _))
  have J2 := Inv.made (C := C) J
  have r2 : Vals (V.ref (s.heap.objs.size + 1) :: vs) (Value.ref (s.heap.objs.size + 1) :: us) := .cons rfl r
  have hl : (Value.ref (s.heap.objs.size + 1) :: us).length = ps.length := by rw [← r2.length]; exact F.len _ _ _ _ q
  have b := hb _ (Value.ref (s.heap.objs.size + 1) :: us) J2.kIn (by rw [List.append_nil]; exact hl)
  rw [List.append_nil] at b
  refine wpAny_call (make_map (f := f) J.kIn M.makes M.init (beq_iff_eq.mp M.fn) (codeAny_mono (F.run _ X.stack _ _ ⟨Value.ref (s.heap.objs.size + 1) :: us, []⟩ (Value.ref (s.heap.objs.size + 1) :: us) _ _ (WE W σ) (hr.make C us [])
    (J2.env0.make C us []) b r2 q) fun o t z => ?_))
  match o, z with
  | .error e, z => exact passAt tk σ pins _ _ e t J2 z
  | .ok (.ret u), z =>
    obtain ⟨v, G, J3, rv, ev, q3⟩ := J2.after z
    subst ev
    exact ⟨rv, ⟨V.ref (s.heap.objs.size + 1), G, J3, rfl, q3⟩⟩
theorem pe_makeS (M : Mk X.K C f) (pr : PromA (L2.CX X.prog X.w) X.prog X.w X.K X.mg X.base k f ps sp) (tk : Takes X W) (hr : Room (k + 1) X.A) (hg : Gl X x) (hm : X.mg x = some (.ref C)) (ha : PA X (e :: es) t) (hdb : (x == ("__debug__" : Str)) = false := by decide)
    (he : starEach (e :: es) X.env = (false, eval e X.env) :: starEach es X.env := by rfl) (hpl : (backTo pos (starEach es X.env)).any (·.1) = false := by rfl) :
    PE X (.Call (.Name x p) (e :: es) [] pos) (tMakeS C sp W t) := by
  obtain ⟨fd, F, b⟩ := pr
  refine ⟨fun pins s σ H Q J h => wpAny_Call_Name_kw (ld_glob J hg hm ?_ hdb)⟩
  exact PySem.W.callWith_K (h₀ := X.base) J.ok.mod.kin M.kp (thn (ha.run pos pins s σ H _ J h) fun us t ⟨vs, H1, J1, r, q⟩ => ⟨J1.kIn, make_runS M F hr b tk J1 r q⟩) he hpl
end
/-! len of an instance with its own __len__ -/
def rLenOwn (C : Addr) (sp : Sp) : List V → Hp → VK → Prop := fun xs H Q => ∃ a dx fs, xs = [.ref a] ∧ H a = some (.ins C dx fs) ∧ sp [.ref a] H (fun v G => ∃ n : Nat, v = .int n ∧ n < 2 ^ 40 ∧ Q (.int n) G) E0
theorem len_own {X : Cx} {k : Nat} {C f : Addr} {ps : List Str} {sp : Sp} (M : Meth X.K C "__len__" f) (pr : PromA CX0 X.prog X.w X.K X.mg X.base k f ps sp) (hr : Room (k + 1) X.A) : CallR X (.builtin "len") (rLenOwn C sp) := by
  intro pins s σ H xs us Q J r rd
  obtain ⟨a, dx, fs, rfl, ea, q⟩ := rd
  obtain ⟨u, rfl, ra⟩ := vals1 r
  cases ra
  obtain ⟨fd, F, hb⟩ := pr
  obtain ⟨mA, O, rr, _, _, _⟩ := ins_get J.hok ea
  obtain ⟨od, at_, _⟩ := O.look
  have b := hb s [.ref a] J.kIn (F.len _ _ _ _ q)
  refine Calls.call_function_entry PySem.kind_len PySem.plain_len PySem.entry_len (PySem.args_len1 _) ?_
  unfold Builtin.«len»
  refine wpAny_bind (m := oneArg "len" _) (wpAny_pure ?_)
  refine wpAny_bind (m := callSpecial? (.ref a) (Str.ofString "__len__")) (PySem.W.special_fn J.kIn at_ M.at_ (beq_iff_eq.mp M.fn) ?_)
  refine wpAny_call (codeAny_mono (F.run X.A.in1 X.stack s H ⟨[.ref a], []⟩ [.ref a] [.ref a] _ E0 hr.in1 J.env0.in1 b (.cons rfl .nil) q) fun o t z => ?_)
  match o, z with
  | .error e, z => exact pass0 pins σ H s e t J z
  | .ok (.ret u), z =>
    obtain ⟨v, G, J2, rv, n, rfl, hn, q2⟩ := J.after z
    obtain ⟨tk, rfl⟩ := rv
    show wpAny _ _ _ _ _ _
    refine wpAny_bind (wpAny_holding (wpAny_pure ?_))
    refine wpAny_bind (wpAny_letGo ?_)
    show wpAny _ _ (if ((n : Nat) : Int) < 0 then _ else _) _ _ _
    rw [if_neg (by omega)]
    show wpAny _ _ (if ((n : Nat) : Int) ≥ 2 ^ 63 then _ else _) _ _ _
    rw [if_neg (by omega)]
    exact wpAny_bind (wpAny_mkInt (wpAny_pure ⟨_, rfl, .int n, G, J2.kept fun _ _ z => z, ⟨_, rfl⟩, q2⟩))
end TS

set_option maxHeartbeats 2000000
namespace TS
open PySem PySem.Spec PyProof.Rows L2
/-- B is an own class over ValueError without an __init__ of its own -/
structure FamV (K : PySem.W.Frag) (B : Addr) : Prop where
  rd : ClX.CRead K B (.type "type")
  ini : PySem.W.findCls K (.ref B) (.type "type") "__init__" = some (.val (.builtin "ValueError.__init__"))
/-- C is an own class of exceptions over ValueError, with an __init__ of its own, and no other thing called f -/
structure OwnV (K : PySem.W.Frag) (C : Addr) (f : Str) : Prop where
  ox : OexC K C
  xf : XfC K C
  ini : PySem.W.findIn K (.ref C) "__init__" = some (some (.ref (He.ma K C "__init__")))
  fn : PySem.W.typeIn K (.ref (He.ma K C "__init__")) = some (.type "function")
  no : PySem.W.findIn K (.ref C) f = some none
section
variable {X : Cx} {B : Addr} {x : Str} {e : Expr} {es : List Expr} {ta : TA} {p1 p2 pos : Pos}
/-- B.__init__(self, ..) -/
theorem pe_famInit {pl : Sem Bool} (T : FamV X.K B) (hg : Gl X x) (hm : X.mg x = some (.ref B)) (ha : PA X (e :: es) ta) (hdb : (x == ("__debug__" : Str)) = false := by decide)
    (hc : eval (.Call (.Attribute (.Name x p1) "__init__" p2) (e :: es) [] pos) X.env = (do
      let ov ← eval (.Name x p1) X.env
      standAt p2.atName
      let (f, first) ← holding [ov] (getMethod ov "__init__" pl)
      callWith pos f first (backTo pos (starEach (e :: es) X.env)) (backToKw pos (keywordEach [] X.env))) := by rfl)
    (he : starEach (e :: es) X.env = (false, eval e X.env) :: starEach es X.env := by rfl) (hpl : (backTo pos (starEach es X.env)).any (·.1) = false := by rfl) :
    PE X (.Call (.Attribute (.Name x p1) "__init__" p2) (e :: es) [] pos) (tVeI X.K ta) := by
  refine ⟨fun pins s σ H Q J h => ?_⟩
  refine PySem.W.methodCall_KW (ld_glob J hg hm ?_ hdb) hc
  refine PySem.W.method_cls J.kIn T.rd.ga (PySem.W.cls_value J.kIn T.rd.rd T.ini rfl ?_)
  show wpAny _ _ (callWith pos (Value.builtin "ValueError.__init__") [] (backTo pos (starEach (e :: es) X.env)) []) _ _ _
  refine PyProof.Rows.callWith_method1 (thn (ha.run pos pins _ σ H _ (J.tok _) h) fun us t ⟨vs, H1, J1, r1, a, C, ws, ev, hl, O, ea, q⟩ => ?_) he hpl
  subst ev
  cases r1 with
  | @cons _ u0 _ ur ra rw' =>
    obtain rfl : u0 = Value.ref a := ra
    exact oinit_ok O J1 ea (by rw [← Paired.length rw', sizeLine_eq]; omega) fun t' J2 => ⟨.non, H1, J2, rfl, q⟩
end
/-- what the __init__ of such a class keeps -/
def spIni (C : Addr) (f : Str) : Sp := fun vs H Q _ => ∃ a v, vs = [.ref a, v] ∧ H a = some (exo a C none) ∧ ∀ dx, H dx = none → dx ≠ a → Q .non (upd (upd H dx (exd dx [(f, v)])) a (exo a C (some dx)))
/-- a reading, weakened -/
def tMono (te : TE) : TE := fun σ H Q => ∃ R : VK, te σ H R ∧ ∀ v G, R v G → Q v G
theorem pe_mono {X : Cx} {e : Expr} {te : TE} (he : PE X e te) : PE X e (tMono te) := ⟨fun pins s σ H Q J ⟨R, h, m⟩ => thn (he.run pins s σ H R J h) fun _ _ ⟨v, G, J1, r, q⟩ => ⟨v, G, J1, r, m v G q⟩⟩
/-- raise C(e) -/
def tRaise1 (C : Addr) (f : Str) (te : TE) (W : WX) : TS := fun _ σ H => te σ H fun v H1 => ∀ d, H1 d = none → W (.ref C) (some d) σ (upd H1 d (.xd [(f, v)]))
theorem upd_swap {H : Hp} {a d : Addr} {o u v w : HO} (h : d ≠ a) (n : H a = none) : upd (del (upd (upd (upd H a o) d u) a v) a) d w = upd H d w := by
  funext b
  by_cases hb : b = d
  · rw [hb, upd_same, upd_same]
  · rw [upd_ne hb, upd_ne hb]
    by_cases ha : b = a
    · rw [ha, del_same, n]
    · rw [del_ne ha, upd_ne ha, upd_ne hb, upd_ne ha]
section
variable {X : Cx} {C : Addr} {f x : Str} {k : Nat} {ps : List Str} {e : Expr} {te : TE} {W : WX} {p pos pos2 : Pos}
theorem ps_raise1 (T : OwnV X.K C f) (pr : PromA CX0 X.prog X.w X.K X.mg X.base k (He.ma X.K C "__init__") ps (spIni C f)) (hc : X.calm = true) (tk : Takes X W) (hr : Room (k + 1) X.A) (hg : Gl X x) (hm : X.mg x = some (.ref C)) (he : PE X e te)
    (hdb : (x == ("__debug__" : Str)) = false := by decide) (hs : starEach [e] X.env = (false, eval e X.env) :: starEach [] X.env := by rfl) (hpl : (backTo pos (starEach [] X.env)).any (·.1) = false := by rfl) :
    PS X (.Raise (some (.Call (.Name x p) [e] [] pos)) none pos2) (tRaise1 C f te W) := by
  obtain ⟨fd, F, b⟩ := pr
  have mk := pmk_oex (p := p) (pos := pos) (dvs := []) (ds := []) T.ox T.ini T.fn F hr b .nil pass0 hg hm (pa_cons (pe_mono he) pa_nil hs) hdb hs hpl
  refine ⟨fun pins s σ H D J h => (ps_raise hc tk mk).run pins s σ H D J ?_⟩
  refine ⟨_, h, fun v H1 q => ⟨by show 1 ≤ 1000; decide, fun a na => ⟨a, v, rfl, upd_same .., fun dx nd ne => ⟨rfl, dx, [(f, v)], upd_same .., ?_, ?_, ?_⟩⟩⟩⟩
  · rw [upd_ne ne, upd_same]
  · rw [upd_ne ne] at nd; exact nd
  · rw [upd_ne ne] at nd
    rw [upd_swap ne na]
    exact q dx nd
end
end TS

set_option maxHeartbeats 2000000
/-! ### 10. try with several clauses, named ones and others; what lies behind them is never reached -/
namespace TS
open PySem PySem.Spec PyProof.Rows L2
/-- behind a named clause its name is unbound -/
def Ends.drop (D : Ends) (i : Nat) : Ends := { nx := fun τ G => D.nx (τ.set i none) G, rt := D.rt, bk := fun τ G => D.bk (τ.set i none) G, ct := fun τ G => D.ct (τ.set i none) G }
abbrev Clause := Value × Option Nat × (Addr → Value → Option Addr → TS)
def wClauses (K : PySem.W.Frag) (D : Ends) : List Clause → WX
  | [] => fun _ _ _ _ => False
  | (c, some i, ts) :: r => fun cls d σ H => ∃ b, PySem.W.exmOne K cls c = some b ∧ (b = true → ∀ a, H a = none → ts a cls d (Ends.drop D i) (σ.set i (some (.ref a))) H) ∧ (b = false → wClauses K D r cls d σ H)
  | (c, none, ts) :: r => fun cls d σ H => ∃ b, PySem.W.exmOne K cls c = some b ∧ (b = true → ∀ a, H a = none → ts a cls d D σ H) ∧ (b = false → wClauses K D r cls d σ H)
abbrev SuiteOk (X : Cx) (st : List Stmt) (ts : Addr → Value → Option Addr → TS) : Prop :=
  ∀ (a : Addr) (oe : Obj) (cls : Value) (d : Option Addr) (pn : List (Addr × Obj)), Zc cls d oe → (∃ vs, oe.data = .fields vs) → PSs (X.suite a ((a, oe) :: pn)) st (ts a cls d)
inductive ClausesOk (X : Cx) : List ExceptHandler → List Clause → Prop
  | stop {l : List ExceptHandler} : ClausesOk X l []
  | as_ {x n : Str} {i : Nat} {c : Value} {ts : Addr → Value → Option Addr → TS} {b₀ : Stmt} {suite : List Stmt} {np pp : Pos} {l : List ExceptHandler} {r : List Clause} (hi : X.N[i]? = some n) (hln : X.env.kindOf n = some .local) (hc : Names X x c)
      (hsu : SuiteOk X (b₀ :: suite) ts) (t : ClausesOk X l r) : ClausesOk X (.ExceptHandler (some (.Name x np)) (some n) (b₀ :: suite) pp :: l) ((c, some i, ts) :: r)
  | only {x : Str} {c : Value} {ts : Addr → Value → Option Addr → TS} {b₀ : Stmt} {suite : List Stmt} {np pp : Pos} {l : List ExceptHandler} {r : List Clause} (hc : Names X x c)
      (hsu : SuiteOk X (b₀ :: suite) ts) (t : ClausesOk X l r) : ClausesOk X (.ExceptHandler (some (.Name x np)) none (b₀ :: suite) pp :: l) ((c, none, ts) :: r)
section
variable {X : Cx} {body : List Stmt} {h₀ : ExceptHandler} {hs' : List ExceptHandler} {cl : List Clause} {pos : Pos} {tb : WX → TS}
theorem ps_try (stk : X.stack = X.env :: X.outer) (frm : X.env.frame = some X.env.locals) (nod : X.N.Nodup)
    (bod : ∀ (W : WX) (pn : List (Addr × Obj)) (xe : Value → Shared → Prop), Takes (X.tr pn xe) W → PassesOwn (model X.prog X.w) X.A X.env xe → PSs (X.tr pn xe) body (tb W))
    (cls' : ClausesOk X (h₀ :: hs') cl) : PS X (.Try body (h₀ :: hs') [] [] pos) (fun D σ H => tb (wClauses X.K D cl) D σ H) := by
  refine ⟨fun pins s σ H D J rd => ?_⟩
  have xok := J.ok
  have afr : X.A.frames = some (X.env :: X.outer) := by rw [xok.frames, stk]
  refine wpAny_Try_except ?_
  refine wpAny_mono ((bod (wClauses X.K D cl) (X.pn ++ pins) (fun u t1 => wpAny (model X.prog X.w) X.A (noteFrame u X.env) (fun _ t2 => wpAny (model X.prog X.w) X.A (setFlight u none) (fun _ t3 =>
    wpAny (model X.prog X.w) X.A (handleBy u X.env (h₀ :: hs')) (SP X pins D) X.xe t3) X.xe t2) X.xe t1) (fun u t air => ?_) PassesOwn.looking).run [] s σ H D (J.toTry _) rd) (fun fl t1 sp => ?_) (fun u t1 z => z)
  · obtain ⟨a, gr, sA, pins', σ', H', cls, d, rfl, J', ngr, up, sky, na, os, ag, wish⟩ := air
    have J1 : Inv X pins σ' H' sA := J'.ofTry xok
    have sky1 : Sky gr (X.env :: X.outer) a (Zc cls d) X.env.locals t.heap := by rw [← stk]; exact sky
    show wpAny (model X.prog X.w) X.A (noteFrame (.ref a) X.env) _ _ _
    refine Sky.land Zc.steady afr frm sky1 fun h3 fl3 up3 => ?_
    have J3 : Inv X pins σ' H' { t with heap := h3 } := J1.landed ngr fl3.1 (up.trans up3) os ag
    obtain ⟨oe3, vs3, get3, zc3, dat3⟩ := fl3.there
    have off : ∀ {h : Heap} {o : Obj} {vs : Array Value}, h.FunFrames gr (X.env :: X.outer) → h.get? a = some o → o.data = .fields vs → a ∉ frs (X.env :: X.outer) := fun {h o vs} ff g dd m => by
      obtain ⟨_, o', g', nf⟩ := ff.mem m
      rw [g] at g'; cases g'
      exact nf _ dd
    have offA := off fl3.2.2.1 get3 dat3
    have neL : a ≠ X.env.locals := fun z => offA (List.mem_filterMap.mpr ⟨X.env, List.mem_cons_self, by rw [frm, z]⟩)
    have neF : a ∉ X.fs := fun m => by
      obtain ⟨en, me, q⟩ := List.mem_filterMap.mp m
      exact offA (List.mem_filterMap.mpr ⟨en, List.mem_cons_of_mem _ me, q⟩)
    have S3 := J3.suite get3 dat3 na neL neF
    have ld : ∀ {x : Str} {c : Value} {np : Pos}, Names X x c → ∀ {Q : Value → Shared → Prop} {E : Value → Shared → Prop}, Q c { t with heap := h3 } → wpAny (model X.prog X.w) (X.A.mark (some (.ref a))) (eval (.Name x np) X.env) Q E { t with heap := h3 } := fun {x c np} nm {Q E} q => by
      obtain ⟨g, db, m | ⟨m, v, nn⟩⟩ := nm
      · exact ld_glob (X := X.suite a ((a, oe3) :: (X.pn ++ pins))) S3 g m q db
      · exact ld_blt (X := X.suite a ((a, oe3) :: (X.pn ++ pins))) S3 g m v q nn db
    have LT : PySem.W.Looks (model X.prog X.w) h3 (typeOf (.ref a)) cls := fun A Q E s k q => wpAny_typeOf_ref (k _ _ get3) (by rw [zc3.1]; exact q)
    have go : ∀ {l : List ExceptHandler} {r : List Clause}, ClausesOk X l r → wClauses X.K D r cls d σ' H' → wpAny (model X.prog X.w) X.A (handleBy (.ref a) X.env l) (SP X pins D) X.xe { t with heap := h3 } := by
      intro l r ck
      induction ck with
      | stop => intro w; exact False.elim w
      | @as_ x n i c ts b₀ suite np pp l r hi hln hc hsu t2 ih =>
        intro w
        obtain ⟨b, eb, yes, no⟩ := w
        refine wpAny_handleBy_cons (codeAny_handlers_test ?_) (by intro q; cases q)
        refine ld hc ((PySem.W.exm_one (M := model X.prog X.w) J3.kIn LT eb).here ?_)
        cases b with
        | false =>
          show wpAny _ X.A (handleBy (.ref a) X.env l) _ _ _
          exact ih (no rfl)
        | true =>
          refine codeAny_handlers_suite_as ?_
          refine HandSPX.lands_againZ fl3 fun h4 fl4 up4 => ?_
          have J4 : Inv X pins σ' H' { t with heap := h4 } := J1.landed ngr fl4.1 ((up.trans up3).trans up4) os ag
          obtain ⟨oe4, vs4, get4, zc4, dat4⟩ := fl4.there
          have S4 := J4.suite get4 dat4 na neL neF
          refine store_ok (X := X.suite a ((a, oe4) :: (X.pn ++ pins))) (v := .ref a) S4 nod hi (.inl hln) rfl (fun t5 S5 => ?_) (.inr hln)
          refine wpAny_mono ((hsu a oe4 cls d (X.pn ++ pins) zc4 ⟨_, dat4⟩).run [] t5 _ H' _ S5 (yes rfl a na)) (fun fl t6 sp => ?_) (fun _ _ z => False.elim z)
          have un : ∀ {σ6 : L2.St} {H6 : Hp} {Q : Shared → Prop}, Inv (X.suite a ((a, oe4) :: (X.pn ++ pins))) [] σ6 H6 t6 → (∀ t7, Inv X pins (σ6.set i none) H6 t7 → Q t7) →
              wpAny (model X.prog X.w) X.A (do bindName X.env n .none; unbindBehindTheSuite X.env n pp) (fun _ t7 => Q t7) X.xe t6 := fun {σ6 H6 Q} S6 q => gone_ok (S6.unsuite xok) nod hi hln q
          cases fl with
          | next => exact let ⟨_, _, S6, q6⟩ := sp; un S6 fun t7 J7 => ⟨_, _, J7, q6⟩
          | brk => exact let ⟨_, _, S6, q6⟩ := sp; un S6 fun t7 J7 => ⟨_, _, J7, q6⟩
          | cont => exact let ⟨_, _, S6, q6⟩ := sp; un S6 fun t7 J7 => ⟨_, _, J7, q6⟩
          | ret u => exact let ⟨_, _, _, S6, r6, q6⟩ := sp; un S6 fun t7 J7 => ⟨_, _, _, J7, r6, q6⟩
      | @only x c ts b₀ suite np pp l r hc hsu t2 ih =>
        intro w
        obtain ⟨b, eb, yes, no⟩ := w
        refine wpAny_handleBy_cons (codeAny_handlers_test ?_) (by intro q; cases q)
        refine ld hc ((PySem.W.exm_one (M := model X.prog X.w) J3.kIn LT eb).here ?_)
        cases b with
        | false =>
          show wpAny _ X.A (handleBy (.ref a) X.env l) _ _ _
          exact ih (no rfl)
        | true =>
          refine codeAny_handlers_suite ?_
          refine HandSPX.lands_againZ fl3 fun h4 fl4 up4 => ?_
          have J4 : Inv X pins σ' H' { t with heap := h4 } := J1.landed ngr fl4.1 ((up.trans up3).trans up4) os ag
          obtain ⟨oe4, vs4, get4, zc4, dat4⟩ := fl4.there
          have S4 := J4.suite get4 dat4 na neL neF
          refine wpAny_mono ((hsu a oe4 cls d (X.pn ++ pins) zc4 ⟨_, dat4⟩).run [] _ _ H' _ S4 (yes rfl a na)) (fun fl t6 sp => ?_) (fun _ _ z => False.elim z)
          cases fl with
          | next => exact let ⟨_, _, S6, q6⟩ := sp; ⟨_, _, S6.unsuite xok, q6⟩
          | brk => exact let ⟨_, _, S6, q6⟩ := sp; ⟨_, _, S6.unsuite xok, q6⟩
          | cont => exact let ⟨_, _, S6, q6⟩ := sp; ⟨_, _, S6.unsuite xok, q6⟩
          | ret u => exact let ⟨_, _, _, S6, r6, q6⟩ := sp; ⟨_, _, _, S6.unsuite xok, r6, q6⟩
    exact go cls' wish
  · cases fl with
    | next => exact let ⟨σ', H', J', q⟩ := sp; wpAny_execs_nil ⟨σ', H', J'.ofTry xok, q⟩
    | brk => exact let ⟨σ', H', J', q⟩ := sp; ⟨σ', H', J'.ofTry xok, q⟩
    | cont => exact let ⟨σ', H', J', q⟩ := sp; ⟨σ', H', J'.ofTry xok, q⟩
    | ret u => exact let ⟨v, σ', H', J', r, q⟩ := sp; ⟨v, σ', H', J'.ofTry xok, r, q⟩
end
end TS

/-! ### 11. data: kinds, sizes -/
namespace TS
open PySem PySem.Spec PyProof.Rows L2
def tyN : PyData → String
  | .none => "NoneType"
  | .bool _ => "bool"
  | .int _ => "int"
  | .str _ => "str"
  | .list _ => "list"
  | .tuple _ => "tuple"
  | .dict _ => "dict"
theorem Dt.ty {K : PySem.W.Frag} {H : Hp} : ∀ {v : V} {d : PyData}, Dt K H v d → TyX K H v (.type (tyN d))
  | _, _, .non => .base .non
  | _, _, .bl b => .base (.bl b)
  | _, _, .int i => .base (.int i)
  | _, _, .str x => .base (.str x)
  | _, _, .lst h _ => by
    rcases h with (h | ⟨o, h⟩) | ⟨o, its, n, hk, hc, _⟩
    · exact .base (.lst h)
    · exact .base (.frz h)
    · exact .kList hk hc
  | _, _, .tup h _ => by
    rcases h with (h | ⟨o, h⟩) | ⟨o, its, n, hk, hc, _⟩
    · exact .base (.tup h)
    · exact .fTuple h
    · exact .kTuple hk hc
  | _, _, .dct h _ _ => .base (.dK h)
/-- isinstance of data -/
def isD (c : String) (d : PyData) : Bool := kitB (tyN d) c == some true
def kinds : List String := ["NoneType", "bool", "int", "str", "list", "tuple", "dict"]
theorem tyN_mem (d : PyData) : tyN d ∈ kinds := by cases d <;> simp [tyN, kinds]
section
variable {K : PySem.W.Frag} {d : PyData}
theorem isi_str : PySem.W.kitOne K (.type (tyN d)) (.type "str") = some (isD "str" d) := kit_ty ((by decide +kernel : ∀ n ∈ kinds, kitB n "str" = some (kitB n "str" == some true)) _ (tyN_mem d))
theorem isi_int : PySem.W.kitOne K (.type (tyN d)) (.type "int") = some (isD "int" d) := kit_ty ((by decide +kernel : ∀ n ∈ kinds, kitB n "int" = some (kitB n "int" == some true)) _ (tyN_mem d))
theorem isi_bool : PySem.W.kitOne K (.type (tyN d)) (.type "bool") = some (isD "bool" d) := kit_ty ((by decide +kernel : ∀ n ∈ kinds, kitB n "bool" = some (kitB n "bool" == some true)) _ (tyN_mem d))
theorem isi_list : PySem.W.kitOne K (.type (tyN d)) (.type "list") = some (isD "list" d) := kit_ty ((by decide +kernel : ∀ n ∈ kinds, kitB n "list" = some (kitB n "list" == some true)) _ (tyN_mem d))
theorem isi_tuple : PySem.W.kitOne K (.type (tyN d)) (.type "tuple") = some (isD "tuple" d) := kit_ty ((by decide +kernel : ∀ n ∈ kinds, kitB n "tuple" = some (kitB n "tuple" == some true)) _ (tyN_mem d))
theorem isi_dict : PySem.W.kitOne K (.type (tyN d)) (.type "dict") = some (isD "dict" d) := kit_ty ((by decide +kernel : ∀ n ∈ kinds, kitB n "dict" = some (kitB n "dict" == some true)) _ (tyN_mem d))
theorem isi_lt : PySem.W.kitAny K (.type (tyN d)) [.type "list", .type "tuple"] = some (isD "list" d || isD "tuple" d) :=
  kitAny_cons isi_list (fun h1 => kitAny_cons isi_tuple (fun h => by rw [h1, h]; rfl) (fun h => by rw [h, Bool.or_true])) (fun h => by rw [h, Bool.true_or])
theorem isD_str (h : isD "str" d = true) : ∃ z, d = .str z := by
  have e := (by decide +kernel : ∀ n ∈ kinds, (kitB n "str" == some true) = true → n = "str") _ (tyN_mem d) h
  cases d <;> first | exact ⟨_, rfl⟩ | exact absurd e (by simp [tyN])
theorem isD_int (h : isD "int" d = true) : (∃ i, d = .int i) ∨ ∃ b, d = .bool b := by
  have e := (by decide +kernel : ∀ n ∈ kinds, (kitB n "int" == some true) = true → n = "int" ∨ n = "bool") _ (tyN_mem d) h
  cases d <;> first | exact .inl ⟨_, rfl⟩ | exact .inr ⟨_, rfl⟩ | exact absurd e (by simp [tyN])
theorem isD_bool (h : isD "bool" d = true) : ∃ b, d = .bool b := by
  have e := (by decide +kernel : ∀ n ∈ kinds, (kitB n "bool" == some true) = true → n = "bool") _ (tyN_mem d) h
  cases d <;> first | exact ⟨_, rfl⟩ | exact absurd e (by simp [tyN])
theorem isD_list (h : isD "list" d = true) : ∃ l, d = .list l := by
  have e := (by decide +kernel : ∀ n ∈ kinds, (kitB n "list" == some true) = true → n = "list") _ (tyN_mem d) h
  cases d <;> first | exact ⟨_, rfl⟩ | exact absurd e (by simp [tyN])
theorem isD_tuple (h : isD "tuple" d = true) : ∃ l, d = .tuple l := by
  have e := (by decide +kernel : ∀ n ∈ kinds, (kitB n "tuple" == some true) = true → n = "tuple") _ (tyN_mem d) h
  cases d <;> first | exact ⟨_, rfl⟩ | exact absurd e (by simp [tyN])
theorem isD_dict (h : isD "dict" d = true) : ∃ l, d = .dict l := by
  have e := (by decide +kernel : ∀ n ∈ kinds, (kitB n "dict" == some true) = true → n = "dict") _ (tyN_mem d) h
  cases d <;> first | exact ⟨_, rfl⟩ | exact absurd e (by simp [tyN])
theorem isD_strs (z : Str) : isD "str" (.str z) = true := by show (kitB "str" "str" == some true) = true; decide +kernel
theorem isD_lists (l : List PyData) : isD "list" (.list l) = true := by show (kitB "list" "list" == some true) = true; decide +kernel
theorem isD_tuples (l : List PyData) : isD "tuple" (.tuple l) = true := by show (kitB "tuple" "tuple" == some true) = true; decide +kernel
theorem isD_ints (i : Int) : isD "int" (.int i) = true := by show (kitB "int" "int" == some true) = true; decide +kernel
theorem isD_intb (i : Int) : isD "bool" (.int i) = false := by show (kitB "int" "bool" == some true) = false; decide +kernel
theorem isD_bools (i : Bool) : isD "bool" (.bool i) = true := by show (kitB "bool" "bool" == some true) = true; decide +kernel
theorem isD_boolt (i : Bool) : isD "int" (.bool i) = true := by show (kitB "bool" "int" == some true) = true; decide +kernel
end
/-! values of data by their kind -/
section
variable {K : PySem.W.Frag} {H : Hp} {v : V}
theorem Dt.str_inv {z : Str} (h : Dt K H v (.str z)) : v = .str z := by cases h; rfl
theorem Dt.int_inv {i : Int} (h : Dt K H v (.int i)) : v = .int i := by cases h; rfl
theorem Dt.bool_inv {i : Bool} (h : Dt K H v (.bool i)) : v = .bl i := by cases h; rfl
theorem Dt.list_inv {l : List PyData} (h : Dt K H v (.list l)) : ∃ a xs, v = .ref a ∧ SqL K H a xs ∧ DtAll K H xs l := by cases h with | lst a b => exact ⟨_, _, rfl, a, b⟩
theorem Dt.tup_inv {l : List PyData} (h : Dt K H v (.tuple l)) : ∃ a xs, v = .ref a ∧ SqT K H a xs ∧ DtAll K H xs l := by cases h with | tup a b => exact ⟨_, _, rfl, a, b⟩
theorem DtAll.get : ∀ {xs : List V} {ds : List PyData} {i : Nat} {x : V}, DtAll K H xs ds → xs[i]? = some x → ∃ d, ds[i]? = some d ∧ Dt K H x d
  | _, _, 0, _, .cons h _, e => by cases e; exact ⟨_, rfl, h⟩
  | _ :: _, _ :: _, i + 1, _, .cons _ t, e => DtAll.get (i := i) t (by simpa using e)
  | _, _, _, _, .nil, e => by simp at e
theorem DtAll.getD : ∀ {xs : List V} {ds : List PyData} {i : Nat} {d : PyData}, DtAll K H xs ds → ds[i]? = some d → ∃ x, xs[i]? = some x ∧ Dt K H x d
  | _, _, 0, _, .cons h _, e => by cases e; exact ⟨_, rfl, h⟩
  | _ :: _, _ :: _, i + 1, _, .cons _ t, e => DtAll.getD (i := i) t (by simpa using e)
  | _, _, _, _, .nil, e => by simp at e
theorem DtAll.append : ∀ {xs ys : List V} {ds es : List PyData}, DtAll K H xs ds → DtAll K H ys es → DtAll K H (xs ++ ys) (ds ++ es)
  | _, _, _, _, .nil, b => b
  | _, _, _, _, .cons h t, b => .cons h (DtAll.append t b)
theorem DtAll.set : ∀ {xs : List V} {ds : List PyData} {i : Nat} {x : V} {d : PyData}, DtAll K H xs ds → Dt K H x d → DtAll K H (xs.set i x) (ds.set i d)
  | _, _, _, _, _, .nil, _ => .nil
  | _, _, 0, _, _, .cons _ t, h => .cons h t
  | _, _, i + 1, _, _, .cons a t, h => .cons a (DtAll.set t h)
theorem DtAll.of : ∀ {xs : List V} {ds : List PyData}, xs.length = ds.length → (∀ (i : Nat) (x : V) (d : PyData), xs[i]? = some x → ds[i]? = some d → Dt K H x d) → DtAll K H xs ds
  | [], [], _, _ => .nil
  | x :: xs, d :: ds, h, q => .cons (q 0 x d rfl rfl) (DtAll.of (by simpa using h) fun i y e a b => q (i + 1) y e a b)
end
/-! ### sizes: what may be shown -/
structure Shows (d : PyData) : Prop where
  ok : d.showable = true
  deep : d.depth ≤ 40
  size : d.shown.length ≤ sizeLine
def smB (k n : Nat) (d : PyData) : Bool := d.showable && decide (d.depth ≤ k) && d.leavesShort 40 && decide (d.weight ≤ n)
def Sm (k n : Nat) (d : PyData) : Prop := smB k n d = true
theorem Sm.of {k n : Nat} {d : PyData} (a : d.showable = true) (b : d.depth ≤ k) (c : d.leavesShort 40 = true) (e : d.weight ≤ n) : Sm k n d := by
  unfold Sm smB
  rw [a, decide_eq_true b, c, decide_eq_true e]; rfl
theorem Sm.to {k n : Nat} {d : PyData} (h : Sm k n d) : d.showable = true ∧ d.depth ≤ k ∧ d.leavesShort 40 = true ∧ d.weight ≤ n := by
  unfold Sm smB at h
  simp only [Bool.and_eq_true, decide_eq_true_eq] at h
  exact ⟨h.1.1.1, h.1.1.2, h.1.2, h.2⟩
theorem Sm.mono {k n k' n' : Nat} {d : PyData} (h : Sm k n d) (hk : k ≤ k') (hn : n ≤ n') : Sm k' n' d := let ⟨a, b, c, e⟩ := h.to; .of a (by omega) c (by omega)
theorem Sm.shows {k n : Nat} {d : PyData} (h : Sm k n d) (hk : k ≤ 40 := by decide) (hn : n ≤ 300000 := by decide) : Shows d := by
  obtain ⟨a, b, c, e⟩ := h.to
  refine ⟨a, by omega, Nat.le_trans (PyData.shown_le 40 (by decide) d c) ?_⟩
  rw [sizeLine_eq]
  omega
theorem Sm.str {z : Str} {k n : Nat} (hc : ∀ c ∈ z.cps.toList, c < 16 ^ 8) (h : z.length ≤ n) : Sm k n (.str z) := by
  refine .of rfl (Nat.zero_le _) ?_ h
  unfold PyData.leavesShort
  rw [List.all_eq_true]
  exact fun c m => decide_eq_true (hc c m)
section
variable {k n : Nat}
theorem all_show : ∀ {ds : List PyData}, (∀ d ∈ ds, d.showable = true) → PyData.showableAll ds = true
  | [], _ => rfl
  | d :: r, h => by unfold PyData.showableAll; rw [h d (by simp), all_show fun x m => h x (List.mem_cons_of_mem _ m)]; rfl
theorem all_deep : ∀ {ds : List PyData}, (∀ d ∈ ds, d.depth ≤ k) → PyData.depthAll ds ≤ k
  | [], _ => Nat.zero_le _
  | d :: r, h => by
    unfold PyData.depthAll
    have a := h d (by simp)
    have b := all_deep fun x m => h x (List.mem_cons_of_mem d m)
    omega
theorem all_short : ∀ {ds : List PyData}, (∀ d ∈ ds, d.leavesShort 40 = true) → PyData.leavesShortAll 40 ds = true
  | [], _ => rfl
  | d :: r, h => by unfold PyData.leavesShortAll; rw [h d (by simp), all_short fun x m => h x (List.mem_cons_of_mem _ m)]; rfl
theorem all_weight : ∀ {ds : List PyData}, (∀ d ∈ ds, d.weight ≤ n) → PyData.weightAll ds ≤ ds.length * (n + 1)
  | [], _ => Nat.zero_le _
  | d :: r, h => by
    unfold PyData.weightAll
    have a := h d (by simp)
    have b := all_weight fun x m => h x (List.mem_cons_of_mem d m)
    rw [List.length_cons, Nat.succ_mul]
    omega
theorem Sm.list {ds : List PyData} {m : Nat} (h : ∀ d ∈ ds, Sm k n d) (hl : ds.length ≤ m) : Sm (k + 1) (m * (n + 1)) (.list ds) := by
  refine .of (by unfold PyData.showable; exact all_show fun d m => (h d m).to.1) (by unfold PyData.depth; have := all_deep fun d m => (h d m).to.2.1; omega) (by unfold PyData.leavesShort; exact all_short fun d m => (h d m).to.2.2.1) ?_
  unfold PyData.weight
  exact Nat.le_trans (all_weight fun d m => (h d m).to.2.2.2) (Nat.mul_le_mul_right _ hl)
theorem Sm.tuple {ds : List PyData} {m : Nat} (h : ∀ d ∈ ds, Sm k n d) (hl : ds.length ≤ m) : Sm (k + 1) (m * (n + 1)) (.tuple ds) := by
  refine .of (by unfold PyData.showable; exact all_show fun d m => (h d m).to.1) (by unfold PyData.depth; have := all_deep fun d m => (h d m).to.2.1; omega) (by unfold PyData.leavesShort; exact all_short fun d m => (h d m).to.2.2.1) ?_
  unfold PyData.weight
  exact Nat.le_trans (all_weight fun d m => (h d m).to.2.2.2) (Nat.mul_le_mul_right _ hl)
end
/-! small numbers -/
theorem Sm.int {i : Int} {k : Nat} (h0 : -100 ≤ i) (h1 : i ≤ 150) : Sm k 10 (.int i) := by
  have all : ∀ j ∈ (List.range 251).map (fun n : Nat => (n : Int) - 100), smB 0 10 (.int j) = true := by decide +kernel
  have m : i ∈ (List.range 251).map (fun n : Nat => (n : Int) - 100) := List.mem_map.mpr ⟨(i + 100).toNat, List.mem_range.mpr (by omega), by omega⟩
  exact Sm.mono (k := 0) (all i m) (Nat.zero_le _) (Nat.le_refl _)
theorem Sm.bool {b : Bool} {k n : Nat} : Sm k n (.bool b) := .of rfl (Nat.zero_le _) rfl (Nat.zero_le _)
theorem Sm.none {k n : Nat} : Sm k n .none := .of rfl (Nat.zero_le _) rfl (Nat.zero_le _)
end TS

/-! ### 12. walks over lists or tuples; comprehensions whose turns only add to the heap -/
namespace TS
open PySem PySem.Spec PyProof.Rows L2
theorem yes {σ : L2.St} {H : Hp} {C : Bool → Hp → Prop} (h : C true H) : tYes σ H C := h
/-- a list or a tuple -/
def Sq (K : PySem.W.Frag) (H : Hp) (a : Addr) (xs : List V) : Prop := SqL K H a xs ∨ SqT K H a xs
theorem Sq.same {K : PySem.W.Frag} {H H' : Hp} {a : Addr} {xs : List V} (e : Same H H') (h : Sq K H a xs) : Sq K H' a xs := h.imp (fun q => e.seq q) (fun q => SqT.same e q)
theorem Sq.len {K : PySem.W.Frag} {H : Hp} {a : Addr} {xs : List V} (h : Sq K H a xs) : LenV K (.ref a) H xs.length := h.imp (fun q => ⟨xs, q, rfl⟩) (fun q => ⟨xs, q, rfl⟩)
theorem seq_it {K : PySem.W.Frag} {H : Hp} {a : Addr} {xs : List V} {i : Nat} {σ : L2.St} {R : It → Hp → Prop} (hv : σ[i]? = some (some (.ref a))) (h : Sq K H a xs)
    (k : ∀ (J : It) (G : Hp → Prop), Walk J xs.length G (YAt xs) → (∀ H', Same H H' → G H') → R J H) : iList K (tVar i) σ H R ∨ iTup K (tVar i) σ H R := by
  rcases h with h | h
  · exact .inl ⟨_, hv, a, rfl, ⟨xs, h⟩, k _ _ walk_list fun _ e => e.seq h⟩
  · exact .inr ⟨_, hv, a, rfl, ⟨xs, h⟩, k _ _ walk_tup fun _ e => SqT.same e h⟩
theorem seq_it0 {K : PySem.W.Frag} {H0 H : Hp} {a : Addr} {xs : List V} {i : Nat} {σ : L2.St} {R : It → Hp → Prop} (hv : σ[i]? = some (some (.ref a))) (h : Sq K H0 a xs) (s : Same H0 H)
    (k : ∀ (J : It) (G : Hp → Prop), Walk J xs.length G (YAt xs) → (∀ H', Same H0 H' → G H') → R J H) : iList K (tVar i) σ H R ∨ iTup K (tVar i) σ H R := by
  rcases h with h | h
  · exact .inl ⟨_, hv, a, rfl, ⟨xs, s.seq h⟩, k _ _ walk_list fun _ e => e.seq h⟩
  · exact .inr ⟨_, hv, a, rfl, ⟨xs, SqT.same s h⟩, k _ _ walk_tup fun _ e => SqT.same e h⟩
section
variable {J : It} {n : Nat} {G : Hp → Prop} {Y : Nat → Hp → V → Hp → Prop}
theorem scK_it {P : Program} {w : World} (wk : Walk J n G Y) {g : TG} {tt : TT} {te : TE} {vs : List Nat} {σ : L2.St} {H1 : Hp} {D : Addr} {Qd : Hp → Prop} (Pv : Nat → Hp → Prop) (h0 : Pv 0 (upd H1 D (SetK P w D (fun _ => false) 0))) (hG : ∀ i H, i ≤ n → Pv i H → G H)
    (hs : ∀ i x H H', i < n → Pv i H → Y i H x H' → g x (wipe σ vs) H' fun σ2 H2 => wipe σ2 vs = wipe σ vs ∧ tt σ2 H2 fun b H3 =>
      if b = true then te σ2 H3 fun y H4 => ∃ (k : Key) (S : Key → Bool) (m : Nat), y = kV k ∧ H4 D = some (SetK P w D S m) ∧ m + 1 < scanBound ∧ Pv (i + 1) (upd H4 D (SetK P w D (fun j => S j || decide (j = k)) (if S k = true then m else m + 1))) else Pv (i + 1) H3) (hd : ∀ H, Pv n H → Qd H) :
    ∃ W : Nat → Nat → Hp → Prop, (∃ m, W 0 m (upd H1 D (SetK P w D (fun _ => false) 0))) ∧ ∀ i m H, W i m H →
      (J.stop i H ∧ Qd H) ∨ (J.go i H ∧ ∃ Nx : Hp → Prop, (∀ H', Nx H' → ∃ m', m' < m ∧ W (i + 1) m' H') ∧ ∀ x H', J.yld i H x H' → g x (wipe σ vs) H' fun σ2 H2 => wipe σ2 vs = wipe σ vs ∧ tt σ2 H2 fun b H3 =>
        if b = true then te σ2 H3 fun y H4 => ∃ (k : Key) (S : Key → Bool) (m : Nat), y = kV k ∧ H4 D = some (SetK P w D S m) ∧ m + 1 < scanBound ∧ Nx (upd H4 D (SetK P w D (fun j => S j || decide (j = k)) (if S k = true then m else m + 1))) else Nx H3) := by
  refine ⟨fun i m H => m = n - i ∧ i ≤ n ∧ Pv i H, ⟨n, by simp, Nat.zero_le _, h0⟩, ?_⟩
  rintro i m H ⟨rfl, hi, p⟩
  have q := hG i H hi p
  rcases Nat.lt_or_ge i n with hlt | hge
  · exact .inr ⟨wk.goes i H hlt q, Pv (i + 1), fun G' p' => ⟨n - (i + 1), by omega, rfl, hlt, p'⟩, fun x G' y => hs i x H G' hlt p (wk.yields i H x G' hlt q y)⟩
  · obtain rfl : i = n := by omega
    exact .inl ⟨wk.stops H q, hd H p⟩
theorem dc_it (wk : Walk J n G Y) {g : TG} {tt : TT} {tk tv : TE} {vs : List Nat} {σ : L2.St} {H1 : Hp} {D : Addr} {Qd : Hp → Prop} (Pv : Nat → Hp → Prop) (h0 : Pv 0 (upd H1 D (.dK []))) (hG : ∀ i H, i ≤ n → Pv i H → G H)
    (hs : ∀ i x H H', i < n → Pv i H → Y i H x H' → g x (wipe σ vs) H' fun σ2 H2 => wipe σ2 vs = wipe σ vs ∧ tt σ2 H2 fun b H3 =>
      if b = true then tk σ2 H3 fun y H4 => tv σ2 H4 fun z H5 => ∃ kvs k, y = kV k ∧ H5 D = some (.dK kvs) ∧ kvs.length < sizeLine ∧ Pv (i + 1) (upd H5 D (.dK (putK kvs k z))) else Pv (i + 1) H3) (hd : ∀ H, Pv n H → Qd H) :
    ∃ W : Nat → Nat → Hp → Prop, (∃ m, W 0 m (upd H1 D (.dK []))) ∧ ∀ i m H, W i m H →
      (J.stop i H ∧ Qd H) ∨ (J.go i H ∧ ∃ Nx : Hp → Prop, (∀ H', Nx H' → ∃ m', m' < m ∧ W (i + 1) m' H') ∧ ∀ x H', J.yld i H x H' → g x (wipe σ vs) H' fun σ2 H2 => wipe σ2 vs = wipe σ vs ∧ tt σ2 H2 fun b H3 =>
        if b = true then tk σ2 H3 fun y H4 => tv σ2 H4 fun z H5 => ∃ kvs k, y = kV k ∧ H5 D = some (.dK kvs) ∧ kvs.length < sizeLine ∧ Nx (upd H5 D (.dK (putK kvs k z))) else Nx H3) := by
  refine ⟨fun i m H => m = n - i ∧ i ≤ n ∧ Pv i H, ⟨n, by simp, Nat.zero_le _, h0⟩, ?_⟩
  rintro i m H ⟨rfl, hi, p⟩
  have q := hG i H hi p
  rcases Nat.lt_or_ge i n with hlt | hge
  · exact .inr ⟨wk.goes i H hlt q, Pv (i + 1), fun G' p' => ⟨n - (i + 1), by omega, rfl, hlt, p'⟩, fun x G' y => hs i x H G' hlt p (wk.yields i H x G' hlt q y)⟩
  · obtain rfl : i = n := by omega
    exact .inl ⟨wk.stops H q, hd H p⟩
end
/-- a list comprehension without tests, each turn adding to the heap alone: the i-th value is f i -/
theorem lc_same {J : It} {G : Hp → Prop} {xs : List V} (wk : Walk J xs.length G (YAt xs)) {H H1 : Hp} {te : TE} {vs : List Nat} {j : Nat} {σ : L2.St} {D : Addr} {Qd : Hp → Prop} (hG : ∀ H', Same H H' → G H') (hl : xs.length ≤ 100000) (s1 : Same H H1) (hD : H1 D = none) (f : Nat → V)
    (hw : ∀ x, wipe ((wipe σ vs).set j (some x)) vs = wipe σ vs)
    (step : ∀ i x H2 (C : VK), xs[i]? = some x → Same H H2 → (∀ H4, Same H2 H4 → C (f i) H4) → te ((wipe σ vs).set j (some x)) H2 C)
    (fin : ∀ H2, Same H1 H2 → H2 D = some (.lst ((List.range xs.length).map f)) → Qd H2) :
    ∃ W : Nat → Nat → Hp → Prop, (∃ m, W 0 m (upd H1 D (.lst []))) ∧ ∀ i m H, W i m H →
      (J.stop i H ∧ Qd H) ∨ (J.go i H ∧ ∃ Nx : Hp → Prop, (∀ H', Nx H' → ∃ m', m' < m ∧ W (i + 1) m' H') ∧ ∀ x H', J.yld i H x H' → gName j x (wipe σ vs) H' fun σ2 H2 => wipe σ2 vs = wipe σ vs ∧ tYes σ2 H2 fun b H3 =>
        if b = true then te σ2 H3 fun y H4 => ∃ acc, H4 D = some (.lst acc) ∧ acc.length < sizeLine ∧ Nx (upd H4 D (.lst (acc ++ [y]))) else Nx H3) := by
  refine lc_it wk (fun i G' => Same H1 G' ∧ G' D = some (.lst ((List.range i).map f))) ⟨Same.new (Same.refl _) hD, upd_same ..⟩ (fun i G' _ p => hG G' (s1.trans p.1)) ?_ (fun G' p => fin G' p.1 p.2)
  rintro i x H2 H3 hi ⟨p1, p2⟩ ⟨rfl, hx⟩
  refine ⟨hw x, ?_⟩
  unfold tYes
  dsimp only
  rw [if_pos rfl]
  refine step i x _ _ hx (s1.trans p1) fun H4 s4 => ⟨_, s4 _ _ p2, ?_, ?_, ?_⟩
  · rw [List.length_map, List.length_range]
    exact Nat.lt_of_lt_of_le hi (Nat.le_trans hl (by decide))
  · intro a o e
    rw [upd_ne (ne_of_none e hD)]
    exact s4 _ _ (p1 _ _ e)
  · rw [upd_same, List.range_succ, List.map_append]
    rfl
theorem pg_tupK {X : Cx} {K : PySem.W.Frag} {es : List Expr} {k : Nat} {t : TGs} {n : Nat} {pos : Pos} (hK : X.K = K) (hc : X.calm = true) (h : PGs X es t)
    (hn : (assignEach es X.env).length = n := by rfl) (hst : (assignEach es X.env).findIdx? (·.1) = none := by rfl) : PG X (.Tuple es k pos) (gTup K n t) := by subst hK; exact pg_tup hc h hn hst
/-- enumerate over a list or a tuple -/
theorem enum_it {K : PySem.W.Frag} {H : Hp} {a : Addr} {xs : List V} {i : Nat} {σ : L2.St} {R : It → Hp → Prop} (hv : σ[i]? = some (some (.ref a))) (h : Sq K H a xs)
    (k : ∀ (J : It) (G : Hp → Prop), Walk J xs.length G (YPair (fun i => some (.int (i : Nat))) (fun i => xs[i]?)) → (∀ H', Same H H' → G H') → R J H) : iEnum K (tCons (tVar i) tNil) σ H R ∨ iEnumT K (tCons (tVar i) tNil) σ H R := by
  rcases h with h | h
  · exact .inl ⟨_, hv, a, xs, rfl, h, k _ _ walk_enum fun _ e => e.seq h⟩
  · exact .inr ⟨_, hv, a, xs, rfl, h, k _ _ walk_enumT fun _ e => SqT.same e h⟩
end TS

/-! ### 13. draws: what a def of a bag gives back; comprehensions and loops that draw -/
namespace TS
open PySem PySem.Spec PyProof.Rows L2
theorem atI_in {α : Type} {xs : List α} {i : Int} (h0 : 0 ≤ i) (h1 : i < xs.length) : ∃ v, atI xs i = some v ∧ v ∈ xs := by
  have hj : i.toNat < xs.length := by omega
  refine ⟨xs[i.toNat], ?_, List.getElem_mem _⟩
  have e : ((i.toNat : Nat) : Int) = i := by omega
  have h := atI_nat (xs := xs) (List.getElem?_eq_getElem hj)
  rw [e] at h
  exact h
/-- the bag b drawn of (n draws left at least), all else as it was -/
structure Dr (b : Addr) (n : Nat) (H H' : Hp) : Prop where
  fx : Fx b H H'
  bag : ∃ o, H' b = some o ∧ Bag n o
theorem Dr.trans {b : Addr} {m n : Nat} {H H1 H2 : Hp} (x : Dr b m H H1) (y : Dr b n H1 H2) : Dr b n H H2 := ⟨x.fx.trans y.fx, y.bag⟩
theorem Dr.refl {b : Addr} {n : Nat} {H : Hp} (h : ∃ o, H b = some o ∧ Bag n o) : Dr b n H H := ⟨Fx.refl b H, h⟩
theorem Dr.mono {b : Addr} {m n : Nat} {H H' : Hp} (x : Dr b m H H') (h : n ≤ m) : Dr b n H H' := ⟨x.fx, let ⟨o, e, g⟩ := x.bag; ⟨o, e, g.mono h⟩⟩
theorem Dr.same {b : Addr} {n : Nat} {H H' : Hp} (e : Same H H') (h : ∃ o, H b = some o ∧ Bag n o) : Dr b n H H' := ⟨Fx.of e, let ⟨o, q, g⟩ := h; ⟨o, e _ _ q, g⟩⟩
theorem Dr.draw {b : Addr} {n : Nat} {H : Hp} {o : HO} (g : Bag n o) : Dr b n H (upd H b o) := ⟨(Fx.refl b H).upd, o, upd_same .., g⟩
theorem Dr.new {b p : Addr} {n : Nat} {H H' : Hp} {o : HO} (x : Dr b n H H') (h : H' p = none) : Dr b n H (upd H' p o) := x.trans (.same (Same.new (Same.refl _) h) x.bag)
theorem Dr.ne {b p : Addr} {n : Nat} {H H' : Hp} (x : Dr b n H H') (h : H' p = none) : p ≠ b := fun e => by
  obtain ⟨o, q, _⟩ := x.bag
  rw [e, q] at h
  cases h
theorem Dr.at {b a : Addr} {n : Nat} {H H' : Hp} {o : HO} (x : Dr b n H H') (h : a ≠ b) (e : H a = some o) : H' a = some o := x.fx a o h e
theorem Dr.hide {b : Addr} {n : Nat} {H H' : Hp} (x : Dr b n H H') : Same (hide H b) (hide H' b) := x.fx.hide
theorem Dr.free {b p : Addr} {n : Nat} {H H' : Hp} (x : Dr b n H H') (h : H' p = none) : H p = none := by
  cases e : H p with
  | none => rfl
  | some o =>
    have := x.fx p o (x.ne h) e
    rw [h] at this
    cases this
/-- a draw, by spTake -/
theorem take_of {b : Addr} {n : Nat} {H : Hp} {many : Int} {Q : VK} {E : XK} (h : ∃ o, H b = some o ∧ Bag (n + 1) o) (m0 : 0 < many) (m1 : many < 2 ^ 200) (q : ∀ (d : Int) (H' : Hp), 0 ≤ d → d < many → Dr b n H H' → Q (.int d) H') : spTake [.ref b, .int many] H Q E := by
  obtain ⟨o, e, g⟩ := h
  exact ⟨b, o, n, many, rfl, e, g, m0, m1, fun d o' h0 h1 g' => q d _ h0 h1 (.draw g')⟩
/-- the heap without the bag and the list that is being made -/
abbrev hide2 (H : Hp) (b D : Addr) : Hp := hide (hide H b) D
theorem hide2_at {H : Hp} {b D p : Addr} {o : HO} (h1 : p ≠ b) (h2 : p ≠ D) (e : H p = some o) : hide2 H b D p = some o := by show hide (hide H b) D p = some o; rw [hide_ne h2, hide_ne h1]; exact e
theorem hide2_fx {H H' : Hp} {b D : Addr} (h : ∀ a o, a ≠ b → a ≠ D → H a = some o → H' a = some o) : Same (hide2 H b D) (hide2 H' b D) := fun a o e => by
  show hide (hide H' b) D a = some o
  replace e : hide (hide H b) D a = some o := e
  have h2 : a ≠ D := fun z => by rw [z, hide_self] at e; cases e
  rw [hide_ne h2] at e ⊢
  have h1 : a ≠ b := fun z => by rw [z, hide_self] at e; cases e
  rw [hide_ne h1] at e ⊢
  exact h a o h1 h2 e
/-- a comprehension without tests, each turn drawing at most k times -/
theorem lc_draw {J : It} {m : Nat} {G : Hp → Prop} {f : Nat → V} (wk : Walk J m G (YFn f)) {b : Addr} {k N : Nat} {H1 : Hp} {te : TE} {vs : List Nat} {j : Nat} {σ : L2.St} {D : Addr} {Qd : Hp → Prop} (F : Nat → Hp → V → Prop)
    (hF : ∀ i H H' v, Same H H' → F i H v → F i H' v) (hG : ∀ H', Fx b H1 H' → G H') (hm : m ≤ 100000) (hD : H1 D = none) (hb : ∃ o, H1 b = some o ∧ Bag (N + k * m) o) (hw : ∀ x, wipe ((wipe σ vs).set j (some x)) vs = wipe σ vs)
    (step : ∀ (i n : Nat) (H2 : Hp) (C : VK), i < m → Fx b H1 H2 → (∃ o, H2 b = some o ∧ Bag (n + k) o) → (∃ o, H2 D = some o) → (∀ v H4, F i (hide2 H4 b D) v → Dr b n H2 H4 → C v H4) → te ((wipe σ vs).set j (some (f i))) H2 C)
    (fin : ∀ H2 (xs : List V), Dr b N H1 H2 → xs.length = m → (∀ (i : Nat) (v : V), xs[i]? = some v → F i (hide2 H2 b D) v) → H2 D = some (.lst xs) → D ≠ b → Qd H2) :
    ∃ W : Nat → Nat → Hp → Prop, (∃ m, W 0 m (upd H1 D (.lst []))) ∧ ∀ i m H, W i m H →
      (J.stop i H ∧ Qd H) ∨ (J.go i H ∧ ∃ Nx : Hp → Prop, (∀ H', Nx H' → ∃ m', m' < m ∧ W (i + 1) m' H') ∧ ∀ x H', J.yld i H x H' → gName j x (wipe σ vs) H' fun σ2 H2 => wipe σ2 vs = wipe σ vs ∧ tYes σ2 H2 fun b H3 =>
        if b = true then te σ2 H3 fun y H4 => ∃ acc, H4 D = some (.lst acc) ∧ acc.length < sizeLine ∧ Nx (upd H4 D (.lst (acc ++ [y]))) else Nx H3) := by
  have neD : D ≠ b := fun e => by
    obtain ⟨o, q, _⟩ := hb
    rw [e, q] at hD
    cases hD
  refine lc_it wk (fun i G' => Dr b (N + k * (m - i)) H1 G' ∧ ∃ xs : List V, xs.length = i ∧ (∀ (i : Nat) (v : V), xs[i]? = some v → F i (hide2 G' b D) v) ∧ G' D = some (.lst xs)) ⟨.same (Same.new (Same.refl _) hD) hb, [], rfl, fun i v e => by simp at e, upd_same ..⟩ (fun i G' _ p => hG G' p.1.fx) ?_ ?_
  · rintro i x H2 H3 hi ⟨dr, xs, hl, hx, eD⟩ ⟨rfl, rfl⟩
    refine ⟨hw _, yes (iteT ?_)⟩
    have ek : N + k * (m - (i + 1)) + k = N + k * (m - i) := by
      have : m - i = m - (i + 1) + 1 := by omega
      rw [this, Nat.mul_add, Nat.mul_one, Nat.add_assoc]
    refine step i (N + k * (m - (i + 1))) _ _ hi dr.fx (by rw [ek]; exact dr.bag) ⟨_, eD⟩ fun v H4 hv d4 => ⟨xs, d4.at neD eD, by rw [hl]; exact Nat.lt_of_lt_of_le hi (Nat.le_trans hm (by decide)), ⟨fun a o ha e => ?_, ?_⟩, xs ++ [v], by simp [hl], fun i2 v2 e2 => ?_, upd_same ..⟩
    · rw [upd_ne (ne_of_none e hD)]
      exact (dr.trans d4).fx a o ha e
    · obtain ⟨o, q, g⟩ := d4.bag
      exact ⟨o, by rw [upd_ne neD.symm]; exact q, g⟩
    · have s5 : Same (hide2 H4 b D) (hide2 (upd H4 D (.lst (xs ++ [v]))) b D) := hide2_fx fun a o _ h e => by rw [upd_ne h]; exact e
      rcases Nat.lt_or_ge i2 i with z | z
      · rw [List.getElem?_append_left (by omega)] at e2
        exact hF _ _ _ _ ((hide2_fx fun a o h _ e => d4.fx a o h e).trans s5) (hx i2 v2 e2)
      · rw [List.getElem?_append_right (by omega)] at e2
        have e3 : i2 = i := by
          rcases Nat.lt_or_ge i i2 with y | y
          · rw [List.getElem?_eq_none (by simp; omega)] at e2
            cases e2
          · omega
        rw [e3, hl, Nat.sub_self] at e2
        cases e2
        rw [e3]
        exact hF _ _ _ _ s5 hv
  · rintro G' ⟨dr, xs, hl, hx, eD⟩
    exact fin G' xs (by rw [Nat.sub_self] at dr; exact dr) hl hx eD neD
/-- a comprehension without tests that only adds to the heap, by any walk -/
theorem lc_sameF {J : It} {n : Nat} {G : Hp → Prop} {g : Nat → V} (wk : Walk J n G (YFn g)) {H : Hp} {te : TE} {vs : List Nat} {j : Nat} {σ : L2.St} {D : Addr} {Qd : Hp → Prop} (hG : ∀ H', Same H H' → G H') (hl : n ≤ 100000) (hD : H D = none) (f : Nat → V)
    (hw : ∀ x, wipe ((wipe σ vs).set j (some x)) vs = wipe σ vs)
    (step : ∀ i H2 (C : VK), i < n → Same H H2 → (∀ H4, Same H2 H4 → C (f i) H4) → te ((wipe σ vs).set j (some (g i))) H2 C)
    (fin : ∀ H2, Same H H2 → H2 D = some (.lst ((List.range n).map f)) → Qd H2) :
    ∃ W : Nat → Nat → Hp → Prop, (∃ m, W 0 m (upd H D (.lst []))) ∧ ∀ i m H, W i m H →
      (J.stop i H ∧ Qd H) ∨ (J.go i H ∧ ∃ Nx : Hp → Prop, (∀ H', Nx H' → ∃ m', m' < m ∧ W (i + 1) m' H') ∧ ∀ x H', J.yld i H x H' → gName j x (wipe σ vs) H' fun σ2 H2 => wipe σ2 vs = wipe σ vs ∧ tYes σ2 H2 fun b H3 =>
        if b = true then te σ2 H3 fun y H4 => ∃ acc, H4 D = some (.lst acc) ∧ acc.length < sizeLine ∧ Nx (upd H4 D (.lst (acc ++ [y]))) else Nx H3) := by
  refine lc_it wk (fun i G' => Same H G' ∧ G' D = some (.lst ((List.range i).map f))) ⟨Same.new (Same.refl _) hD, upd_same ..⟩ (fun i G' _ p => hG G' p.1) ?_ (fun G' p => fin G' p.1 p.2)
  rintro i x H2 H3 hi ⟨p1, p2⟩ ⟨rfl, rfl⟩
  refine ⟨hw _, yes (iteT (step i _ _ hi p1 fun H4 s4 => ⟨_, s4 _ _ p2, ?_, ?_, ?_⟩))⟩
  · rw [List.length_map, List.length_range]
    exact Nat.lt_of_lt_of_le hi (Nat.le_trans hl (by decide))
  · intro a o e
    rw [upd_ne (ne_of_none e hD)]
    exact s4 _ _ (p1 _ _ e)
  · rw [upd_same, List.range_succ, List.map_append]
    rfl
theorem walk_at {J : It} {n : Nat} {G : Hp → Prop} {xs : List V} (w : Walk J n G (YAt xs)) : Walk J n G (YFn fun i => xs.getD i .non) :=
  w.mono (fun _ h => h) fun i H x H' _ _ y => ⟨y.1, by show x = xs.getD i .non; rw [List.getD_eq_getElem?_getD, y.2]; rfl⟩
theorem same_of {H G : Hp} {p : Addr} {o : HO} (h : L2.upd H p o = G) (hp : H p = none) : Same H G := h ▸ Same.new (Same.refl _) hp
theorem at_of {H G : Hp} {p : Addr} {o : HO} (h : L2.upd H p o = G) : G p = some o := h ▸ upd_same ..
theorem dr_of {H G : Hp} {b : Addr} {n : Nat} {o : HO} (h : L2.upd H b o = G) (g : Bag n o) : Dr b n H G := h ▸ Dr.draw g
/-- list == [] -/
def rEqNil (K : PySem.W.Frag) : R2 := fun x y H Q => ∃ a p xs, x = .ref a ∧ y = .ref p ∧ SqL K H a xs ∧ SqL K H p [] ∧ Q (.bl xs.isEmpty) H
theorem op_eqNil {X : Cx} {K : PySem.W.Frag} (hu : X.A.units + 64 < cLine) (hK : X.K = K := by rfl) : OpR X (compareOp .Eq) (rEqNil K) := by
  subst hK
  intro pins s σ H x y v u Q J rx ry h
  obtain ⟨a, p, xs, rfl, rfl, ha, hp, q⟩ := h
  cases rx
  cases ry
  obtain ⟨its, rv, l1, _⟩ := J.list ha
  obtain ⟨its2, rv2, l2, _⟩ := J.list hp
  cases rv2
  have hl := rv.length
  cases xs with
  | nil =>
    cases rv
    exact SeqAt.eq_listAt (e := fun _ => true) l1.isList l2.isList rfl (by omega) (fun i h => by simp at h) ⟨.bl true, H, J.kept fun _ _ z => z, rfl, q⟩
  | cons x r =>
    exact SeqAt.eq_list_lengthsAt l1.isList l2.isList (by simp; intro z; rw [z] at hl; simp at hl) (by omega) ⟨.bl false, H, J.kept fun _ _ z => z, rfl, q⟩
end TS

/-! ### what the head tells of classes -/
namespace TS
open PySem PySem.Spec PyProof.Rows L2
/-- a method's datum -/
def methD (C m q : Str) (st : Stmt) : He.DefD := ⟨(C, some m), m, q, defArgs st, defBody st, defScope st, [], []⟩
theorem meth_of {K : PySem.W.Frag} {fn : List He.DefD} (c1 : fn.all (fun d => d.ok K) = true) (c2 : fn.map (fun d => He.fnW K d.at_) = fn.map He.DefD.val)
    {C m q : Str} {st : Stmt} (i : Nat) (hi : fn[i]? = some (methD C m q st)) : DefM K (He.ma K (He.ga K C) m) m q st := by
  have e1 : He.fnW K (methD C m q st).at_ = (methD C m q st).val := by
    have h1 := congrArg (·[i]?) c2
    simp only [List.getElem?_map, hi, Option.map_some] at h1
    exact Option.some.inj h1
  obtain ⟨fd, F⟩ := He.DefD.funD e1 (List.all_eq_true.mp c1 _ (List.mem_of_getElem? hi))
  exact ⟨fd, F⟩
def famB (K : PySem.W.Frag) (x : Str) : Bool := (PySem.W.readsIn K (He.ga K x) (.type "type") && He.eqO (PySem.W.specialIn K (.ref (He.ga K x)) "__getattribute__") (some (some (.builtin "type.__getattribute__")))) &&
  (match PySem.W.findCls K (.ref (He.ga K x)) (.type "type") "__init__" with
    | some (.val (.builtin s)) => decide (s = "ValueError.__init__")
    | _ => false)
theorem famB_ok {K : PySem.W.Frag} {x : Str} (h : famB K x = true) : FamV K (He.ga K x) := by
  obtain ⟨h1, h2⟩ := He.ba h
  obtain ⟨h3, h4⟩ := He.ba h1
  refine ⟨⟨h3, He.eqO_ok h4⟩, ?_⟩
  split at h2
  · rename_i s e
    rw [e, of_decide_eq_true h2]
  · cases h2
def oexB (K : PySem.W.Frag) (C : Addr) : Bool := match K.lookup C with
  | some ⟨c, dd, .cls cd, sl⟩ => (match cd.mro, sl.toList with
    | .ref C' :: bm, [k0, k1, k2, k3, some (.builtin n), k5] => decide (c = .type "type") && (decide (C' = C) && (decide (n = "ValueError.__new__") && (cd.hasDict && (!cd.hasDel && PySem.HandSPX.refsVE bm))))
    | _, _ => false)
  | _ => false
theorem oexB_ok {K : PySem.W.Frag} {C : Addr} (h : oexB K C = true) : ∃ nm q N bs bm sn sub ab col dd k0 k1 k2 k3 k5, K.lookup C = some (excClassObj nm q C N bs bm true sn sub ab col dd k0 k1 k2 k3 k5 "ValueError.__new__") ∧ PySem.HandSPX.refsVE bm = true := by
  unfold oexB at h
  split at h
  · rename_i c dd cd sl ho
    split at h
    · rename_i C' bm k0 k1 k2 k3 n k5 hm hs
      obtain ⟨a1, h⟩ := He.ba h
      obtain ⟨a2, h⟩ := He.ba h
      obtain ⟨a3, h⟩ := He.ba h
      obtain ⟨a4, h⟩ := He.ba h
      obtain ⟨a5, a6⟩ := He.ba h
      have a1 := of_decide_eq_true a1
      have a2 := of_decide_eq_true a2
      have a3 := of_decide_eq_true a3
      obtain ⟨nm, bs, mro, ns, qn, hd, sn, sb, ab, col, del⟩ := cd
      dsimp only at hm a4 a5
      have a5 : del = false := by simpa using a5
      subst a1 a2 a3 hm a4 a5
      have hsl : sl = #[k0, k1, k2, k3, some (.builtin "ValueError.__new__"), k5] := by
        obtain ⟨l⟩ := sl
        simp only at hs
        rw [hs]
      subst hsl
      exact ⟨nm, qn, ns, bs, bm, sn, sb, ab, col, dd, k0, k1, k2, k3, k5, ho, a6⟩
    · cases h
  · cases h
def ownB (K : PySem.W.Frag) (x f : Str) : Bool := (oexB K (He.ga K x) && (He.eqO (PySem.W.findIn K (.ref (He.ga K x)) "__setattr__") (some (some (.builtin "object.__setattr__"))) && (decide (PySem.W.subIn K (.ref (He.ga K x)) (.type "BaseException") = some true) &&
  (decide (PySem.W.typeIn K (.ref (He.ga K x)) = some (.type "type")) && PySem.W.keepIn K (.ref (He.ga K x)))))) && ((xfB K (He.ga K x) && He.eqO (PySem.W.findIn K (.ref (He.ga K x)) "__init__") (some (some (.ref (He.ma K (He.ga K x) "__init__"))))) &&
  (decide (PySem.W.typeIn K (.ref (He.ma K (He.ga K x) "__init__")) = some (.type "function")) && He.eqO (PySem.W.findIn K (.ref (He.ga K x)) f) (some none)))
theorem ownB_ok {K : PySem.W.Frag} {x f : Str} (h : ownB K x f = true) : OwnV K (He.ga K x) f := by
  obtain ⟨h1, h⟩ := He.ba h
  obtain ⟨a1, h1⟩ := He.ba h1
  obtain ⟨a2, h1⟩ := He.ba h1
  obtain ⟨a3, h1⟩ := He.ba h1
  obtain ⟨a4, a5⟩ := He.ba h1
  obtain ⟨h2, h⟩ := He.ba h
  obtain ⟨b1, b2⟩ := He.ba h2
  obtain ⟨b3, b4⟩ := He.ba h
  exact ⟨⟨oexB_ok a1, He.eqO_ok a2, of_decide_eq_true a3, of_decide_eq_true a4, a5⟩, xfB_ok b1, He.eqO_ok b2, of_decide_eq_true b3, He.eqO_ok b4⟩
end TS

/-! ### 14. keyword-only parameters with defaults, no other defaults -/
namespace TS
open PySem PySem.Spec PyProof.Rows L2
def DefK (K : PySem.W.Frag) (mg : Str → Option Value) (x : Str) (st : Stmt) (kws : List (Str × V)) : Prop := ∃ f fd, FunD K x x (defArgs st) (defBody st) (defScope st) [] kws f fd ∧ mg x = some (.ref f)
/-- a call with n positional values and the keywords ks keeps sp, the lacking ones being ms -/
def PromK (P : Program) (w : World) (K : PySem.W.Frag) (mg : Str → Option Value) (base : Heap) (k : Nat) (x : Str) (ps : List Str) (sp : Sp) (n : Nat) (ks : List Str) (gV : List V → List V → List V) : Prop :=
  ∃ f fd g, FnOk P w K mg base CX0 k f fd ps sp ∧ mg x = some (.ref f) ∧ PySem.W.keepIn K (.ref f) = true ∧ KBn K fd ps n ks g gV
theorem kbinds0 {K : PySem.W.Frag} {x qual : Str} {params : Arguments} {body : List Stmt} {scope : Scope} {kws : List (Str × V)} {f : Addr} {fd : FuncData} {ps : List Str} (F : FunD K x qual params body scope [] kws f fd) (n : Nat) (ks : List Str) (ms : List (Str × V))
    (g : {α : Type} → List α → List α → List α → List α) (hk : kws ≠ []) (hms : ∀ q ∈ ms, q ∈ kws) (hrel : ∀ {vs mz zs : List V} {us mv ws : List Value}, Vals vs us → Vals mz mv → Vals zs ws → Vals (g vs mz zs) (g us mv ws))
    (h : ∀ (D : Addr) (doc pm : Value) (an : Option Addr) (cdv ct : Value) (us mv ws : List Value), us.length = n → mv.length = ms.length → ws.length = ks.length →
      KwChain D ((ms.map (·.1)).zip mv) (bindArgs (PySem.W.fnOf x qual params body scope .none (.ref D) doc pm an cdv ct) ⟨us, ks.zip ws⟩) (ps.zip (g us mv ws))) :
    ∃ mv : List Value, KBn K fd ps n ks (fun us ws => g us mv ws) (fun vs zs => g vs (ms.map (·.2)) zs) := by
  obtain ⟨oc, od, dV, kV, doc, pm, an, cdv, ct, osl, rfl, lk, hcd, dd, kk⟩ := F.ex
  rcases dd with ⟨_, rfl⟩ | ⟨e, _⟩
  · rcases kk with e | ⟨D, rfl, hq⟩
    · exact absurd e hk
    · obtain ⟨mv, l, r, a⟩ := kwd_vals (ms := ms) fun q m => hq q (hms q m)
      exact ⟨mv, ⟨fun s us ws X l1 l2 => BindsTo.of_looks fun M => KwChain.looks X a (h D doc pm an cdv ct us mv ws l1 l l2), fun r1 r2 => hrel r1 r r2⟩⟩
  · exact absurd rfl e
section
variable {X : Cx} {k n : Nat} {ps ks : List Str} {sp : Sp} {x : Str} {p pos : Pos} {e : Expr} {es : List Expr} {kws : List Keyword} {t tk : TA} {gV : List V → List V → List V}
theorem pe_pcK (pr : PromK X.prog X.w X.K X.mg X.base k x ps sp n ks gV) (hr : Room k X.A) (hg : Gl X x) (ha : PA X (e :: es) t) (hkw : PK X kws tk) (hall : (backToKw pos (keywordEach kws X.env)).all (·.1.isSome) = true := by rfl)
    (hks : (backToKw pos (keywordEach kws X.env)).filterMap (·.1) = ks := by rfl) (hdb : (x == ("__debug__" : Str)) = false := by decide) (he : starEach (e :: es) X.env = (false, eval e X.env) :: starEach es X.env := by rfl)
    (hpl : ((backTo pos (starEach (e :: es) X.env)).any (·.1) || (backToKw pos (keywordEach kws X.env)).any (·.1.isNone)) = false := by rfl) :
    PE X (.Call (.Name x p) (e :: es) kws pos) (tCallN n ks.length sp gV E0 t tk) := by
  obtain ⟨f, fd, g, F, m, kp, b⟩ := pr
  exact pe_callN F hr hg m kp b pass0 ha hkw hall hks hdb he hpl
end
section
variable {P : Program} {w : World} {K : PySem.W.Frag} {mg : Str → Option Value} {base : Heap} {N ps ks : List Str} {k n : Nat} {sp : Sp} {x : Str} {st : Stmt} {kws ms : List (Str × V)}
theorem promK_mk (D : DefK K mg x st kws) (S : FnScope N ps (defScope st)) (len : ∀ vs H Q E, sp vs H Q E → vs.length = ps.length) (ms : List (Str × V)) (g : {α : Type} → List α → List α → List α → List α) (hk : kws ≠ []) (hms : ∀ q ∈ ms, q ∈ kws)
    (hrel : ∀ {vs mz zs : List V} {us mv ws : List Value}, Vals vs us → Vals mz mv → Vals zs ws → Vals (g vs mz zs) (g us mv ws))
    (h : ∀ (D : Addr) (doc pm : Value) (an : Option Addr) (cdv ct : Value) (us mv ws : List Value), us.length = n → mv.length = ms.length → ws.length = ks.length →
      KwChain D ((ms.map (·.1)).zip mv) (bindArgs (PySem.W.fnOf x x (defArgs st) (defBody st) (defScope st) .none (.ref D) doc pm an cdv ct) ⟨us, ks.zip ws⟩) (ps.zip (g us mv ws)))
    (body : ∀ (f : Addr) (cdv : Value) (A : Around) (outer : List Env) (s : Shared) (H : Hp) (vs : List V) (Q : VK) (E : XK), Room k (A.deeper (envOfC x (defScope st) s.heap.objs.size f cdv)) → sp vs H Q E →
      ∃ t, PSs (cxOf CX0 P w K mg base N x (defScope st) f cdv A outer s H E).nox (defBody st) t ∧ t { nx := fun _ H' => Q .non H', rt := Q } (start N vs) H) : PromK P w K mg base (k + 1) x ps sp n ks (fun vs zs => g vs (ms.map (·.2)) zs) := by
  obtain ⟨f, fd, F, m⟩ := D
  obtain ⟨mv, b⟩ := kbinds0 F n ks ms g hk hms hrel h
  refine ⟨f, fd, _, F.ok S len fun cdv A outer s H vs Q E hr h => ?_, m, F.kp, b⟩
  obtain ⟨t, h1, h2⟩ := body f cdv A outer s H vs Q E hr h
  exact ⟨t, h1.nox, h2⟩
end
/-- its datum -/
def defKD (x : Str) (st : Stmt) (kwd : List (Str × He.Dv)) : He.DefD := ⟨(x, none), x, x, defArgs st, defBody st, defScope st, [], kwd⟩
theorem defK_of {K : PySem.W.Frag} {h : Heap} {mg : Str → Option Value} {fn : List He.DefD} (X : K.In h) (G : h.Ns mainGlobals mg) (c1 : fn.all (fun d => d.ok K) = true) (c2 : fn.map (fun d => He.fnW K d.at_) = fn.map He.DefD.val)
    {x : Str} {st : Stmt} {kwd : List (Str × He.Dv)} (i : Nat) (hi : fn[i]? = some (defKD x st kwd)) (hg : (He.Fa.glo x).ok K = true) : DefK K mg x st (kwd.map fun q => (q.1, q.2.v K)) := by
  have e1 : He.fnW K (defKD x st kwd).at_ = (defKD x st kwd).val := by
    have h1 := congrArg (·[i]?) c2
    simp only [List.getElem?_map, hi, Option.map_some] at h1
    exact Option.some.inj h1
  obtain ⟨fd, F⟩ := He.DefD.funD e1 (List.all_eq_true.mp c1 _ (List.mem_of_getElem? hi))
  exact ⟨He.ga K x, fd, F, He.glo_ok X G hg⟩
end TS

/-! ### 15. C(e, .., k = v, ..) of an own class whose __init__ may raise -/
namespace TS
open PySem PySem.Spec PyProof.Rows L2
/-- a method with keyword-only parameters, called with n positional values (self among them) and the keywords ks -/
def PromAK (P : Program) (w : World) (K : PySem.W.Frag) (mg : Str → Option Value) (base : Heap) (k : Nat) (f : Addr) (ps : List Str) (sp : Sp) (n : Nat) (ks : List Str) (gV : List V → List V → List V) : Prop :=
  ∃ fd g, FnOk P w K mg base (L2.CX P w) k f fd ps sp ∧ KBn K fd ps n ks g gV
def tMakeSK (C : Addr) (n m : Nat) (sp : Sp) (gV : List V → List V → List V) (W : WX) (t tk : TA) : TE := fun σ H Q => t σ H fun vs H1 => tk σ H1 fun zs H2 => vs.length = n ∧ zs.length = m ∧ ∀ x dx, H2 x = none → H2 dx = none → dx ≠ x →
  sp (gV (.ref x :: vs) zs) (upd (upd H2 dx (.own x)) x (.ins C dx [])) (fun v H3 => v = .non ∧ Q (.ref x) H3) (WE W σ)
section
variable {X : Cx} {k n : Nat} {f C : Addr} {ps ks : List Str} {sp : Sp} {W : WX} {x : Str} {p pos : Pos} {e : Expr} {es : List Expr} {kws : List Keyword} {t tk : TA} {gV : List V → List V → List V}
theorem make_runSK {fd : FuncData} {g : List Value → List Value → List Value} {pins : List (Addr × Obj)} {σ : L2.St} {H : Hp} {s : Shared} {Q : VK} {us ws : List Value} {vs zs : List V} (M : Mk X.K C f) (F : FnOk X.prog X.w X.K X.mg X.base (L2.CX X.prog X.w) k f fd ps sp)
    (hr : Room (k + 1) X.A) (hb : KBn X.K fd ps (n + 1) ks g gV) (tkn : Takes X W) (J : Inv X pins σ H s) (r : Vals vs us) (rz : Vals zs ws) (l1 : vs.length = n) (l2 : zs.length = ks.length)
    (h : ∀ x dx, H x = none → H dx = none → dx ≠ x → sp (gV (.ref x :: vs) zs) (upd (upd H dx (.own x)) x (.ins C dx [])) (fun v H2 => v = .non ∧ Q (.ref x) H2) (WE W σ)) :
    wpAny (model X.prog X.w) X.A (call (.ref C) us (ks.zip ws)) (EP X pins σ Q) X.xe s := by
  have q := h (s.heap.objs.size + 1) s.heap.objs.size (J.hok.fresh (Nat.le_succ _)) (J.hok.fresh (Nat.le_refl _)) (Nat.ne_of_lt (Nat.lt_succ_self _))
  have J2 := Inv.made (C := C) J
  have r1 : Vals (V.ref (s.heap.objs.size + 1) :: vs) (Value.ref (s.heap.objs.size + 1) :: us) := .cons rfl r
  have n1 : (Value.ref (s.heap.objs.size + 1) :: us).length = n + 1 := by rw [List.length_cons, ← r.length, l1]
  refine wpAny_call (make_map (f := f) J.kIn M.makes M.init (beq_iff_eq.mp M.fn) (codeAny_mono (F.run _ X.stack _ _ ⟨Value.ref (s.heap.objs.size + 1) :: us, ks.zip ws⟩ (g (Value.ref (s.heap.objs.size + 1) :: us) ws) _ _ (WE W σ) (hr.make C us (ks.zip ws))
    (J2.env0.make C us (ks.zip ws)) (hb.to _ (Value.ref (s.heap.objs.size + 1) :: us) ws J2.kIn n1 (rz.length.symm.trans l2)) (hb.rel r1 rz) q) fun o t z => ?_))
  match o, z with
  | .error e, z => exact passAt tkn σ pins _ _ e t J2 z
  | .ok (.ret u), z =>
    obtain ⟨v, G, J3, rv, ev, q3⟩ := J2.after z
    subst ev
    exact ⟨rv, ⟨V.ref (s.heap.objs.size + 1), G, J3, rfl, q3⟩⟩
theorem pe_makeSK (M : Mk X.K C f) (pr : PromAK X.prog X.w X.K X.mg X.base k f ps sp (n + 1) ks gV) (tkn : Takes X W) (hr : Room (k + 1) X.A) (hg : Gl X x) (hm : X.mg x = some (.ref C)) (ha : PA X (e :: es) t) (hkw : PK X kws tk)
    (hall : (backToKw pos (keywordEach kws X.env)).all (·.1.isSome) = true := by rfl) (hks : (backToKw pos (keywordEach kws X.env)).filterMap (·.1) = ks := by rfl) (hdb : (x == ("__debug__" : Str)) = false := by decide)
    (he : starEach (e :: es) X.env = (false, eval e X.env) :: starEach es X.env := by rfl) (hpl : ((backTo pos (starEach (e :: es) X.env)).any (·.1) || (backToKw pos (keywordEach kws X.env)).any (·.1.isNone)) = false := by rfl) :
    PE X (.Call (.Name x p) (e :: es) kws pos) (tMakeSK C n ks.length sp gV W t tk) := by
  obtain ⟨fd, g, F, b⟩ := pr
  refine ⟨fun pins s σ H Q J h => wpAny_Call_Name_kw (ld_glob J hg hm ?_ hdb)⟩
  refine PySem.W.callWith_KW (h₀ := X.base) J.ok.mod.kin M.kp hall (thn (ha.run pos pins s σ H _ J h) fun us s1 ⟨vs, H1, J1, r, q⟩ => ?_) hpl he
  refine thn (hkw.run pos pins s1 σ H1 _ J1 q) fun ws s2 ⟨zs, H2, J2, rz, l1, l2, q2⟩ => ⟨J2.kIn, ?_⟩
  rw [hks]
  exact make_runSK M F hr b tkn J2 r rz l1 l2 q2
end
theorem units1 {k : Nat} {A : Around} (r : Room k A) : A.units + 1 < cLine := by
  have := r.units
  omega
/-! methods by their promises -/
section
variable {X : Cx} {k : Nat} {f C : Addr} {ps : List Str} {sp : Sp} {m : Str} {pos apos : Pos} {e o : Expr} {es : List Expr} {ta : TE} {t : TA}
theorem pe_pm {pl : Sem Bool} (c : Cls X.K C) (hm : Meth X.K C m f) (pr : PromA CX0 X.prog X.w X.K X.mg X.base k f ps sp) (hr : Room k X.A) (he : PE X o ta) (ha : PA X (e :: es) t)
    (hst : starEach (e :: es) X.env = (false, eval e X.env) :: starEach es X.env := by rfl) (hpl : (backTo pos (starEach es X.env)).any (·.1) = false := by rfl)
    (ht : eval (.Call (.Attribute o m apos) (e :: es) [] pos) X.env = (do
      let ov ← eval o X.env
      standAt apos.atName
      let (f, first) ← holding [ov] (getMethod ov m pl)
      callWith pos f first (backTo pos (starEach (e :: es) X.env)) (backToKw pos (keywordEach [] X.env))) := by rfl) : PE X (.Call (.Attribute o m apos) (e :: es) [] pos) (tMeth C m sp [] E0 ta t) := by
  obtain ⟨fd, F, b⟩ := pr
  exact pe_meth he c hm F hr b .nil pass0 ha hst hpl ht
theorem pe_pm0 {pl : Sem Bool} (c : Cls X.K C) (hm : Meth X.K C m f) (pr : PromA CX0 X.prog X.w X.K X.mg X.base k f ps sp) (hr : Room k X.A) (he : PE X o ta)
    (ht : eval (.Call (.Attribute o m apos) [] [] pos) X.env = (do
      let ov ← eval o X.env
      standAt apos.atName
      let (f, first) ← holding [ov] (getMethod ov m pl)
      callWith pos f first (backTo pos (starEach [] X.env)) (backToKw pos (keywordEach [] X.env))) := by rfl) : PE X (.Call (.Attribute o m apos) [] [] pos) (tMeth C m sp [] E0 ta tNil) := by
  obtain ⟨fd, F, b⟩ := pr
  exact pe_meth0 he c hm F hr b .nil pass0 ht
end
end TS

/-! ### 16. isinstance by an own class -/
namespace TS
open PySem PySem.Spec PyProof.Rows L2
structure IsC (K : PySem.W.Frag) (C : Addr) : Prop where
  cl : Cls K C
  ha : PySem.W.findIn K (.ref C) "__class__" = some (some (.builtin "object.__class__"))
  hn : PySem.W.specialIn K (.builtin "object.__class__") "__get__" = some (some (.builtin "getset_descriptor.__get__"))
  ht : PySem.W.takesIn K (.builtin "object.__class__") = some true
  hm : PySem.W.mroIn K C (.type "object") = some true
  yes : PySem.W.kitOne K (.ref C) (.ref C) = some true
  no : ∀ n ∈ kinds, PySem.W.kitOne K (.type n) (.ref C) = some false
def isCB (K : PySem.W.Frag) (C : Addr) : Bool := (He.eqO (PySem.W.findIn K (.ref C) "__class__") (some (some (.builtin "object.__class__"))) && (He.eqO (PySem.W.specialIn K (.builtin "object.__class__") "__get__") (some (some (.builtin "getset_descriptor.__get__"))) &&
  (decide (PySem.W.takesIn K (.builtin "object.__class__") = some true) && decide (PySem.W.mroIn K C (.type "object") = some true)))) && (decide (PySem.W.kitOne K (.ref C) (.ref C) = some true) && kinds.all fun n => decide (PySem.W.kitOne K (.type n) (.ref C) = some false))
theorem isCB_ok {K : PySem.W.Frag} {C : Addr} (c : Cls K C) (h : isCB K C = true) : IsC K C := by
  obtain ⟨h1, h2⟩ := He.ba h
  obtain ⟨a1, h1⟩ := He.ba h1
  obtain ⟨a2, h1⟩ := He.ba h1
  obtain ⟨a3, a4⟩ := He.ba h1
  obtain ⟨b1, b2⟩ := He.ba h2
  exact ⟨c, He.eqO_ok a1, He.eqO_ok a2, of_decide_eq_true a3, of_decide_eq_true a4, of_decide_eq_true b1, fun n m => of_decide_eq_true (List.all_eq_true.mp b2 n m)⟩
theorem IsC.ty {K : PySem.W.Frag} {C : Addr} (T : IsC K C) {H : Hp} {a dx : Addr} {fs : List (Str × V)} (e : H a = some (.ins C dx fs)) : TyX K H (.ref a) (.ref C) := .base (.ins e T.cl T.ha T.hn T.ht T.hm)
theorem IsC.data {K : PySem.W.Frag} {C : Addr} (T : IsC K C) (d : PyData) : PySem.W.kitOne K (.type (tyN d)) (.ref C) = some false := T.no _ (tyN_mem d)
end TS

/-! ### 17. terms as trees: signs in reading order, where parts end -/
namespace TS
open PySem
mutual
inductive Tm where
  | mk (s : Str) (ts : Fs)
inductive Fs where
  | nil
  | cons (t : Tm) (r : Fs)
end
def Fs.len : Fs → Nat
  | .nil => 0
  | .cons _ r => r.len + 1
mutual
def Tm.size : Tm → Nat
  | .mk _ ts => ts.size + 1
def Fs.size : Fs → Nat
  | .nil => 0
  | .cons t r => t.size + r.size
end
mutual
def Tm.flat : Tm → List Str
  | .mk s ts => s :: ts.flat
def Fs.flat : Fs → List Str
  | .nil => []
  | .cons t r => t.flat ++ r.flat
end
/-! each sign with its places -/
mutual
def Tm.wf (pl : Str → Option Nat) : Tm → Prop
  | .mk s ts => pl s = some ts.len ∧ ts.wf pl
def Fs.wf (pl : Str → Option Nat) : Fs → Prop
  | .nil => True
  | .cons t r => t.wf pl ∧ r.wf pl
end
/-! where each part ends, from the place o on -/
mutual
def Tm.ends (o : Nat) : Tm → List Nat
  | .mk s ts => (o + ts.size + 1) :: ts.ends (o + 1)
def Fs.ends (o : Nat) : Fs → List Nat
  | .nil => []
  | .cons t r => t.ends o ++ r.ends (o + t.size)
end
mutual
theorem Tm.flat_len : ∀ t : Tm, t.flat.length = t.size
  | .mk s ts => by
    unfold Tm.flat Tm.size
    rw [List.length_cons, Fs.flat_len ts]
theorem Fs.flat_len : ∀ r : Fs, r.flat.length = r.size
  | .nil => rfl
  | .cons t r => by
    unfold Fs.flat Fs.size
    rw [List.length_append, Tm.flat_len t, Fs.flat_len r]
end
mutual
theorem Tm.ends_len : ∀ (t : Tm) (o : Nat), (t.ends o).length = t.size
  | .mk s ts, o => by
    unfold Tm.ends Tm.size
    rw [List.length_cons, Fs.ends_len ts]
theorem Fs.ends_len : ∀ (r : Fs) (o : Nat), (r.ends o).length = r.size
  | .nil, _ => rfl
  | .cons t r, o => by
    unfold Fs.ends Fs.size
    rw [List.length_append, Tm.ends_len t, Fs.ends_len r]
end
theorem Tm.size_pos (t : Tm) : 0 < t.size := by
  cases t with
  | mk s ts => unfold Tm.size; omega
/-! how a list of signs is read: k parts lack -/
/-- what is lacking behind the signs; none: a sign that is none, or a sign behind the end -/
def lacks (pl : Str → Option Nat) : Nat → List Str → Option Nat
  | k, [] => some k
  | 0, _ :: _ => none
  | k + 1, z :: r => (pl z).bind fun p => lacks pl (k + p) r
def Fs.app : Fs → Fs → Fs
  | .nil, b => b
  | .cons t r, b => .cons t (r.app b)
theorem Fs.split : ∀ (r : Fs) (p k : Nat), r.len = k + p → ∃ a b : Fs, r = a.app b ∧ a.len = p ∧ b.len = k
  | r, 0, k, h => ⟨.nil, r, rfl, rfl, by simpa using h⟩
  | .nil, p + 1, k, h => by simp [Fs.len] at h
  | .cons t r, p + 1, k, h => by
    obtain ⟨a, b, e, ha, hb⟩ := Fs.split r p k (by simp only [Fs.len] at h; omega)
    exact ⟨.cons t a, b, by rw [e]; rfl, by simp only [Fs.len]; omega, hb⟩
theorem Fs.flat_app : ∀ a b : Fs, (a.app b).flat = a.flat ++ b.flat
  | .nil, b => rfl
  | .cons t r, b => by
    show t.flat ++ (r.app b).flat = (t.flat ++ r.flat) ++ b.flat
    rw [Fs.flat_app r b, List.append_assoc]
theorem Fs.wf_app {pl : Str → Option Nat} : ∀ {a b : Fs}, (a.app b).wf pl → a.wf pl ∧ b.wf pl
  | .nil, b, h => ⟨by simp [Fs.wf], h⟩
  | .cons t r, b, h => by
    have h' : t.wf pl ∧ (r.app b).wf pl := h
    obtain ⟨h1, h2⟩ := Fs.wf_app h'.2
    exact ⟨⟨h'.1, h1⟩, h2⟩
/-- signs that are read to their end are k trees -/
theorem parse {pl : Str → Option Nat} : ∀ (zs : List Str) (k : Nat), lacks pl k zs = some 0 → ∃ r : Fs, r.flat = zs ∧ r.wf pl ∧ r.len = k
  | [], k, h => by
    have e : k = 0 := by simpa [lacks] using h
    subst e
    exact ⟨.nil, rfl, by simp [Fs.wf], rfl⟩
  | z :: r, 0, h => by simp [lacks] at h
  | z :: r, k + 1, h => by
    cases hp : pl z with
    | none => simp [lacks, hp] at h
    | some p =>
      have h' : lacks pl (k + p) r = some 0 := by simpa [lacks, hp] using h
      obtain ⟨f, hf, hw, hl⟩ := parse r (k + p) h'
      obtain ⟨a, b, rfl, ha, hb⟩ := f.split p k hl
      obtain ⟨w1, w2⟩ := Fs.wf_app hw
      refine ⟨.cons (.mk z a) b, ?_, ⟨⟨by rw [ha]; exact hp, w1⟩, w2⟩, by simp only [Fs.len]; omega⟩
      show (z :: a.flat) ++ b.flat = z :: r
      rw [← hf, Fs.flat_app]
      rfl
/-! jumps from part to part -/
def jump (E : List Nat) : Nat → Nat → Option Nat
  | 0, s => some s
  | n + 1, s => (E[s]?).bind (jump E n)
theorem Tm.ends_head (t : Tm) (o : Nat) : (t.ends o)[0]? = some (o + t.size) := by
  cases t with
  | mk s ts =>
    unfold Tm.ends Tm.size
    rw [List.getElem?_cons_zero, Nat.add_assoc]
theorem Fs.jumps : ∀ (r : Fs) (o : Nat) (E : List Nat), (∀ i, i < r.size → E[o + i]? = (r.ends o)[i]?) → jump E r.len o = some (o + r.size)
  | .nil, o, E, _ => by simp [Fs.len, Fs.size, jump]
  | .cons t r, o, E, h => by
    have tp := t.size_pos
    have h0 : E[o]? = some (o + t.size) := by
      have := h 0 (by unfold Fs.size; omega)
      rw [Nat.add_zero] at this
      rw [this]
      show (t.ends o ++ r.ends (o + t.size))[0]? = _
      rw [List.getElem?_append_left (by rw [Tm.ends_len]; exact tp), Tm.ends_head]
    show (E[o]?).bind (jump E r.len) = _
    rw [h0]
    show jump E r.len (o + t.size) = _
    rw [Fs.jumps r (o + t.size) E fun i hi => ?_]
    · show _ = some (o + (t.size + r.size))
      rw [Nat.add_assoc]
    · have := h (t.size + i) (by unfold Fs.size; omega)
      rw [← Nat.add_assoc] at this
      rw [this]
      show (t.ends o ++ r.ends (o + t.size))[t.size + i]? = _
      rw [List.getElem?_append_right (by rw [Tm.ends_len]; omega), Tm.ends_len, Nat.add_sub_cancel_left]
/-- what stands at a place: its sign, its parts behind it, where it ends -/
structure NodeAt (pl : Str → Option Nat) (flat : List Str) (ends : List Nat) (o i : Nat) (s : Str) (ts : Fs) : Prop where
  sign : flat[i]? = some s
  wf : ts.wf pl
  many : pl s = some ts.len
  stop : ends[i]? = some (o + i + 1 + ts.size)
  in_ : i + ts.size < flat.length
  kids : ∀ j, j < ts.size → ends[i + 1 + j]? = (ts.ends (o + i + 1))[j]?
mutual
theorem Tm.node {pl : Str → Option Nat} : ∀ (t : Tm) (o i : Nat), t.wf pl → i < t.size → ∃ s ts, NodeAt pl t.flat (t.ends o) o i s ts
  | .mk s ts, o, 0, hw, _ => by
    have hw' : pl s = some ts.len ∧ ts.wf pl := hw
    refine ⟨s, ts, rfl, hw'.2, hw'.1, ?_, ?_, fun j hj => ?_⟩
    · show some (o + ts.size + 1) = _
      congr 1
      omega
    · rw [Tm.flat_len]
      show 0 + ts.size < ts.size + 1
      omega
    · show ((o + ts.size + 1) :: ts.ends (o + 1))[0 + 1 + j]? = _
      rw [show 0 + 1 + j = j + 1 by omega, List.getElem?_cons_succ]
  | .mk s ts, o, i + 1, hw, hi => by
    have hw' : pl s = some ts.len ∧ ts.wf pl := hw
    obtain ⟨s2, ts2, n⟩ := Fs.node ts (o + 1) i hw'.2 (by unfold Tm.size at hi; omega)
    refine ⟨s2, ts2, ?_, n.wf, n.many, ?_, ?_, fun j hj => ?_⟩
    · show (s :: ts.flat)[i + 1]? = _
      rw [List.getElem?_cons_succ]; exact n.sign
    · show ((o + ts.size + 1) :: ts.ends (o + 1))[i + 1]? = _
      rw [List.getElem?_cons_succ, n.stop]
      congr 1
      omega
    · have := n.in_
      rw [Fs.flat_len] at this
      rw [Tm.flat_len]
      show i + 1 + ts2.size < ts.size + 1
      omega
    · show ((o + ts.size + 1) :: ts.ends (o + 1))[i + 1 + 1 + j]? = _
      rw [show i + 1 + 1 + j = (i + 1 + j) + 1 by omega, List.getElem?_cons_succ, n.kids j hj, show o + 1 + i + 1 = o + (i + 1) + 1 by omega]
theorem Fs.node {pl : Str → Option Nat} : ∀ (r : Fs) (o i : Nat), r.wf pl → i < r.size → ∃ s ts, NodeAt pl r.flat (r.ends o) o i s ts
  | .nil, o, i, _, hi => absurd hi (by unfold Fs.size; omega)
  | .cons t r, o, i, hw, hi => by
    have hw' : t.wf pl ∧ r.wf pl := hw
    by_cases h : i < t.size
    · obtain ⟨s, ts, n⟩ := Tm.node t o i hw'.1 h
      have ni := n.in_
      rw [Tm.flat_len] at ni
      refine ⟨s, ts, ?_, n.wf, n.many, ?_, ?_, fun j hj => ?_⟩
      · show (t.flat ++ r.flat)[i]? = _
        rw [List.getElem?_append_left (by rw [Tm.flat_len]; exact h)]; exact n.sign
      · show (t.ends o ++ r.ends (o + t.size))[i]? = _
        rw [List.getElem?_append_left (by rw [Tm.ends_len]; exact h)]; exact n.stop
      · rw [Fs.flat_len]
        show i + ts.size < t.size + r.size
        omega
      · show (t.ends o ++ r.ends (o + t.size))[i + 1 + j]? = _
        rw [List.getElem?_append_left (by rw [Tm.ends_len]; omega)]; exact n.kids j hj
    · have hi2 : i - t.size < r.size := by unfold Fs.size at hi; omega
      obtain ⟨s, ts, n⟩ := Fs.node r (o + t.size) (i - t.size) hw'.2 hi2
      have ni := n.in_
      rw [Fs.flat_len] at ni
      refine ⟨s, ts, ?_, n.wf, n.many, ?_, ?_, fun j hj => ?_⟩
      · show (t.flat ++ r.flat)[i]? = _
        rw [List.getElem?_append_right (by rw [Tm.flat_len]; omega), Tm.flat_len]; exact n.sign
      · show (t.ends o ++ r.ends (o + t.size))[i]? = _
        rw [List.getElem?_append_right (by rw [Tm.ends_len]; omega), Tm.ends_len, n.stop]
        congr 1
        omega
      · rw [Fs.flat_len]
        show i + ts.size < t.size + r.size
        omega
      · show (t.ends o ++ r.ends (o + t.size))[i + 1 + j]? = _
        rw [List.getElem?_append_right (by rw [Tm.ends_len]; omega), Tm.ends_len, show i + 1 + j - t.size = i - t.size + 1 + j by omega, n.kids j hj, show o + t.size + (i - t.size) + 1 = o + i + 1 by omega]
end
theorem Fs.len_size : ∀ r : Fs, r.len ≤ r.size
  | .nil => Nat.le_refl _
  | .cons t r => by
    have h1 := t.size_pos
    have h2 := Fs.len_size r
    show r.len + 1 ≤ t.size + r.size
    omega
end TS

/-! ### 18. methods with keyword-only parameters -/
namespace TS
open PySem PySem.Spec PyProof.Rows L2
def DefMK (K : PySem.W.Frag) (f : Addr) (m qual : Str) (st : Stmt) (kws : List (Str × V)) : Prop := ∃ fd, FunD K m qual (defArgs st) (defBody st) (defScope st) [] kws f fd
section
variable {P : Program} {w : World} {K : PySem.W.Frag} {mg : Str → Option Value} {base : Heap} {N ps ks : List Str} {k n : Nat} {sp : Sp} {m qual : Str} {st : Stmt} {f : Addr} {kws : List (Str × V)}
theorem methXK_mk (D : DefMK K f m qual st kws) (S : FnScope N ps (defScope st)) (len : ∀ vs H Q E, sp vs H Q E → vs.length = ps.length)
    (body : ∀ (cdv : Value) (A : Around) (outer : List Env) (s : Shared) (H : Hp) (vs : List V) (Q : VK) (E : XK), Room k (A.deeper (envOfC qual (defScope st) s.heap.objs.size f cdv)) → sp vs H Q E →
      ∃ t, PSs (cxOf (L2.CX P w) P w K mg base N qual (defScope st) f cdv A outer s H E) (defBody st) t ∧ t { nx := fun _ G => Q .non G, rt := Q } (start N vs) H) :
    ∃ fd, FunD K m qual (defArgs st) (defBody st) (defScope st) [] kws f fd ∧ FnOk P w K mg base (L2.CX P w) (k + 1) f fd ps sp := by
  obtain ⟨fd, F⟩ := D
  exact ⟨fd, F, F.ok S len body⟩
theorem promAK_of (h : ∃ fd, FunD K m qual (defArgs st) (defBody st) (defScope st) [] kws f fd ∧ FnOk P w K mg base (L2.CX P w) k f fd ps sp) (n : Nat) (ks : List Str) (ms : List (Str × V)) (g : {α : Type} → List α → List α → List α → List α) (hk : kws ≠ []) (hms : ∀ q ∈ ms, q ∈ kws)
    (hrel : ∀ {vs mz zs : List V} {us mv ws : List Value}, Vals vs us → Vals mz mv → Vals zs ws → Vals (g vs mz zs) (g us mv ws))
    (hb : ∀ (D : Addr) (doc pm : Value) (an : Option Addr) (cdv ct : Value) (us mv ws : List Value), us.length = n → mv.length = ms.length → ws.length = ks.length →
      KwChain D ((ms.map (·.1)).zip mv) (bindArgs (PySem.W.fnOf m qual (defArgs st) (defBody st) (defScope st) .none (.ref D) doc pm an cdv ct) ⟨us, ks.zip ws⟩) (ps.zip (g us mv ws))) :
    PromAK P w K mg base k f ps sp n ks (fun vs zs => g vs (ms.map (·.2)) zs) := by
  obtain ⟨fd, F, ok⟩ := h
  obtain ⟨mv, b⟩ := kbinds0 F n ks ms g hk hms hrel hb
  exact ⟨fd, _, ok, b⟩
end
def methKD (C m q : Str) (st : Stmt) (kwd : List (Str × He.Dv)) : He.DefD := ⟨(C, some m), m, q, defArgs st, defBody st, defScope st, [], kwd⟩
theorem methK_of {K : PySem.W.Frag} {fn : List He.DefD} (c1 : fn.all (fun d => d.ok K) = true) (c2 : fn.map (fun d => He.fnW K d.at_) = fn.map He.DefD.val)
    {C m q : Str} {st : Stmt} {kwd : List (Str × He.Dv)} (i : Nat) (hi : fn[i]? = some (methKD C m q st kwd)) : DefMK K (He.ma K (He.ga K C) m) m q st (kwd.map fun q => (q.1, q.2.v K)) := by
  have e1 : He.fnW K (methKD C m q st kwd).at_ = (methKD C m q st kwd).val := by
    have h1 := congrArg (·[i]?) c2
    simp only [List.getElem?_map, hi, Option.map_some] at h1
    exact Option.some.inj h1
  obtain ⟨fd, F⟩ := He.DefD.funD e1 (List.all_eq_true.mp c1 _ (List.mem_of_getElem? hi))
  exact ⟨fd, F⟩
section
variable {X : Cx} {k : Nat} {ps : List Str} {sp : Sp} {x : Str} {p pos : Pos}
/-- a guarded def called with nothing -/
theorem pe_pcG0 (pr : PromG X.prog X.w X.K X.mg X.base k x ps sp) (hgd : X.A.guards = some []) (hr : Room k X.A) (hg : Gl X x) (hdb : (x == ("__debug__" : Str)) = false := by decide) :
    PE X (.Call (.Name x p) [] [] pos) (tCall sp [] E0 tNil) := by
  obtain ⟨f, fd, F, m, kp, b⟩ := pr
  refine ⟨fun pins s σ H Q I h => wpAny_Call_Name_kw (ld_glob I hg m ?_ hdb)⟩
  exact PySem.W.callWith_K0 I.kIn kp (run_G (us := []) F hgd hr b .nil pass0 I .nil h)
end
end TS

/-! ### 23. x == y by an own __eq__, both of one own class -/
namespace TS
open PySem PySem.Spec PyProof.Rows L2
def rEqOwn (C : Addr) (sp : Sp) : R2 := fun x y H Q => ∃ a b dx dy fs gs, x = .ref a ∧ y = .ref b ∧ H a = some (.ins C dx fs) ∧ H b = some (.ins C dy gs) ∧ sp [.ref a, .ref b] H (fun v G => ∃ c, v = .bl c ∧ Q (.bl c) G) E0
theorem op_eqOwn {X : Cx} {k : Nat} {C f : Addr} {ps : List Str} {sp : Sp} (M : Meth X.K C "__eq__" f) (pr : PromA CX0 X.prog X.w X.K X.mg X.base k f ps sp) (hr : Room k X.A) : OpR X (compareOp .Eq) (rEqOwn C sp) := by
  intro pins s σ H x y v u Q J rx ry rd
  obtain ⟨a, b, dx, dy, fs, gs, rfl, rfl, ha, hb, q⟩ := rd
  cases rx
  cases ry
  obtain ⟨fd, F, bn⟩ := pr
  obtain ⟨mA, O, _⟩ := ins_get J.hok ha
  obtain ⟨mB, O2, _⟩ := ins_get J.hok hb
  obtain ⟨od, look, _⟩ := O.look
  obtain ⟨od2, look2, _⟩ := O2.look
  obtain ⟨m, hF⟩ := J.fr
  show wpAny (model X.prog X.w) X.A (richCompare .Eq (.ref a) (.ref b)) (EP X pins σ Q) X.xe s
  refine PySem.W.cmp_K (op := .Eq) (tb := .ref C) hr.units0 hF J.ok.mod.kin look look2.type (by simp [PySem.W.notFirst]) M.at_ M.fn ?_
  have r2 : Vals [V.ref a, V.ref b] [Value.ref a, Value.ref b] := .cons rfl (.cons rfl .nil)
  have bd := bn s [.ref a, .ref b] J.kIn (by rw [List.append_nil]; exact F.len _ _ _ _ q)
  rw [List.append_nil] at bd
  refine wpAny_call (codeAny_mono (F.run X.A X.stack s H ⟨[.ref a, .ref b], []⟩ [.ref a, .ref b] [.ref a, .ref b] _ E0 hr J.env0 bd r2 q) fun o t z => ?_)
  match o, z with
  | .error e, z => exact pass0 pins σ H s e t J z
  | .ok (.ret u), z =>
    obtain ⟨v, G, J2, rv, c, rfl, q2⟩ := J.after z
    cases rv
    exact ⟨.bl c, G, J2, rfl, q2⟩
end TS

/-! ### C(k = v, ..) of an own class whose __init__ may raise, no positional values -/
namespace TS
open PySem PySem.Spec PyProof.Rows L2
section
variable {X : Cx} {k : Nat} {f C : Addr} {ps ks : List Str} {sp : Sp} {W : WX} {x : Str} {p pos : Pos} {kws : List Keyword} {tk : TA} {gV : List V → List V → List V}
theorem pe_makeSK0 (M : Mk X.K C f) (pr : PromAK X.prog X.w X.K X.mg X.base k f ps sp 1 ks gV) (tkn : Takes X W) (hr : Room (k + 1) X.A) (hg : Gl X x) (hm : X.mg x = some (.ref C)) (hkw : PK X kws tk)
    (hall : (backToKw pos (keywordEach kws X.env)).all (·.1.isSome) = true := by rfl) (hks : (backToKw pos (keywordEach kws X.env)).filterMap (·.1) = ks := by rfl) (hdb : (x == ("__debug__" : Str)) = false := by decide)
    (hpl : ((backTo pos (starEach [] X.env)).any (·.1) || (backToKw pos (keywordEach kws X.env)).any (·.1.isNone)) = false := by rfl) :
    PE X (.Call (.Name x p) [] kws pos) (tMakeSK C 0 ks.length sp gV W tNil tk) := by
  obtain ⟨fd, g, F, b⟩ := pr
  refine ⟨fun pins s σ H Q J h => wpAny_Call_Name_kw (ld_glob J hg hm ?_ hdb)⟩
  refine PySem.W.callWith_KW0 (h₀ := X.base) J.ok.mod.kin M.kp hall ?_ hpl
  refine thn (hkw.run pos pins s σ H _ J h) fun ws s2 ⟨zs, H2, J2, rz, l1, l2, q2⟩ => ⟨J2.kIn, ?_⟩
  rw [hks]
  exact make_runSK (us := []) (vs := []) M F hr b tkn J2 .nil rz rfl l2 q2
end
end TS

/-! ### 25. x != y by an own __eq__, both of one own class: object.__ne__ turns the answer about -/
namespace TS
open PySem PySem.Spec PyProof.Rows L2
theorem ne_bind (self : Value) : bindSpecial (.builtin "object.__ne__") self = pure (.builtin "object.__ne__", [self]) :=
  (Slot.of (T := "object") (name := "__ne__") (owner := "object") (n := "__ne__") (by rw [typeLookup_type, builtinLookup_eq_fast]; kernel_rfl) (by decide +kernel) (by decide +kernel) (by decide +kernel)
    (.inl (by decide +kernel)) (by rw [isSubtype_type]; kernel_rfl)).bind self
def neB (K : PySem.W.Frag) (C : Addr) : Bool := PySem.W.findIn K (.ref C) "__ne__" == some (some (.builtin "object.__ne__")) && PySem.W.mroIn K C (.type "object") == some true
structure NeC (K : PySem.W.Frag) (C : Addr) : Prop where
  at_ : PySem.W.findIn K (.ref C) "__ne__" = some (some (.builtin "object.__ne__"))
  top : PySem.W.mroIn K C (.type "object") = some true
theorem neB_ok {K : PySem.W.Frag} {C : Addr} (h : neB K C = true) : NeC K C := by
  obtain ⟨a, b⟩ := He.ba h
  exact ⟨beq_iff_eq.mp a, beq_iff_eq.mp b⟩
section
variable {prog : Program} {w : World} {A : Around} {E : Value → Shared → Prop} {s : Shared} {K : PySem.W.Frag} {x C L f : Addr} {h₀ : Heap} {m : Str → Option Value} {ox : Obj} {od : Option Obj} {b tb : Value}
theorem ne_slotK {Q : Option Value → Shared → Prop} (hu : A.units + 1 < cLine) (X : K.In s.heap) (I : PySem.W.InstAt s.heap x ox C od) (N : NeC K C) (hs : PySem.W.findIn K (.ref C) "__eq__" = some (some (.ref f))) (hf : PySem.W.isFn K (.ref f) = true)
    (h : wpAny (model prog w) A.in1 (call (.ref f) [.ref x, b]) (fun v s' => ∃ c, v = .bool c ∧ Q (some (.bool (!c))) s') E s) : wpAny (model prog w) A (callSpecialIfBound? (.ref x) "__ne__" [b]) Q E s := by
  have body : wpAny (model prog w) A (call (.builtin "object.__ne__") [.ref x, b]) (fun v => Q (some v)) E s := by
    refine wpAny_call (codeAny_call_builtin (by decide +kernel) F.cmpEntry_ne (PySem.W.check_slot F.cmpKind_ne F.cmpSplit_ne (I.type.andThen (PySem.W.looks_subIn X N.top)) (F.cmpArgs_ne _ _) ?_))
    unfold Builtin.«object.__ne__»
    refine wpAny_bind (wpAny_of_eq rfl ?_)
    show wpAny _ _ (cRoomFor "comparison" [.ref x, b] >>= _) _ _ _
    refine wpAny_bind (wpAny_cRoomFor hu ?_)
    refine wpAny_bind (PySem.W.ifBound_K X I hs hf (wpAny_mono h (fun v s' hv => ?_) fun _ _ e => e))
    obtain ⟨c, rfl, q⟩ := hv
    refine wpAny_bind (wpAny_truthy_bool ?_)
    exact wpAny_pure q
  simp only [callSpecialIfBound?, bindSpecialIfBound?]
  refine wpAny_holding (wpAny_bind (wpAny_bind (wpAny_bind (I.type.here ((PySem.W.looks_findIn X N.at_).here ?_)))))
  refine wpAny_bind (wpAny_askSetting (wpAny_ite ?_))
  have fin : wpAny (model prog w) A (call (.builtin "object.__ne__") ([.ref x] ++ [b]) >>= fun v => pure (some v)) Q E s := wpAny_bind (wpAny_mono body (fun v s' h' => wpAny_pure h') fun _ _ h' => h')
  split
  · exact wpAny_bind (wpAny_of_eq (ne_bind _) (wpAny_pure (by exact fin)))
  · exact wpAny_tryCatch (wpAny_bind (wpAny_of_eq (ne_bind _) (wpAny_pure (by exact fin))))
theorem cmp_neK {Q : Value → Shared → Prop} (hu : A.units + 1 < cLine) (F : Fr h₀ L s.heap m) (X₀ : K.In h₀) (I : PySem.W.InstAt s.heap x ox C od) (hb : PySem.W.Looks (model prog w) s.heap (typeOf b) tb) (hn : PySem.W.notFirst K C tb = true)
    (N : NeC K C) (hs : PySem.W.findIn K (.ref C) "__eq__" = some (some (.ref f))) (hf : PySem.W.isFn K (.ref f) = true)
    (h : wpAny (model prog w) A.in1 (call (.ref f) [.ref x, b]) (fun v s' => ∃ c, v = .bool c ∧ Q (.bool (!c)) s') E s) : wpAny (model prog w) A (richCompare .NotEq (.ref x) b) Q E s := by
  have X := X₀.keeps F.keep
  have one : wpAny (model prog w) A (tryCompare (.ref x) (cmpInfo .NotEq).2.1 b) (fun r s' => ∃ v, r = some v ∧ Q v s') E s := by
    unfold tryCompare
    refine wpAny_bind (ne_slotK hu X I N hs hf (wpAny_mono h (fun v s' hv => ?_) fun _ _ e => e))
    obtain ⟨c, rfl, q⟩ := hv
    exact ⟨c, rfl, wpAny_pure ⟨_, rfl, q⟩⟩
  unfold richCompare
  simp only [oneThing_ref]
  refine wpAny_holding (wpAny_bind (wpAny_cRoomFor (Nat.lt_of_succ_lt hu) ?_))
  refine wpAny_bind (I.type.here (wpAny_bind (hb.here ?_)))
  split
  · rename_i q
    have e : PySem.W.subIn K tb (.ref C) = some false := by
      rcases Bool.or_eq_true_iff.mp hn with e | e
      · rw [beq_iff_eq.mp e] at q; simp at q
      · exact beq_iff_eq.mp e
    refine wpAny_bind ((PySem.W.looks_subIn X e).here ?_)
    simp only [Bool.false_eq_true, if_false]
    refine wpAny_bind (wpAny_mono one (fun r s' z => ?_) fun _ _ e => e)
    obtain ⟨v, rfl, hq⟩ := z
    exact wpAny_pure hq
  · refine wpAny_bind (wpAny_pure ?_)
    simp only [Bool.false_eq_true, if_false]
    refine wpAny_bind (wpAny_mono one (fun r s' z => ?_) fun _ _ e => e)
    obtain ⟨v, rfl, hq⟩ := z
    exact wpAny_pure hq
end
def rNeOwn (C : Addr) (sp : Sp) : R2 := fun x y H Q => ∃ a b dx dy fs gs, x = .ref a ∧ y = .ref b ∧ H a = some (.ins C dx fs) ∧ H b = some (.ins C dy gs) ∧ sp [.ref a, .ref b] H (fun v G => ∃ c, v = .bl c ∧ Q (.bl (!c)) G) E0
theorem op_neOwn {X : Cx} {k : Nat} {C f : Addr} {ps : List Str} {sp : Sp} (M : Meth X.K C "__eq__" f) (N : NeC X.K C) (pr : PromA CX0 X.prog X.w X.K X.mg X.base k f ps sp) (hr : Room (k + 1) X.A) : OpR X (compareOp .NotEq) (rNeOwn C sp) := by
  intro pins s σ H x y v u Q J rx ry rd
  obtain ⟨a, b, dx, dy, fs, gs, rfl, rfl, ha, hb, q⟩ := rd
  cases rx
  cases ry
  obtain ⟨fd, F, bn⟩ := pr
  obtain ⟨mA, O, _⟩ := ins_get J.hok ha
  obtain ⟨mB, O2, _⟩ := ins_get J.hok hb
  obtain ⟨od, look, _⟩ := O.look
  obtain ⟨od2, look2, _⟩ := O2.look
  obtain ⟨m, hF⟩ := J.fr
  show wpAny (model X.prog X.w) X.A (richCompare .NotEq (.ref a) (.ref b)) (EP X pins σ Q) X.xe s
  have hu := hr.units
  refine cmp_neK (tb := .ref C) (by omega) hF J.ok.mod.kin look look2.type (by simp [PySem.W.notFirst]) N M.at_ M.fn ?_
  have r2 : Vals [V.ref a, V.ref b] [Value.ref a, Value.ref b] := .cons rfl (.cons rfl .nil)
  have bd := bn s [.ref a, .ref b] J.kIn (by rw [List.append_nil]; exact F.len _ _ _ _ q)
  rw [List.append_nil] at bd
  have e0 : Env0 X.prog X.w X.K X.mg X.base X.A.in1 X.stack s H := J.env0.in1
  refine wpAny_call (codeAny_mono (F.run X.A.in1 X.stack s H ⟨[.ref a, .ref b], []⟩ [.ref a, .ref b] [.ref a, .ref b] _ E0 hr.in1 e0 bd r2 q) fun o t z => ?_)
  match o, z with
  | .error e, z => exact pass0 pins σ H s e t J z
  | .ok (.ret u), z =>
    obtain ⟨v, G, J2, rv, c, rfl, q2⟩ := J.after z
    cases rv
    exact ⟨c, rfl, .bl (!c), G, J2, rfl, q2⟩
end TS

/-! ### 27. x == y, x != y, x in [..] by an own __eq__, where one of both is data or of another own class -/
namespace TS
open PySem PySem.Spec PyProof.Rows L2
/-- an own class stands apart from the kinds of data -/
structure ApK (K : PySem.W.Frag) (C : Addr) : Prop where
  l : ∀ n ∈ kinds, PySem.W.subIn K (.type n) (.ref C) = some false
  r : ∀ n ∈ kinds, PySem.W.subIn K (.ref C) (.type n) = some false
def apKB (K : PySem.W.Frag) (C : Addr) : Bool := kinds.all fun n => decide (PySem.W.subIn K (.type n) (.ref C) = some false) && decide (PySem.W.subIn K (.ref C) (.type n) = some false)
theorem apKB_ok {K : PySem.W.Frag} {C : Addr} (h : apKB K C = true) : ApK K C :=
  ⟨fun n m => of_decide_eq_true (He.ba (List.all_eq_true.mp h n m)).1, fun n m => of_decide_eq_true (He.ba (List.all_eq_true.mp h n m)).2⟩
/-! what the built-in __eq__ of data says to an instance -/
section
variable {prog : Program} {w : World} {A : Around} {E : Value → Shared → Prop} {s : Shared} {K : PySem.W.Frag} {x C dx : Addr} {Q : Value → Shared → Prop}
open SeqAt AutoSeq1 MeetsSeq in
theorem dec_int (b : Int) (u : Tok) (e : s.heap.get? x = some (PySem.W.instObj C dx)) (q : Q .notImplemented s) : wpAny (model prog w) A (call (.builtin "int.__eq__") [.int b u, .ref x]) Q E s := by
  have m : Meets (Builtin.«int.__eq__» ⟨[.int b u, .ref x], []⟩) (fun _ R s => s.heap.get? x = some (PySem.W.instObj C dx) ∧ R (.ok (.ret .notImplemented)) s) :=
    .of_wp fun prog w A R t z => by obtain ⟨h0, g, d, k, os⟩ := t; obtain ⟨hl, z⟩ := z; wp_walk using wpAny_loadPart' hl, wpAny_load hl; exact ⟨_, rfl, z⟩
  exact call_meets F.slot_int_eq rfl F.entry_int_eq (F.args_int_eq_2 _ _) m ⟨e, q⟩
open SeqAt AutoSeq1 MeetsSeq in
theorem dec_bool (b : Bool) (e : s.heap.get? x = some (PySem.W.instObj C dx)) (q : Q .notImplemented s) : wpAny (model prog w) A (call (.builtin "int.__eq__") [.bool b, .ref x]) Q E s := by
  have m : Meets (Builtin.«int.__eq__» ⟨[.bool b, .ref x], []⟩) (fun _ R s => s.heap.get? x = some (PySem.W.instObj C dx) ∧ R (.ok (.ret .notImplemented)) s) :=
    .of_wp fun prog w A R t z => by obtain ⟨h0, g, d, k, os⟩ := t; obtain ⟨hl, z⟩ := z; wp_walk using wpAny_loadPart' hl, wpAny_load hl; exact ⟨_, rfl, z⟩
  exact call_meets F.slot_bool_eq rfl F.entry_int_eq (F.args_int_eq_2 _ _) m ⟨e, q⟩
open SeqAt AutoSeq1 MeetsSeq in
theorem dec_str (b : Str) (u : Tok) (e : s.heap.get? x = some (PySem.W.instObj C dx)) (q : Q .notImplemented s) : wpAny (model prog w) A (call (.builtin "str.__eq__") [.str b u, .ref x]) Q E s := by
  have m : Meets (Builtin.«str.__eq__» ⟨[.str b u, .ref x], []⟩) (fun _ R s => s.heap.get? x = some (PySem.W.instObj C dx) ∧ R (.ok (.ret .notImplemented)) s) :=
    .of_wp fun prog w A R t z => by obtain ⟨h0, g, d, k, os⟩ := t; obtain ⟨hl, z⟩ := z; wp_walk using wpAny_loadPart' hl, wpAny_load hl; exact ⟨_, rfl, z⟩
  exact call_meets F.slot_str_eq rfl F.entry_str_eq (F.args_str_eq_2 _ _) m ⟨e, q⟩

open SeqAt in
theorem dec_non (x : Addr) (q : Q .notImplemented s) : wpAny (model prog w) A (call (.builtin "NoneType.__eq__") [.none, .ref x]) Q E s :=
  call_gives F.slot_NoneType_eq rfl F.entry_NoneType_eq (F.args_NoneType_eq_2 _ _) (NoneType___eq___none_ref_0 x) q
theorem dec_list {l : Addr} (hT : s.TypeIs (.ref l) "list") (sub : PySem.W.Looks (model prog w) s.heap (isInstance (.ref x) (.type "list")) false) (q : Q .notImplemented s) : wpAny (model prog w) A (call (.builtin "list.__eq__") [.ref l, .ref x]) Q E s := by
  refine call_meetsIn (S := fun _ R t => t = s ∧ R (.ok (.ret .notImplemented)) t) F.slot_list_eq hT F.entry_list_eq (F.args_list_eq_2 _ _) (fun A R t z => ?_) ⟨rfl, q⟩
  obtain ⟨rfl, z⟩ := z
  refine wpAny_bind (wpAny_of_eq rfl ?_)
  refine wpAny_bind (sub.here ?_)
  exact wpAny_pure z
theorem dec_tuple {l : Addr} (hT : s.TypeIs (.ref l) "tuple") (sub : PySem.W.Looks (model prog w) s.heap (isInstance (.ref x) (.type "tuple")) false) (q : Q .notImplemented s) : wpAny (model prog w) A (call (.builtin "tuple.__eq__") [.ref l, .ref x]) Q E s := by
  refine call_meetsIn (S := fun _ R t => t = s ∧ R (.ok (.ret .notImplemented)) t) F.slot_tuple_eq hT F.entry_tuple_eq (F.args_tuple_eq_2 _ _) (fun A R t z => ?_) ⟨rfl, q⟩
  obtain ⟨rfl, z⟩ := z
  refine wpAny_bind (wpAny_of_eq rfl ?_)
  refine wpAny_bind (sub.here ?_)
  exact wpAny_pure z
theorem dec_dict {l : Addr} (hT : s.TypeIs (.ref l) "dict") (sub : PySem.W.Looks (model prog w) s.heap (isInstance (.ref x) (.type "dict")) false) (q : Q .notImplemented s) : wpAny (model prog w) A (call (.builtin "dict.__eq__") [.ref l, .ref x]) Q E s := by
  refine call_meetsIn (S := fun _ R t => t = s ∧ R (.ok (.ret .notImplemented)) t) F.slot_dict_eq hT F.entry_dict_eq (F.args_dict_eq_2 _ _) (fun A R t z => ?_) ⟨rfl, q⟩
  obtain ⟨rfl, z⟩ := z
  refine wpAny_bind (wpAny_of_eq rfl ?_)
  refine wpAny_bind (sub.here ?_)
  exact wpAny_bind (wpAny_rule (wpAny_pure z))
end

section
variable {X : Cx} {pins : List (Addr × Obj)} {σ : L2.St} {H : Hp} {s : Shared} {v : V} {d : PyData} {u : Value}
theorem Dt.typ (J : Inv X pins σ H s) (h : Dt X.K H v d) (r : RelV v u) : s.TypeIs u (tyN d) := by
  cases h with
  | non => cases r; rfl
  | bl b => cases r; rfl
  | int i => obtain ⟨t, rfl⟩ := r; rfl
  | str z => obtain ⟨t, rfl⟩ := r; rfl
  | lst a b =>
    cases r
    obtain ⟨its, rv, ⟨o, n, ho, hc, _⟩, _⟩ := J.list a
    exact ⟨o, ho, hc⟩
  | tup a b =>
    cases r
    obtain ⟨its, rv, ⟨o, ho, hc, _⟩, _⟩ := J.tuple a
    exact ⟨o, ho, hc⟩
  | @dct a ks xs ds h l ha =>
    cases r
    obtain ⟨hz, hS, vs, rk, o, es, ep, ho, hx, _⟩ := (show ObjOk X.prog X.w H s.heap a (.dK (ks.zip xs)) from J.hok a _ h)
    exact ⟨o, ho, hx.1⟩
theorem Dt.looks (J : Inv X pins σ H s) (h : Dt X.K H v d) (r : RelV v u) : PySem.W.Looks (model X.prog X.w) s.heap (typeOf u) (.type (tyN d)) := by
  cases h with
  | non => cases r; exact .now
  | bl b => cases r; exact .now
  | int i => obtain ⟨t, rfl⟩ := r; exact .now
  | str z => obtain ⟨t, rfl⟩ := r; exact .now
  | lst a b =>
    cases r
    obtain ⟨its, rv, ⟨o, n, ho, hc, _⟩, _⟩ := J.list a
    exact fun A Q E s k q => wpAny_typeOf_ref (k _ _ ho) (by rw [hc]; exact q)
  | tup a b =>
    cases r
    obtain ⟨its, rv, ⟨o, ho, hc, _⟩, _⟩ := J.tuple a
    exact fun A Q E s k q => wpAny_typeOf_ref (k _ _ ho) (by rw [hc]; exact q)
  | @dct a ks xs ds h l ha =>
    cases r
    obtain ⟨hz, hS, vs, rk, o, es, ep, ho, hx, _⟩ := (show ObjOk X.prog X.w H s.heap a (.dK (ks.zip xs)) from J.hok a _ h)
    exact fun A Q E s k q => wpAny_typeOf_ref (k _ _ ho) (by rw [hx.1]; exact q)
theorem Dt.declines (J : Inv X pins σ H s) (h : Dt X.K H v d) (r : RelV v u) {x C dx : Addr} {fs : List (Str × V)} (e : H x = some (.ins C dx fs)) (ap : ApK X.K C) :
    ∃ id, Slot (tyN d) (cmpInfo .Eq).2.1 id ∧ ∀ (A : Around) (E : Value → Shared → Prop) (Q : Value → Shared → Prop), Q .notImplemented s → wpAny (model X.prog X.w) A (call (.builtin id) [u, .ref x]) Q E s := by
  have ty := Dt.typ J h r
  obtain ⟨mA, O, _⟩ := ins_get J.hok e
  obtain ⟨od, look, _⟩ := O.look
  have no : ∀ n ∈ kinds, PySem.W.Looks (model X.prog X.w) s.heap (isInstance (.ref x) (.type n)) false := fun n m => look.type.andThen (PySem.W.looks_subIn J.kIn (ap.r n m))
  have ob : s.heap.get? x = some (PySem.W.instObj C dx) := (show ObjOk X.prog X.w H s.heap x (.ins C dx fs) from J.hok x _ e).2.2.2.1
  cases h with
  | non => cases r; exact ⟨_, F.slot_NoneType_eq, fun A E Q q => dec_non x q⟩
  | bl b => cases r; exact ⟨_, F.slot_bool_eq, fun A E Q q => dec_bool b ob q⟩
  | int i => obtain ⟨t, rfl⟩ := r; exact ⟨_, F.slot_int_eq, fun A E Q q => dec_int i t ob q⟩
  | str z => obtain ⟨t, rfl⟩ := r; exact ⟨_, F.slot_str_eq, fun A E Q q => dec_str z t ob q⟩
  | lst a b => cases r; exact ⟨_, F.slot_list_eq, fun A E Q q => dec_list ty (no "list" (by decide)) q⟩
  | tup a b => cases r; exact ⟨_, F.slot_tuple_eq, fun A E Q q => dec_tuple ty (no "tuple" (by decide)) q⟩
  | dct a b c => cases r; exact ⟨_, F.slot_dict_eq, fun A E Q q => dec_dict ty (no "dict" (by decide)) q⟩
end
section
variable {prog : Program} {w : World} {A : Around} {E : Value → Shared → Prop} {s : Shared} {K : PySem.W.Frag} {x C L f : Addr} {h₀ : Heap} {m : Str → Option Value} {ox : Obj} {od : Option Obj} {a : Value}
/-- data == x: the built-in one declines, the own one is asked -/
theorem cmp_right {n id : String} {Q : Value → Shared → Prop} (hu : A.units < cLine) (Fm : Fr h₀ L s.heap m) (X₀ : K.In h₀) (I : PySem.W.InstAt s.heap x ox C od) (ha : s.TypeIs a n) (sl : Slot n (cmpInfo .Eq).2.1 id) (hr : PySem.W.subIn K (.ref C) (.type n) = some false)
    (dec : ∀ Q' : Value → Shared → Prop, Q' .notImplemented s → wpAny (model prog w) A (call (.builtin id) [a, .ref x]) Q' E s) (hs : PySem.W.findIn K (.ref C) "__eq__" = some (some (.ref f))) (hf : PySem.W.isFn K (.ref f) = true)
    (h : wpAny (model prog w) A (call (.ref f) [.ref x, a]) (PySem.W.CmpBack Q) E s) : wpAny (model prog w) A (richCompare .Eq a (.ref x)) Q E s := by
  have X := X₀.keeps Fm.keep
  have two : wpAny (model prog w) A (tryCompare (.ref x) (cmpInfo .Eq).2.2 a) (fun r s' => ∃ v, r = some v ∧ Q v s') E s := by
    unfold tryCompare
    refine wpAny_bind (PySem.W.ifBound_K X I hs hf (wpAny_mono h (fun v s' hv => ?_) fun _ _ e => e))
    cases v <;> first | exact hv.elim | exact wpAny_pure ⟨_, rfl, hv⟩
  rcases hi : cmpInfo CmpOp.Eq with ⟨sym, f1, r1⟩
  rw [hi] at sl two
  simp only [richCompare, hi, ha.oneThing_none]
  refine wpAny_holding (wpAny_bind (wpAny_cRoomFor hu ?_))
  refine wpAny_bind (wpAny_typeOf ha (wpAny_bind (I.type.here ?_)))
  have ne : (Value.type n != Value.ref C) = true := by simp
  simp only [ne, if_true]
  refine wpAny_bind ((PySem.W.looks_subIn X hr).here ?_)
  simp only [Bool.false_eq_true, if_false, Bool.not_false, if_true]
  refine wpAny_bind (m := tryCompare a _ _) (wpAny_tryCompare_declines ha sl (dec _ ⟨rfl, ?_⟩))
  refine wpAny_bind (m := tryCompare (.ref x) _ _) (wpAny_mono two (fun r s' z => ?_) fun _ _ e => e)
  obtain ⟨v, rfl, hq⟩ := z
  exact wpAny_pure hq
end
/-- y beside an instance of C: data, or an instance that C's own look is asked of first -/
def Beside (K : PySem.W.Frag) (C : Addr) (H : Hp) (y : V) : Prop := (∃ d, Dt K H y d) ∨ ∃ b C2 dy gs, y = .ref b ∧ H b = some (.ins C2 dy gs) ∧ (C2 = C ∨ PySem.W.subIn K (.ref C2) (.ref C) = some false)
/-- a place where the defs may be called -/
structure Plc (X : Cx) (k : Nat) (A : Around) : Prop where
  room : Room k A
  env : ∀ {pins : List (Addr × Obj)} {σ : L2.St} {H : Hp} {s : Shared}, Inv X pins σ H s → Env0 X.prog X.w X.K X.mg X.base A X.stack s H
theorem Plc.own {X : Cx} {k : Nat} (h : Room k X.A) : Plc X k X.A := ⟨h, fun J => J.env0⟩
theorem Plc.in1 {X : Cx} {k : Nat} {A : Around} (h : Plc X (k + 1) A) : Plc X k A.in1 := ⟨h.room.in1, fun J => (h.env J).in1⟩
/-- what a rule of == says at a place -/
def EqP (X : Cx) (A : Around) (r : R2) : Prop := ∀ (pins : List (Addr × Obj)) (s : Shared) (σ : L2.St) (H : Hp) (x y : V) (v u : Value) (Q : VK), Inv X pins σ H s → RelV x v → RelV y u → r x y H Q → wpAny (model X.prog X.w) A (richCompare .Eq v u) (EP X pins σ Q) X.xe s
theorem EqP.or {X : Cx} {A : Around} {r r' : R2} (a : EqP X A r) (b : EqP X A r') : EqP X A (fun x y H Q => r x y H Q ∨ r' x y H Q) := fun pins s σ H x y v u Q J rx ry h => h.elim (a pins s σ H x y v u Q J rx ry) (b pins s σ H x y v u Q J rx ry)
theorem EqP.op {X : Cx} {r : R2} (h : EqP X X.A r) : OpR X (compareOp .Eq) r := fun {pins s σ H x y v u Q} J rx ry rd => h pins s σ H x y v u Q J rx ry rd
def rEqL (K : PySem.W.Frag) (C : Addr) (sp : Sp) : R2 := fun x y H Q => ∃ a dx fs, x = .ref a ∧ H a = some (.ins C dx fs) ∧ Beside K C H y ∧ sp [.ref a, y] H (fun v G => ∃ c, v = .bl c ∧ Q (.bl c) G) E0
def rEqR (K : PySem.W.Frag) (C : Addr) (sp : Sp) : R2 := fun x y H Q => ∃ d a dx fs, Dt K H x d ∧ y = .ref a ∧ H a = some (.ins C dx fs) ∧ sp [.ref a, x] H (fun v G => ∃ c, v = .bl c ∧ Q (.bl c) G) E0
def rNeL (K : PySem.W.Frag) (C : Addr) (sp : Sp) : R2 := fun x y H Q => ∃ a dx fs, x = .ref a ∧ H a = some (.ins C dx fs) ∧ Beside K C H y ∧ sp [.ref a, y] H (fun v G => ∃ c, v = .bl c ∧ Q (.bl (!c)) G) E0
section
variable {X : Cx} {A : Around} {k : Nat} {C f : Addr} {ps : List Str} {sp : Sp}
theorem Beside.looks {pins : List (Addr × Obj)} {σ : L2.St} {H : Hp} {s : Shared} {y : V} {u : Value} (ap : ApK X.K C) (J : Inv X pins σ H s) (h : Beside X.K C H y) (r : RelV y u) : ∃ tb, PySem.W.Looks (model X.prog X.w) s.heap (typeOf u) tb ∧ PySem.W.notFirst X.K C tb = true := by
  rcases h with ⟨d, h⟩ | ⟨b, C2, dy, gs, rfl, e, h⟩
  · exact ⟨_, Dt.looks J h r, by unfold PySem.W.notFirst; rw [ap.l _ (tyN_mem d)]; simp⟩
  · cases r
    obtain ⟨mA, O, _⟩ := ins_get J.hok e
    obtain ⟨od, look, _⟩ := O.look
    refine ⟨_, look.type, ?_⟩
    unfold PySem.W.notFirst
    rcases h with rfl | h
    · simp
    · rw [h]; simp
theorem call_own2 {pins : List (Addr × Obj)} {σ : L2.St} {H : Hp} {s : Shared} {a : Addr} {y : V} {u : Value} {R : VK} (p : Plc X k A) (pr : PromA CX0 X.prog X.w X.K X.mg X.base k f ps sp) (J : Inv X pins σ H s) (ry : RelV y u) (q : sp [.ref a, y] H R E0) :
    wpAny (model X.prog X.w) A (call (.ref f) [.ref a, u]) (EP X pins σ R) X.xe s := by
  obtain ⟨fd, Fn, bn⟩ := pr
  have r2 : Vals [V.ref a, y] [Value.ref a, u] := .cons rfl (.cons ry .nil)
  have bd := bn s [.ref a, u] J.kIn (by rw [List.append_nil]; exact r2.length.symm.trans (Fn.len _ _ _ _ q))
  rw [List.append_nil] at bd
  refine wpAny_call (codeAny_mono (Fn.run A X.stack s H ⟨[.ref a, u], []⟩ [.ref a, u] [.ref a, y] _ E0 p.room (p.env J) bd r2 q) fun o t z => ?_)
  match o, z with
  | .error e, z => exact pass0 pins σ H s e t J z
  | .ok (.ret u), z => exact J.after z
theorem eq_left (M : Meth X.K C "__eq__" f) (ap : ApK X.K C) (pr : PromA CX0 X.prog X.w X.K X.mg X.base k f ps sp) (p : Plc X k A) : EqP X A (rEqL X.K C sp) := by
  intro pins s σ H x y v u Q J rx ry rd
  obtain ⟨a, dx, fs, rfl, ha, bs, q⟩ := rd
  cases rx
  obtain ⟨mA, O, _⟩ := ins_get J.hok ha
  obtain ⟨od, look, _⟩ := O.look
  obtain ⟨m, hF⟩ := J.fr
  obtain ⟨tb, lk, nf⟩ := bs.looks ap J ry
  refine PySem.W.cmp_K (op := .Eq) (tb := tb) p.room.units0 hF J.ok.mod.kin look lk nf M.at_ M.fn (wpAny_mono (call_own2 p pr J ry q) (fun v s' z => ?_) fun _ _ z => z)
  obtain ⟨y1, G, J2, rv, c, rfl, q2⟩ := z
  cases rv
  exact ⟨.bl c, G, J2, rfl, q2⟩
theorem eq_right (M : Meth X.K C "__eq__" f) (ap : ApK X.K C) (pr : PromA CX0 X.prog X.w X.K X.mg X.base k f ps sp) (p : Plc X k A) : EqP X A (rEqR X.K C sp) := by
  intro pins s σ H x y v u Q J rx ry rd
  obtain ⟨d, a, dx, fs, hd, rfl, ha, q⟩ := rd
  cases ry
  obtain ⟨mA, O, _⟩ := ins_get J.hok ha
  obtain ⟨od, look, _⟩ := O.look
  obtain ⟨m, hF⟩ := J.fr
  obtain ⟨id, sl, dec⟩ := Dt.declines J hd rx ha ap
  refine cmp_right p.room.units0 hF J.ok.mod.kin look (Dt.typ J hd rx) sl (ap.r _ (tyN_mem d)) (fun Q' q' => dec A _ Q' q') M.at_ M.fn (wpAny_mono (call_own2 p pr J rx q) (fun v s' z => ?_) fun _ _ z => z)
  obtain ⟨y1, G, J2, rv, c, rfl, q2⟩ := z
  cases rv
  exact ⟨.bl c, G, J2, rfl, q2⟩
theorem op_neL (M : Meth X.K C "__eq__" f) (N : NeC X.K C) (ap : ApK X.K C) (pr : PromA CX0 X.prog X.w X.K X.mg X.base k f ps sp) (hr : Room (k + 1) X.A) : OpR X (compareOp .NotEq) (rNeL X.K C sp) := by
  intro pins s σ H x y v u Q J rx ry rd
  obtain ⟨a, dx, fs, rfl, ha, bs, q⟩ := rd
  cases rx
  obtain ⟨mA, O, _⟩ := ins_get J.hok ha
  obtain ⟨od, look, _⟩ := O.look
  obtain ⟨m, hF⟩ := J.fr
  obtain ⟨tb, lk, nf⟩ := bs.looks ap J ry
  have hu := hr.units
  show wpAny (model X.prog X.w) X.A (richCompare .NotEq (.ref a) u) (EP X pins σ Q) X.xe s
  refine cmp_neK (tb := tb) (by omega) hF J.ok.mod.kin look lk nf N M.at_ M.fn (wpAny_mono (call_own2 (Plc.own hr).in1 pr J ry q) (fun v s' z => ?_) fun _ _ z => z)
  obtain ⟨y1, G, J2, rv, c, rfl, q2⟩ := z
  cases rv
  exact ⟨c, rfl, .bl (!c), G, J2, rfl, q2⟩
end
end TS

/-! ### 28. str(x), repr(x) by an own __str__, __repr__ -/
namespace TS
open PySem PySem.Spec PyProof.Rows L2
def rTxtOwn (C : Addr) (sp : Sp) : List V → Hp → VK → Prop := fun xs H Q => ∃ a dx fs, xs = [.ref a] ∧ H a = some (.ins C dx fs) ∧ sp [.ref a] H (fun v G => ∃ z, v = .str z ∧ Q (.str z) G) E0
section
variable {X : Cx} {A : Around} {k : Nat} {C f : Addr} {ps : List Str} {sp : Sp}
theorem call_own1 {pins : List (Addr × Obj)} {σ : L2.St} {H : Hp} {s : Shared} {a : Addr} {R : VK} (p : Plc X k A) (pr : PromA CX0 X.prog X.w X.K X.mg X.base k f ps sp) (J : Inv X pins σ H s) (q : sp [.ref a] H R E0) :
    wpAny (model X.prog X.w) A (call (.ref f) [.ref a]) (EP X pins σ R) X.xe s := by
  obtain ⟨fd, Fn, bn⟩ := pr
  have r2 : Vals [V.ref a] [Value.ref a] := .cons rfl .nil
  have bd := bn s [.ref a] J.kIn (by rw [List.append_nil]; exact r2.length.symm.trans (Fn.len _ _ _ _ q))
  rw [List.append_nil] at bd
  refine wpAny_call (codeAny_mono (Fn.run A X.stack s H ⟨[.ref a], []⟩ [.ref a] [.ref a] _ E0 p.room (p.env J) bd r2 q) fun o t z => ?_)
  match o, z with
  | .error e, z => exact pass0 pins σ H s e t J z
  | .ok (.ret u), z => exact J.after z
theorem str_own (M : Meth X.K C "__str__" f) (pr : PromA CX0 X.prog X.w X.K X.mg X.base k f ps sp) (hr : Room (k + 2) X.A) : CallR X (.type "str") (rTxtOwn C sp) := by
  intro pins s σ H xs us Q J r rd
  obtain ⟨a, dx, fs, rfl, ea, q⟩ := rd
  obtain ⟨u, rfl, ra⟩ := vals1 r
  cases ra
  obtain ⟨mA, O, _⟩ := ins_get J.hok ea
  obtain ⟨od, look, _⟩ := O.look
  have p2 : Plc X k X.A.in1.in1 := (Plc.own hr).in1.in1
  refine PySem.W.kso_call p2.room.units0 J.kIn look M.at_ M.fn (wpAny_mono (call_own1 p2 pr J q) (fun v s' z => ?_) fun _ _ z => z)
  obtain ⟨y1, G, J2, rv, z, rfl, q2⟩ := z
  obtain ⟨t, rfl⟩ := rv
  exact ⟨.str z, G, J2, ⟨t, rfl⟩, q2⟩
theorem repr_own (M : Meth X.K C "__repr__" f) (pr : PromA CX0 X.prog X.w X.K X.mg X.base k f ps sp) (hr : Room (k + 1) X.A) : CallR X (.builtin "repr") (rTxtOwn C sp) := by
  intro pins s σ H xs us Q J r rd
  obtain ⟨a, dx, fs, rfl, ea, q⟩ := rd
  obtain ⟨u, rfl, ra⟩ := vals1 r
  cases ra
  obtain ⟨mA, O, _⟩ := ins_get J.hok ea
  obtain ⟨od, look, _⟩ := O.look
  obtain ⟨m, hF⟩ := J.fr
  have p1 : Plc X k X.A.in1 := (Plc.own hr).in1
  refine PySem.W.repr_K p1.room.units0 hF J.ok.mod.kin look M.at_ M.fn (wpAny_mono (call_own1 p1 pr J q) (fun v s' z => ?_) fun _ _ z => z)
  obtain ⟨y1, G, J2, rv, z, rfl, q2⟩ := z
  obtain ⟨t, rfl⟩ := rv
  exact ⟨.str z, G, J2, ⟨t, rfl⟩, q2⟩
end
end TS

/-! ### 29. x in [..] by an own __eq__ -/
namespace TS
open PySem PySem.Spec PyProof.Rows L2
theorem eqBool_of {M : Model} {A : Around} {E : Value → Shared → Prop} {s : Shared} {a b : Value} {Q : Bool → Shared → Prop} (hne : a ≠ b) (nf : ∀ f t, a ≠ .float f t) (h : wpAny M A (richCompare .Eq a b) (fun v s' => ∃ c, v = .bool c ∧ Q c s') E s) :
    wpAny M A (eqBool a b) Q E s := by
  unfold eqBool
  refine wpAny_holding ?_
  refine wpAny_ite_split (fun hab => absurd (eq_of_beq hab) hne) (fun _ => ?_)
  have fin : wpAny M A (richCompare .Eq a b >>= truthOfDropped) Q E s := wpAny_bind (wpAny_mono h (fun v s' z => by obtain ⟨c, rfl, q⟩ := z; exact wpAny_truthy_bool q) fun _ _ z => z)
  cases a with
  | float f t => exact absurd rfl (nf f t)
  | _ => exact fin
section
variable {prog : Program} {w : World} {A : Around} {R : Result → Shared → Prop} {l : Addr} {x : Value} {N : Nat} {I : Nat → Shared → Prop}
open SeqAt AutoSeq1 MeetsSeq in
theorem contains_goes (turn : ∀ i t, I i t → ∃ (items : Array Value) (n : Nat) (dd : Option Addr) (sl : Array (Option Value)), t.heap.get? l = some { cls := .type "list", dict := dd, data := .seq items n, slots := sl } ∧ items.size = N ∧
      ∀ h : i < items.size, wpAny (model prog w) A.in1 (eqBool items[i] x) (fun b s' => if b = true then R (.ok (.ret (.bool true))) s' else I (i + 1) s') (fun e s' => R (.error e) s') t)
    (fin : ∀ t, I N t → R (.ok (.ret (.bool false))) t) (k : Nat) : ∀ i : Nat, N - i = k → i ≤ N → ∀ t, I i t →
      wpAny (model prog w) A.in1 (Builtin.«list.__contains__.loop» ⟨[.ref l, x, rawInt i], []⟩) (fun fin s' => match fin with | .done f => R (.ok f) s' | .again c' => c'.quiet = true ∧ codeAny (model prog w) A c' R s') (fun e s' => R (.error e) s') t := by
  induction k with
  | zero =>
    intro i hk hiN t hI
    obtain rfl : i = N := by omega
    have done := fin t hI
    obtain ⟨items, n, dd, sl, hl, hsz, _⟩ := turn i t hI
    obtain ⟨h0, g, d, tk, os⟩ := t
    wp_walk using wpAny_loadPart' hl
    have hi : items[((i : Nat) : Int).toNat]? = none := by simp; omega
    rw [hi]
    wp_walk
    exact done
  | succ k ih =>
    intro i hk hiN t hI
    obtain ⟨items, n, dd, sl, hl, hsz, step⟩ := turn i t hI
    obtain ⟨h0, g, d, tk, os⟩ := t
    wp_walk using wpAny_loadPart' hl
    have hlt : i < items.size := by omega
    have hi : items[((i : Nat) : Int).toNat]? = some items[i] := by simp [hlt]
    rw [hi]
    refine wpAny_bind (wpAny_mono (step hlt) (fun b s' z => ?_) fun _ _ z => z)
    cases b with
    | true =>
      obtain ⟨h1, g1, d1, t1, o1⟩ := s'
      wp_walk
      exact z
    | false =>
      have hc : ((i : Int) + 1) = ((i + 1 : Nat) : Int) := by push_cast; rfl
      obtain ⟨h1, g1, d1, t1, o1⟩ := s'
      wp_walk
      rw [hc]
      refine ⟨plainId_quiet plain_contains_loop _, codeAny_builtin entry_contains_loop ?_⟩
      rw [Around.under_plainId plain_contains_loop _]
      exact ih (i + 1) (by omega) (by omega) _ z
end
/-- x in the list all at p: t is what is left -/
def InR (r : R2) (p : Addr) (all : List V) (x : V) : List V → Hp → VK → Prop
  | [], H, Q => Q (.bl false) H
  | y :: t, H, Q => y ≠ x ∧ r y x H fun v G => ∃ c, v = .bl c ∧ if c = true then Q (.bl true) G else G p = some (.lst all) ∧ InR r p all x t G Q
def rInO (r : R2) : R2 := fun x y H Q => ∃ p xs, y = .ref p ∧ H p = some (.lst xs) ∧ (∃ a, x = .ref a) ∧ (∀ v ∈ xs, ∀ b, v ≠ .flt b) ∧ InR r p xs x xs H Q
open SeqAt AutoSeq1 MeetsSeq in
theorem op_inO {X : Cx} {r : R2} (e : EqP X X.A.in1 r) : OpR X (compareOp .In) (rInO r) := by
  intro pins s σ H x y v u Q J rx ry rd
  obtain ⟨p, xs, rfl, hp, ⟨a, rfl⟩, nf, q⟩ := rd
  cases ry
  cases rx
  have at_ : ∀ {G : Hp} {t : Shared}, Inv X pins σ G t → G p = some (.lst xs) → ∃ its n, Vals xs its ∧ t.heap.get? p = some { cls := .type "list", data := .seq its.toArray n } := fun {G t} J e => (show ObjOk X.prog X.w G t.heap p (.lst xs) from J.hok p _ e).2
  obtain ⟨its, n, rv, ho⟩ := at_ J hp
  have hT : s.TypeIs (.ref p) "list" := ⟨_, ho, rfl⟩
  show wpAny (model X.prog X.w) X.A (do return .bool (← contains (.ref p) (.ref a))) (EP X pins σ Q) X.xe s
  refine wpAny_bind (wpAny_contains_slot hT F.slot_list_contains (wpAny_mono (call_meetsIn (E := X.xe) (Q := fun v t => ∃ c, v = .bool c ∧ EP X pins σ Q (.bool c) t) (S := fun A R t => A = X.A ∧ t = s ∧ (∀ c t', EP X pins σ Q (.bool c) t' → R (.ok (.ret (.bool c))) t') ∧ ∀ e t', X.xe e t' → R (.error e) t')
    F.slot_list_contains hT F.entry_list_contains (F.args_list_contains_2 _ _) (fun A R t z => ?_) ⟨rfl, rfl, fun c t' z => ⟨c, rfl, z⟩, fun e t' z => z⟩) (fun v t hv => ?_) fun _ _ z => z))
  · obtain ⟨rfl, rfl, k1, k2⟩ := z
    have go := contains_goes (prog := X.prog) (w := X.w) (A := X.A) (R := R) (l := p) (x := .ref a) (N := xs.length) (I := fun i t => ∃ G, Inv X pins σ G t ∧ G p = some (.lst xs) ∧ InR r p xs (.ref a) (xs.drop i) G Q) (fun i t hI => by
      obtain ⟨G, JG, eG, hR⟩ := hI
      obtain ⟨iz, n2, rz, hz⟩ := at_ JG eG
      refine ⟨iz.toArray, n2, none, #[], hz, by simpa using rz.length.symm, fun hi => ?_⟩
      have hx : i < xs.length := by
        have := rz.length
        simp at hi
        omega
      obtain ⟨u, hu, ru⟩ := rz.get (List.getElem?_eq_getElem hx)
      have eu : iz.toArray[i] = u := by
        simp
        rw [List.getElem?_eq_getElem (by simpa using hi)] at hu
        exact Option.some.inj hu
      rw [eu]
      rw [List.drop_eq_getElem_cons hx] at hR
      obtain ⟨ne, rr⟩ := hR
      refine eqBool_of ?_ ?_ (wpAny_mono (wpAny_mono (e pins t σ G _ (.ref a) u (.ref a) _ JG ru rfl rr) (fun _ _ z => z) k2) (fun v t' z => ?_) fun _ _ z => z)
      · intro z
        subst z
        cases hv : xs[i] <;> rw [hv] at ru ne <;> first | (obtain ⟨_, z⟩ := ru; cases z) | (cases ru; exact ne rfl) | cases ru
      · intro f tk z
        subst z
        have nn := nf _ (List.getElem_mem hx)
        cases hv : xs[i] <;> rw [hv] at ru nn <;> first | exact nn _ rfl | (obtain ⟨_, z⟩ := ru; cases z) | cases ru
      · obtain ⟨v2, G2, J2, rv2, c, rfl, q2⟩ := z
        cases rv2
        refine ⟨c, rfl, ?_⟩
        cases c with
        | true => exact k1 true t' ⟨.bl true, G2, J2, rfl, q2⟩
        | false => exact ⟨G2, J2, q2.1, q2.2⟩) (fun t hI => by
      obtain ⟨G, JG, eG, hR⟩ := hI
      rw [List.drop_length] at hR
      exact k1 false t ⟨.bl false, G, JG, rfl, hR⟩) xs.length 0 (by omega) (Nat.zero_le _) t ⟨H, J, hp, q⟩
    obtain ⟨h0, g, d, tk, os⟩ := t
    wp_walk using wpAny_loadPart' ho
    refine ⟨plainId_quiet plain_contains_loop _, codeAny_builtin entry_contains_loop ?_⟩
    rw [Around.under_plainId plain_contains_loop _]
    exact go
  · obtain ⟨c, rfl, z⟩ := hv
    exact wpAny_truthy_bool (wpAny_pure z)
end TS

/-! ### 30. texts: plain signs, lengths of what is split, joined, cut -/
namespace TS
open PySem PySem.Spec PyProof.Rows L2 TL
def Plain (z : Str) : Prop := ∀ c ∈ tl z, c < 256
theorem Plain.app {x y : Str} (hx : Plain x) (hy : Plain y) : Plain (x ++ y) := fun c hc => by
  rw [tl_append] at hc
  exact (List.mem_append.mp hc).elim (hx c) (hy c)
theorem Plain.cut {z : Str} (h : Plain z) (lo hi : Option Int) : Plain (cutS z lo hi) := fun c hc => h c (List.mem_of_mem_drop (List.mem_of_mem_take (show c ∈ ((tl z).drop _).take _ from hc)))
theorem joined_mem {S : List Nat} {c : Nat} : ∀ {ps : List (List Nat)}, c ∈ joinL S ps → c ∈ S ∨ ∃ p ∈ ps, c ∈ p
  | [], h => absurd h (by simp [joinL])
  | [p], h => .inr ⟨p, by simp, h⟩
  | p :: q :: r, h => by
    rcases List.mem_append.mp (show c ∈ p ++ (S ++ joinL S (q :: r)) from h) with h | h
    · exact .inr ⟨p, by simp, h⟩
    · rcases List.mem_append.mp h with h | h
      · exact .inl h
      · rcases joined_mem h with h | ⟨x, hx, hc⟩
        · exact .inl h
        · exact .inr ⟨x, List.mem_cons_of_mem _ hx, hc⟩
theorem Plain.join {y : Str} {ws : List Str} (hy : Plain y) (h : ∀ z ∈ ws, Plain z) : Plain (Txt.join y ws) := fun c hc => by
  rw [join_eq, tl_join] at hc
  rcases joined_mem hc with hc | ⟨p, hp, hc⟩
  · exact hy c hc
  · obtain ⟨z, hz, rfl⟩ := List.mem_map.mp hp
    exact h z hz c hc
theorem plainB {z : Str} (h : (tl z).all (fun c => decide (c < 256)) = true) : Plain z := fun c hc => of_decide_eq_true (List.all_eq_true.mp h c hc)
theorem cut_le {z : Str} {lo hi : Option Int} {n : Nat} (h : z.length ≤ n) : (cutS z lo hi).length ≤ n := Nat.le_trans (cutS_length z lo hi) h
theorem add_len (x y : Str) : (x ++ y).length = x.length + y.length := by
  rw [len_tl, tl_append, List.length_append, ← len_tl, ← len_tl]
theorem join_sum (y : Str) : ∀ ws : List Str, (Txt.join y ws).length ≤ (ws.map (·.length)).sum + ws.length * y.length
  | [] => by
    rw [join_eq, len_tl, tl_join]
    exact Nat.zero_le _
  | [w] => by
    rw [join_eq, len_tl, tl_join]
    show (tl w).length ≤ _
    rw [← len_tl]
    simp
  | w :: v :: r => by
    have ih := join_sum y (v :: r)
    rw [join_eq, len_tl, tl_join] at ih ⊢
    show (tl w ++ (tl y ++ joinL (tl y) ((v :: r).map tl))).length ≤ _
    rw [List.length_append, List.length_append, ← len_tl, ← len_tl]
    have e : (w :: v :: r).length = (v :: r).length + 1 := rfl
    have e2 : ((w :: v :: r).map (fun x : Str => x.length)).sum = w.length + ((v :: r).map (fun x : Str => x.length)).sum := by simp only [List.map_cons, List.sum_cons]
    rw [e, Nat.succ_mul, e2]
    have ih' : (joinL (tl y) (tl v :: List.map tl r)).length ≤ ((v :: r).map (fun x : Str => x.length)).sum + (v :: r).length * y.length := ih
    omega
theorem pre_is (m c : Nat) (r : List Nat) : pre [m] (c :: r) = decide (c = m) := by
  by_cases h : c = m
  · subst h; simp [pre]
  · simp [pre, h]
/-- what a text is split into -/
theorem spl_facts (m : Nat) : ∀ (l acc : List Nat), 1 ≤ (spl [m] 0 acc l).length ∧ (spl [m] 0 acc l).length ≤ 1 + l.length ∧ ((spl [m] 0 acc l).map List.length).sum ≤ acc.length + l.length ∧ (∀ p ∈ spl [m] 0 acc l, ∀ c ∈ p, c ∈ acc ∨ (c ∈ l ∧ c ≠ m))
  | [], acc => by
    rw [spl_nil]
    exact ⟨by simp, by simp, by simp, fun p hp c hc => .inl (by rw [List.mem_singleton.mp hp] at hc; exact hc)⟩
  | c :: r, acc => by
    by_cases h : c = m
    · rw [spl_hit (by rw [pre_is, decide_eq_true h])]
      obtain ⟨a1, a2, a3, a4⟩ := spl_facts m r []
      show 1 ≤ (acc :: spl [m] 0 [] r).length ∧ (acc :: spl [m] 0 [] r).length ≤ _ ∧ ((acc :: spl [m] 0 [] r).map List.length).sum ≤ _ ∧ ∀ p ∈ acc :: spl [m] 0 [] r, _
      refine ⟨by simp, ?_, ?_, fun p hp d hd => ?_⟩
      · simp only [List.length_cons]; omega
      · simp only [List.map_cons, List.sum_cons, List.length_cons, List.length_nil] at a3 ⊢; omega
      · rcases List.mem_cons.mp hp with rfl | hp
        · exact .inl hd
        · rcases a4 p hp d hd with z | ⟨z, n⟩
          · cases z
          · exact .inr ⟨List.mem_cons_of_mem _ z, n⟩
    · rw [spl_miss (by rw [pre_is, decide_eq_false h])]
      obtain ⟨a1, a2, a3, a4⟩ := spl_facts m r (acc ++ [c])
      refine ⟨a1, ?_, ?_, fun p hp d hd => ?_⟩
      · simp only [List.length_cons]; omega
      · simp only [List.length_append, List.length_cons, List.length_nil] at a3 ⊢; omega
      · rcases a4 p hp d hd with z | ⟨z, n⟩
        · rcases List.mem_append.mp z with z | z
          · exact .inl z
          · rw [List.mem_singleton.mp z]; exact .inr ⟨List.mem_cons_self .., h⟩
        · exact .inr ⟨List.mem_cons_of_mem _ z, n⟩
theorem split_tl (z : Str) {m : Nat} (hm : m < 256) : (Txt.split z ⟨#[m]⟩).map tl = spl [m] 0 [] (tl z) := by
  rw [split_spl z ⟨#[m]⟩ (by show [m] ≠ []; simp) (kind_ok (by simp [hm]))]
theorem blank_is : (" " : Str) = ⟨#[32]⟩ := by decide +kernel
structure Splits (z : Str) (ws : List Str) : Prop where
  some_ : 1 ≤ ws.length
  few : ws.length ≤ 1 + z.length
  sum : (ws.map (·.length)).sum ≤ z.length
  mem : ∀ y ∈ ws, ∀ c ∈ tl y, c ∈ tl z ∧ c ≠ 32
theorem splits (z : Str) : Splits z (Txt.split z " ") := by
  have e := split_tl z (m := 32) (by decide)
  rw [← blank_is] at e
  obtain ⟨a1, a2, a3, a4⟩ := spl_facts 32 (tl z) []
  rw [← e] at a1 a2 a3 a4
  rw [List.length_map] at a1 a2
  refine ⟨a1, by rw [len_tl]; exact a2, ?_, fun y hy c hc => ?_⟩
  · have q : (Txt.split z " ").map (·.length) = ((Txt.split z " ").map tl).map List.length := by rw [List.map_map]; exact List.map_congr_left fun y _ => len_tl y
    rw [q, len_tl]
    simpa using a3
  · rcases a4 (tl y) (List.mem_map_of_mem hy) c hc with h | h
    · cases h
    · exact h
theorem mem_sum : ∀ {l : List Nat} {n : Nat}, n ∈ l → n ≤ l.sum
  | x :: r, n, h => by
    rw [List.sum_cons]
    rcases List.mem_cons.mp h with rfl | m
    · omega
    · have := mem_sum m; omega
theorem Splits.le {z : Str} {ws : List Str} (h : Splits z ws) {y : Str} (m : y ∈ ws) : y.length ≤ z.length := Nat.le_trans (mem_sum (List.mem_map_of_mem m)) h.sum
theorem Splits.plain {z : Str} {ws : List Str} (h : Splits z ws) (p : Plain z) {y : Str} (m : y ∈ ws) : Plain y := fun c hc => p c (h.mem y m c hc).1
/-- a joined line of words without blanks, split -/
theorem split_line {ws : List Str} (h1 : 1 ≤ ws.length) (h : ∀ y ∈ ws, 32 ∉ tl y) : Txt.split (Txt.join " " ws) " " = ws :=
  split_join (s := 32) (S := []) (by decide +kernel) (by decide +kernel) (fun e => by rw [e] at h1; simp at h1) h
end TS

/-! ### 31. a def that may raise, called by the names of its parameters -/
namespace TS
open PySem PySem.Spec PyProof.Rows L2
/-- a def and its promise, however it is called -/
def FnX (P : Program) (w : World) (K : PySem.W.Frag) (mg : Str → Option Value) (base : Heap) (k : Nat) (x : Str) (st : Stmt) (ps : List Str) (sp : Sp) : Prop :=
  ∃ f fd, FunD K x x (defArgs st) (defBody st) (defScope st) [] [] f fd ∧ mg x = some (.ref f) ∧ FnOk P w K mg base (L2.CX P w) k f fd ps sp
def PromXN (P : Program) (w : World) (K : PySem.W.Frag) (mg : Str → Option Value) (base : Heap) (k : Nat) (x : Str) (ps : List Str) (sp : Sp) (n : Nat) (ks : List Str) (gV : List V → List V → List V) : Prop :=
  ∃ f fd g, FnOk P w K mg base (L2.CX P w) k f fd ps sp ∧ mg x = some (.ref f) ∧ PySem.W.keepIn K (.ref f) = true ∧ KBn K fd ps n ks g gV
section
variable {P : Program} {w : World} {K : PySem.W.Frag} {mg : Str → Option Value} {base : Heap} {N ps ks : List Str} {k n : Nat} {sp : Sp} {x : Str} {st : Stmt}
theorem fnX_mk (D : Def K mg x st) (S : FnScope N ps (defScope st)) (len : ∀ vs H Q E, sp vs H Q E → vs.length = ps.length)
    (body : ∀ (f : Addr) (cdv : Value) (A : Around) (outer : List Env) (s : Shared) (H : Hp) (vs : List V) (Q : VK) (E : XK), Room k (A.deeper (envOfC x (defScope st) s.heap.objs.size f cdv)) → sp vs H Q E →
      ∃ t, PSs (cxOf (L2.CX P w) P w K mg base N x (defScope st) f cdv A outer s H E) (defBody st) t ∧ t { nx := fun _ G => Q .non G, rt := Q } (start N vs) H) : FnX P w K mg base (k + 1) x st ps sp := by
  obtain ⟨f, fd, F, m⟩ := D
  exact ⟨f, fd, F, m, F.ok S len (body f)⟩
theorem FnX.pos (h : FnX P w K mg base k x st ps sp)
    (hb : ∀ (kV doc pm : Value) (an : Option Addr) (cdv ct : Value) (us : List Value), us.length = ps.length → bindArgs (PySem.W.fnOf x x (defArgs st) (defBody st) (defScope st) .none kV doc pm an cdv ct) ⟨us, []⟩ = pure (ps.zip us)) : PromX P w K mg base k x ps sp := by
  obtain ⟨f, fd, F, m, o⟩ := h
  exact ⟨f, ⟨fd, o, F.bindsN hb⟩, m, F.kp⟩
theorem FnX.names (h : FnX P w K mg base k x st ps sp) (n : Nat) (ks : List Str) (g : {α : Type} → List α → List α → List α) (hrel : ∀ {vs zs : List V} {us ws : List Value}, Vals vs us → Vals zs ws → Vals (g vs zs) (g us ws))
    (hb : ∀ (kV doc pm : Value) (an : Option Addr) (cdv ct : Value) (us ws : List Value), us.length = n → ws.length = ks.length → bindArgs (PySem.W.fnOf x x (defArgs st) (defBody st) (defScope st) .none kV doc pm an cdv ct) ⟨us, ks.zip ws⟩ = pure (ps.zip (g us ws))) :
    PromXN P w K mg base k x ps sp n ks (fun vs zs => g vs zs) := by
  obtain ⟨f, fd, F, m, o⟩ := h
  refine ⟨f, fd, fun us ws => g us ws, o, m, F.kp, ?_, fun r1 r2 => hrel r1 r2⟩
  obtain ⟨oc, od, dV, kV, doc, pm, an, cdv, ct, osl, rfl, lk, hcd, hD, hK⟩ := F.ex
  rcases hD with ⟨_, rfl⟩ | ⟨e, _⟩
  · exact fun s us ws X l1 l2 => BindsTo.of_looks fun M => by rw [hb kV doc pm an cdv ct us ws l1 l2]; exact .now
  · exact absurd rfl e
end
section
variable {X : Cx} {k : Nat} {ps ks : List Str} {sp : Sp} {W : WX} {x : Str} {p pos : Pos} {kws : List Keyword} {tk : TA} {gV : List V → List V → List V}
theorem pe_pcXN (pr : PromXN X.prog X.w X.K X.mg X.base k x ps sp 0 ks gV) (tkn : Takes X W) (hr : Room k X.A) (hg : Gl X x) (hkw : PK X kws tk)
    (hall : (backToKw pos (keywordEach kws X.env)).all (·.1.isSome) = true := by rfl) (hks : (backToKw pos (keywordEach kws X.env)).filterMap (·.1) = ks := by rfl) (hdb : (x == ("__debug__" : Str)) = false := by decide)
    (hpl : ((backTo pos (starEach [] X.env)).any (·.1) || (backToKw pos (keywordEach kws X.env)).any (·.1.isNone)) = false := by rfl) :
    PE X (.Call (.Name x p) [] kws pos) (fun σ H Q => tk σ H fun zs H1 => zs.length = ks.length ∧ sp (gV [] zs) H1 Q (WE W σ)) := by
  obtain ⟨f, fd, g, F, hm, kp, b⟩ := pr
  refine ⟨fun pins s σ H Q J h => wpAny_Call_Name_kw (ld_glob J hg hm ?_ hdb)⟩
  refine PySem.W.callWith_KW0 (h₀ := X.base) J.ok.mod.kin kp hall ?_ hpl
  refine thn (hkw.run pos pins s σ H _ J h) fun ws s2 ⟨zs, H2, J2, rz, l2, q2⟩ => ⟨J2.kIn, ?_⟩
  rw [hks]
  refine wpAny_call (codeAny_mono (F.run X.A X.stack s2 H2 ⟨[], ks.zip ws⟩ (g [] ws) (gV [] zs) Q (WE W σ) hr J2.env0 (b.to s2 [] ws J2.kIn rfl (rz.length.symm.trans l2)) (b.rel .nil rz) q2) fun o t z => ?_)
  match o, z with
  | .error e, z => exact passAt tkn σ pins _ _ e t J2 z
  | .ok (.ret u), z => exact J2.after z
end
end TS

/-! ### 32. data that may be compared -/
namespace TS
open PySem PySem.Spec PyProof.Rows L2 TL
mutual
theorem Dt.dp {K : PySem.W.Frag} {H : Hp} : ∀ {v : V} {d : PyData}, Dt K H v d → d.canLay0 = true → Dp K H v d
  | _, _, .non, _ => .non
  | _, _, .bl b, _ => .bl b
  | _, _, .int i, _ => .int i
  | _, _, .str x, _ => .str x
  | _, _, .lst h a, c => .lst h (DtAll.dp a (by simpa [PyData.canLay0] using c))
  | _, _, .tup h a, c => .tup h (DtAll.dp a (by simpa [PyData.canLay0] using c))
  | _, _, .dct _ _ _, c => by simp [PyData.canLay0] at c
theorem DtAll.dp {K : PySem.W.Frag} {H : Hp} : ∀ {v : List V} {d : List PyData}, DtAll K H v d → PyData.canLayAll0 d = true → DpAll K H v d
  | _, _, .nil, _ => .nil
  | _, _, .cons a b, c => by
    unfold PyData.canLayAll0 at c
    obtain ⟨c1, c2⟩ := Bool.and_eq_true_iff.mp c
    exact .cons (Dt.dp a c1) (DtAll.dp b c2)
end
theorem lay_all : ∀ {ds : List PyData}, (∀ e ∈ ds, e.canLay0 = true) → PyData.canLayAll0 ds = true
  | [], _ => rfl
  | e :: r, h => by unfold PyData.canLayAll0; rw [h e (by simp), lay_all fun x m => h x (List.mem_cons_of_mem _ m)]; rfl
theorem shaped_list {ds : List PyData} (h : ∀ e ∈ ds, e.canLay0 = true ∧ e.depth ≤ 30) : SeqAt.shaped (.list ds) = true := by
  unfold SeqAt.shaped
  rw [show (PyData.list ds).canLay0 = true by unfold PyData.canLay0; exact lay_all fun e m => (h e m).1, Bool.true_and]
  refine decide_eq_true ?_
  unfold PyData.depth
  have := all_deep fun e m => (h e m).2
  omega
theorem eqvAll_nil (l : List PyData) : PyData.eqv (.list l) (.list []) = l.isEmpty := by
  unfold PyData.eqv
  cases l <;> rfl
theorem dt_strs {K : PySem.W.Frag} {G : Hp} : ∀ zs : List Str, DtAll K G (zs.map V.str) (zs.map PyData.str)
  | [] => .nil
  | z :: r => .cons (.str z) (dt_strs r)
theorem eqv_strs2 : ∀ zs ys : List Str, PyData.eqvAll (zs.map PyData.str) (ys.map PyData.str) = decide (zs = ys)
  | [], [] => rfl
  | [], y :: r => rfl
  | z :: r, [] => rfl
  | z :: r, y :: t => by
    show ((z == y) && PyData.eqvAll (r.map PyData.str) (t.map PyData.str)) = _
    rw [eqv_strs2 r t]
    by_cases h : z = y
    · subst h; simp
    · have e : (z == y) = false := by simpa using h
      rw [e]; simp [h]
def Lays (zs : List Str) : Prop := ∀ z ∈ zs, (PyData.str z).canLay0 = true
theorem Lays.all {zs : List Str} (h : Lays zs) : ∀ e ∈ zs.map PyData.str, e.canLay0 = true ∧ e.depth ≤ 30 := fun e he => by
  obtain ⟨z, hz, rfl⟩ := List.mem_map.mp he
  exact ⟨h z hz, Nat.zero_le _⟩
theorem Lays.of_plain {zs : List Str} (h : ∀ z ∈ zs, Plain z) : Lays zs := fun z hz => by
  show z.cps.all (· < 0x110000) = true
  rw [← Array.all_toList, List.all_eq_true]
  exact fun c m => decide_eq_true (Nat.lt_of_lt_of_le (h z hz c m) (by decide))
/-- two lists of texts, compared -/
theorem strs_eq {K : PySem.W.Frag} {G : Hp} {a b : Addr} {zs ys : List Str} {Q : VK} (ha : SqL K G a (zs.map V.str)) (hb : SqL K G b (ys.map V.str)) (lz : Lays zs) (ly : Lays ys) (q : Q (.bl (decide (zs = ys))) G) : rEqD K (.ref a) (.ref b) G Q := by
  refine ⟨.list (zs.map .str), .list (ys.map .str), Dp.lst ha ((dt_strs zs).dp (lay_all fun e he => (lz.all e he).1)), Dp.lst hb ((dt_strs ys).dp (lay_all fun e he => (ly.all e he).1)), shaped_list lz.all, shaped_list ly.all, ?_⟩
  have e : PyData.eqv (.list (zs.map PyData.str)) (.list (ys.map PyData.str)) = decide (zs = ys) := by
    unfold PyData.eqv
    exact eqv_strs2 zs ys
  rw [e]
  exact q
theorem strs_ne {K : PySem.W.Frag} {G : Hp} {a b : Addr} {zs ys : List Str} {Q : VK} (ha : SqL K G a (zs.map V.str)) (hb : SqL K G b (ys.map V.str)) (lz : Lays zs) (ly : Lays ys) (q : Q (.bl (!decide (zs = ys))) G) : rNeD K (.ref a) (.ref b) G Q := by
  refine ⟨.list (zs.map .str), .list (ys.map .str), Dp.lst ha ((dt_strs zs).dp (lay_all fun e he => (lz.all e he).1)), Dp.lst hb ((dt_strs ys).dp (lay_all fun e he => (ly.all e he).1)), shaped_list lz.all, shaped_list ly.all, ?_⟩
  have e : PyData.eqv (.list (zs.map PyData.str)) (.list (ys.map PyData.str)) = decide (zs = ys) := by
    unfold PyData.eqv
    exact eqv_strs2 zs ys
  rw [e]
  exact q
end TS

/-! ### 33. own ==, !=, in: K named -/
namespace TS
open PySem PySem.Spec PyProof.Rows L2
/-- an instance with anything, or data with an instance -/
def rEqLR (K : PySem.W.Frag) (C : Addr) (sp : Sp) : R2 := fun x y H Q => rEqL K C sp x y H Q ∨ rEqR K C sp x y H Q
/-- data with an instance of C, or an instance of C2 with anything -/
def rEqRW (K : PySem.W.Frag) (C C2 : Addr) (sp sp2 : Sp) : R2 := fun x y H Q => rEqR K C sp x y H Q ∨ rEqL K C2 sp2 x y H Q
section
variable {X : Cx} {K : PySem.W.Frag} {k k2 : Nat} {C C2 f f2 : Addr} {ps ps2 : List Str} {sp sp2 : Sp}
theorem op_eqLR (M : Meth K C "__eq__" f) (ap : ApK K C) (pr : PromA CX0 X.prog X.w K X.mg X.base k f ps sp) (hr : Room k X.A) (hK : X.K = K := by rfl) : OpR X (compareOp .Eq) (rEqLR K C sp) := by
  subst hK
  exact EqP.op (EqP.or (eq_left M ap pr (Plc.own hr)) (eq_right M ap pr (Plc.own hr)))
theorem op_eqRW (M : Meth K C "__eq__" f) (ap : ApK K C) (pr : PromA CX0 X.prog X.w K X.mg X.base k f ps sp) (hr : Room k X.A) (M2 : Meth K C2 "__eq__" f2) (ap2 : ApK K C2) (pr2 : PromA CX0 X.prog X.w K X.mg X.base k2 f2 ps2 sp2) (hr2 : Room k2 X.A) (hK : X.K = K := by rfl) :
    OpR X (compareOp .Eq) (rEqRW K C C2 sp sp2) := by
  subst hK
  exact EqP.op (EqP.or (eq_right M ap pr (Plc.own hr)) (eq_left M2 ap2 pr2 (Plc.own hr2)))
theorem op_neLK (M : Meth K C "__eq__" f) (N : NeC K C) (ap : ApK K C) (pr : PromA CX0 X.prog X.w K X.mg X.base k f ps sp) (hr : Room (k + 1) X.A) (hK : X.K = K := by rfl) : OpR X (compareOp .NotEq) (rNeL K C sp) := by
  subst hK
  exact op_neL M N ap pr hr
theorem op_inLR (M : Meth K C "__eq__" f) (ap : ApK K C) (pr : PromA CX0 X.prog X.w K X.mg X.base k f ps sp) (hr : Room (k + 1) X.A) (hK : X.K = K := by rfl) : OpR X (compareOp .In) (rInO (rEqLR K C sp)) := by
  subst hK
  exact op_inO (EqP.or (eq_left M ap pr (Plc.own hr).in1) (eq_right M ap pr (Plc.own hr).in1))
end
end TS

/-! ### 34. a text many times -/
namespace TS
open PySem PySem.Spec PyProof.Rows L2 TL
theorem rep_size (z : Array Nat) : ∀ (n : Nat) (acc : Array Nat), ((List.replicate n z).foldl (· ++ ·) acc).size = acc.size + z.size * n
  | 0, acc => by simp
  | n + 1, acc => by
    rw [List.replicate_succ, List.foldl_cons, rep_size z n, Array.size_append, Nat.mul_succ]
    omega
section
variable {X : Cx}
/-- a text many times -/
def rRepS : R2 := fun x y H Q => ∃ (z : Str) (n : Nat), x = .str z ∧ y = .int n ∧ 2 ≤ n ∧ z.length ≠ 0 ∧ z.length * n ≤ 100000 ∧ Q (.str ⟨(List.replicate n z.cps).foldl (· ++ ·) #[]⟩) H
theorem op_repS : OpR X (binaryOp .Mult) rRepS := by
  intro pins s σ H x y v u Q I rx ry h
  obtain ⟨z, n, rfl, rfl, hn, hz, hl, q⟩ := h
  obtain ⟨t, rfl⟩ := rx
  obtain ⟨t', rfl⟩ := ry
  have hn1 : n ≤ z.length * n := Nat.le_mul_of_pos_left _ (by omega)
  have e1 : ((n : Int) == 1 || z.length == 0) = false := by
    have h1 : ((n : Int) == 1) = false := beq_eq_false_iff_ne.mpr (by omega)
    have h2 : (z.length == 0) = false := beq_eq_false_iff_ne.mpr hz
    rw [h1, h2]; rfl
  have hnn : ¬ (n : Int) < 1 := by omega
  refine PySem.P.mul_str ?_ (fun _ _ => ?_) (fun _ _ => ?_) ?_
  · rw [decide_eq_false (by omega), decide_eq_false (by omega)]; rfl
  · have h3 : (1 : Int) ≤ n := by omega
    have h4 : (z.length : Int) ≤ 100000 := by
      have := Nat.le_mul_of_pos_right z.length (show 0 < n by omega)
      omega
    have h5 : (n : Int) ≤ 100000 := by omega
    have h6 : (2 ^ 63 - 1 : Int) / 100000 ≤ (2 ^ 63 - 1) / n := by
      rw [Int.le_ediv_iff_mul_le (by omega)]
      have h7 : (2 ^ 63 - 1 : Int) / 100000 * n ≤ (2 ^ 63 - 1 : Int) / 100000 * 100000 := Int.mul_le_mul_of_nonneg_left h5 (by decide)
      have h8 : (2 ^ 63 - 1 : Int) / 100000 * 100000 ≤ 2 ^ 63 - 1 := by decide
      omega
    have h9 : (100000 : Int) ≤ (2 ^ 63 - 1 : Int) / 100000 := by decide
    omega
  · unfold PySem.Builtin.Str.tooLong
    rw [Int.toNat_natCast]
    exact decide_eq_false (by have := Nat.le_trans hl (show 100000 ≤ sizeLine by decide); omega)
  · rw [if_neg hnn, e1, if_neg Bool.false_ne_true]
    refine ⟨?_, ⟨.str _, H, I.tok _, ⟨_, by rw [Int.toNat_natCast]⟩, q⟩⟩
    rw [Int.toNat_natCast]
    refine Nat.le_trans (Nat.le_trans (Nat.le_of_eq ?_) hl) (show 100000 ≤ sizeLine by decide)
    show ((List.replicate n z.cps).foldl (· ++ ·) #[]).size = z.length * n
    rw [rep_size]
    simp
    rfl
end

end TS

namespace TS
open PySem PySem.Spec PyProof.Rows L2 TL
def top (i : Nat) : Stmt := PySem.Challenge.pw_termshelf_k12_terms_read_and_compared.main.body.getD i (.Pass ⟨0, 0, 0, 0⟩)

/-! ### marks: whole numbers, names -/
def wholeD (lo hi : Int) : PyData → Bool
  | .int i => decide (lo ≤ i) && decide (i ≤ hi)
  | _ => false
def smallS (z : Str) : Bool := z.cps.toList.all fun c => decide (97 ≤ c) && decide (c ≤ 122)
def nameS (z : Str) : Bool := decide (1 ≤ z.length) && decide (z.length ≤ 8) && smallS z
def nameD : PyData → Bool
  | .str z => nameS z
  | _ => false
def SMALLs : Str := "abcdefghijklmnopqrstuvwxyz"
theorem in_small (c : Nat) : decide (c ∈ SMALLs.cps.toList) = (decide (97 ≤ c) && decide (c ≤ 122)) := by
  have e : SMALLs.cps.toList = (List.range 26).map (· + 97) := by decide +kernel
  rw [e]
  by_cases h : 97 ≤ c ∧ c ≤ 122
  · rw [decide_eq_true h.1, decide_eq_true h.2]
    exact decide_eq_true (List.mem_map.mpr ⟨c - 97, List.mem_range.mpr (by omega), by omega⟩)
  · have n : c ∉ (List.range 26).map (· + 97) := fun m => by
      obtain ⟨k, hk, rfl⟩ := List.mem_map.mp m
      have := List.mem_range.mp hk
      omega
    rw [decide_eq_false n]
    by_cases h1 : 97 ≤ c
    · rw [decide_eq_true h1, decide_eq_false (fun h2 => h ⟨h1, h2⟩)]; rfl
    · rw [decide_eq_false h1]; rfl
theorem sz5' {n : Nat} (h : n ≤ 100000) : n < sizeLine := Nat.lt_of_le_of_lt h (by decide)
theorem sz5 {n : Nat} (h : n ≤ 100000) : n ≤ sizeLine := Nat.le_trans h (by decide)
theorem take_map {α β : Type} (f : α → β) {l : List α} {i : Nat} {c : α} (h : l[i]? = some c) : (l.take (i + 1)).map f = (l.take i).map f ++ [f c] := by
  rw [List.take_add_one, h, List.map_append]
  rfl
/-- a comprehension over a text's signs, one value a sign -/
theorem lc_signs {z : Str} {g : TG} {te : TE} {vs : List Nat} {σ : L2.St} {H1 : Hp} {D : Addr} {Qd : Hp → Prop} (f : Nat → V) (hz : z.length ≤ 100000) (hs : ∀ c H' (C : VK), C (f c) H' → g (.str ⟨#[c]⟩) (wipe σ vs) H' fun σ2 H2 => wipe σ2 vs = wipe σ vs ∧ te σ2 H2 C)
    (hd : Qd (L2.upd H1 D (.lst ((tl z).map f)))) (hg : ∀ x σ H C C', (∀ s h, C s h → C' s h) → g x σ H C → g x σ H C') :
    ∃ W : Nat → Nat → Hp → Prop, (∃ m, W 0 m (L2.upd H1 D (.lst []))) ∧ ∀ i m H, W i m H →
      ((Its z).stop i H ∧ Qd H) ∨ ((Its z).go i H ∧ ∃ Nx : Hp → Prop, (∀ H', Nx H' → ∃ m', m' < m ∧ W (i + 1) m' H') ∧ ∀ x H', (Its z).yld i H x H' → g x (wipe σ vs) H' fun σ2 H2 => wipe σ2 vs = wipe σ vs ∧ tYes σ2 H2 fun b H3 =>
        if b = true then te σ2 H3 fun y H4 => ∃ acc, H4 D = some (.lst acc) ∧ acc.length < sizeLine ∧ Nx (L2.upd H4 D (.lst (acc ++ [y]))) else Nx H3) := by
  refine lc_it walk_str (fun i H' => H' = L2.upd H1 D (.lst (((tl z).take i).map f))) rfl (fun _ _ _ _ => trivial) ?_ ?_
  · rintro i x H2 H3 hi rfl ⟨rfl, c, hc, rfl⟩
    have hc' : (tl z)[i]? = some c := by rw [← hc]; simp [tl]
    refine hg _ _ _ _ _ (fun s h q => ⟨q.1, by
      unfold tYes
      dsimp only
      rw [if_pos rfl]
      exact q.2⟩) (hs c _ (fun y H4 => ∃ acc, H4 D = some (.lst acc) ∧ acc.length < sizeLine ∧ L2.upd H4 D (.lst (acc ++ [y])) = L2.upd H1 D (.lst (((tl z).take (i + 1)).map f))) ⟨_, upd_same, ?_, ?_⟩)
    · refine sz5' ?_
      rw [len_tl] at hz
      rw [List.length_map, List.length_take]
      omega
    · rw [upd_upd, take_map f hc']
  · rintro H2 rfl
    have e : (tl z).take z.cps.size = tl z := List.take_of_length_le (by simp [tl])
    rw [e]
    exact hd
theorem gName_mono {i : Nat} (x : V) (σ : L2.St) (H : Hp) (C C' : L2.St → Hp → Prop) (h : ∀ s h, C s h → C' s h) (q : gName i x σ H C) : gName i x σ H C' := h _ _ q
def spWhole (K : PySem.W.Frag) : Sp := fun vs H Q _ => ∃ (x : V) (d : PyData) (lo hi : Int), vs = [x, .int lo, .int hi] ∧ Dt K H x d ∧ Q (.bl (wholeD lo hi d)) H
def spName (K : PySem.W.Frag) : Sp := fun vs H Q _ => ∃ (x : V) (d : PyData), vs = [x] ∧ Dt K H x d ∧ (∀ z, d = .str z → z.length ≤ 100000) ∧ ∀ H', Same H H' → Q (.bl (nameD d)) H'
section
variable {P : Program} {w : World} {K : PySem.W.Frag} {mg : Str → Option Value} {base : Heap}
abbrev s_is_whole : Stmt := top 19
theorem sc_is_whole : FnScope ["thing", "low", "high"] ["thing", "low", "high"] (defScope s_is_whole) := ⟨rfl, rfl, rfl, by decide +kernel, rfl, by decide +kernel, by decide +kernel⟩

theorem ok_is_whole (bt : Bt mg) (D : Def K mg "is_whole" s_is_whole) : Prom P w K mg base 1 "is_whole" ["thing", "low", "high"] (spWhole K) := by
  refine prom_mk D sc_is_whole (fun vs H Q E h => ?_) (fun _ _ _ _ _ _ us hl => match us, hl with | [_, _, _], _ => rfl) (fun f cdv A outer s H vs Q E hr h => ?_)
  · obtain ⟨x, d, lo, hi, rfl, _⟩ := h
    rfl
  · obtain ⟨x, d, lo, hi, rfl, hd, q⟩ := h
    refine ⟨_, (pss_one (ps_ret (pe_and (pe_callB (id := "isinstance") (isiK (K := K)) (by rfl) bt.isinstance_ (by decide +kernel) (pa_cons (pv 0) (pa_cons (pe_bltn (v := .ty "int") rfl bt.int_ (by decide +kernel) rfl) pa_nil))) (pe_and (pe_not (pe_callB (id := "isinstance") (isiK (K := K)) (by rfl) bt.isinstance_ (by decide +kernel) (pa_cons (pv 0) (pa_cons (pe_bltn (v := .ty "bool") rfl bt.bool_ (by decide +kernel) rfl) pa_nil)))) (pe_one (pe_chain op_le op_le (pv 1) (pv 0) (pv 2))))))), ?_⟩
    refine ⟨_, rfl, _, _, _, _, isD "int" d, rfl, .ty "int", hd.ty, isi_int, _, rfl, ite2 (fun c => ?_) (fun c => ?_)⟩
    · refine ⟨_, rfl, _, _, _, _, isD "bool" d, rfl, .ty "bool", hd.ty, isi_bool, _, rfl, _, rfl, ?_⟩
      rcases isD_int c with ⟨i, rfl⟩ | ⟨b, rfl⟩
      · cases hd
        rw [isD_intb]
        refine iteT ⟨_, rfl, _, rfl, _, _, rfl, rfl, _, rfl, ?_⟩
        replace q : Q (.bl (decide (lo ≤ i) && decide (i ≤ hi))) H := q
        by_cases h1 : lo ≤ i
        · rw [decide_eq_true h1] at q ⊢
          exact iteT ⟨_, rfl, _, _, rfl, rfl, q⟩
        · rw [decide_eq_false h1] at q ⊢
          exact iteF q
      · rw [isD_bools]
        exact iteF q
    · have e : wholeD lo hi d = false := by
        cases d <;> first | rfl | exact absurd (isD_ints _) c
      rw [e] at q
      exact q
abbrev s_is_name : Stmt := top 20
theorem sc_is_name : FnScope ["thing", "sign"] ["thing"] (defScope s_is_name) := ⟨rfl, rfl, rfl, by decide +kernel, rfl, by decide +kernel, by decide +kernel⟩

theorem ok_is_name (bt : Bt mg) (k_MOST_SIGNS_marks : ∃ t, mg "MOST_SIGNS_marks" = some (.int 8 t)) (k_SMALL : ∃ t, mg "SMALL" = some (.str "abcdefghijklmnopqrstuvwxyz" t)) (D : Def K mg "is_name" s_is_name) : Prom P w K mg base 1 "is_name" ["thing"] (spName K) := by
  obtain ⟨t_MOST_SIGNS_marks, c_MOST_SIGNS_marks⟩ := k_MOST_SIGNS_marks
  obtain ⟨t_SMALL, c_SMALL⟩ := k_SMALL
  refine prom_mk D sc_is_name (fun vs H Q E h => ?_) (fun _ _ _ _ _ _ us hl => match us, hl with | [_], _ => rfl) (fun f cdv A outer s H vs Q E hr h => ?_)
  · obtain ⟨x, d, rfl, _⟩ := h
    rfl
  · obtain ⟨x, d, rfl, hd, hz, q⟩ := h
    refine ⟨_, (pss_cons (ps_if (PW.pt (pw_or (pt_not (pt_val (pe_callB (id := "isinstance") (isiK (K := K)) (by rfl) bt.isinstance_ (by decide +kernel) (pa_cons (pv 0) (pa_cons (pe_bltn (v := .ty "str") rfl bt.str_ (by decide +kernel) rfl) pa_nil))))) (pw_or1 (pt_not (pt_chain op_le op_le pe_int (pe_callB (id := "len") (lenK (K := K)) (by rfl) bt.len_ (by decide +kernel) (pa_cons (pv 0) pa_nil)) (pe_glob (v := .int 8) rfl c_MOST_SIGNS_marks ⟨_, rfl⟩)))))) (pss_one (ps_ret pe_bl)) pss_nil)
      (pss_one (ps_ret (pe_callB (id := "all") (allK (K := K) rfl) (by rfl) bt.all_ (by decide +kernel) (pa_cons (pe_lc (own := [("sign", 1)]) (g := gName 1) rfl sc_is_name.nd (pi_str (pv 0)) (blkOk_by (N := ["thing", "sign"]) (sc := defScope s_is_name) (by decide +kernel)) (fun _ _ _ _ _ => (pg_name (i := 1) sc_is_name.nd rfl (Or.inl rfl))) (fun _ _ _ _ _ => pts_nil) (fun _ _ _ _ _ => (pe_cmpR op_in_sign (pv 1) (pe_glob (v := .str "abcdefghijklmnopqrstuvwxyz") rfl c_SMALL ⟨_, rfl⟩) rfl))) pa_nil))))), ?_⟩
    refine ⟨_, rfl, _, _, _, _, isD "str" d, rfl, .ty "str", hd.ty, isi_str, _, rfl, ?_⟩
    cases c : isD "str" d with
    | false =>
      have e : nameD d = false := by
        cases d <;> first | rfl | (rw [isD_strs] at c; cases c)
      rw [e] at q
      exact iteT (iteT (q _ (Same.refl _)))
    | true =>
      obtain ⟨z, rfl⟩ := isD_str c
      cases hd
      have hz' := hz z rfl
      refine iteF ⟨_, rfl, _, _, rfl, ⟨sz5 hz', rfl⟩, _, _, rfl, rfl, _, rfl, ?_⟩
      replace q : ∀ G, Same H G → Q (.bl (nameS z)) G := q
      unfold nameS at q
      by_cases h1 : 1 ≤ z.length
      · rw [decide_eq_true (show (1 : Int) ≤ (z.length : Nat) by omega)]
        rw [decide_eq_true h1] at q
        refine iteT ⟨_, _, rfl, rfl, _, rfl, ?_⟩
        by_cases h2 : z.length ≤ 8
        · rw [decide_eq_true (show ((z.length : Nat) : Int) ≤ 8 by omega)]
          rw [decide_eq_true h2] at q
          refine iteF ⟨_, rfl, z, rfl, fun L hL => ?_⟩
          refine lc_signs (fun c => V.bl (decide (c ∈ SMALLs.cps.toList))) hz' (fun c G C qq => ⟨rfl, _, rfl, c, SMALLs, rfl, rfl, qq⟩) ?_ gName_mono
          refine ⟨L, (tl z).map fun c => decide (c ∈ SMALLs.cps.toList), rfl, .inl (.inl (by rw [upd_same, List.map_map]; rfl)), ?_⟩
          have e : ((tl z).map fun c => decide (c ∈ SMALLs.cps.toList)).all id = smallS z := by
            rw [List.all_map]
            unfold smallS
            show (tl z).all _ = (tl z).all _
            congr 1
            funext c
            exact in_small c
          rw [e]
          exact q _ (Same.new (Same.refl _) hL)
        · rw [decide_eq_false (show ¬ ((z.length : Nat) : Int) ≤ 8 by omega)]
          rw [decide_eq_false h2] at q
          exact iteT (q _ (Same.refl _))
      · rw [decide_eq_false (show ¬ (1 : Int) ≤ (z.length : Nat) by omega)]
        rw [decide_eq_false h1] at q
        exact iteF ⟨_, rfl, iteT (q _ (Same.refl _))⟩
end

end TS

namespace TS
open PySem PySem.Spec PyProof.Rows L2 TL

/-! ### rows of words -/
def rowD : PyData → Bool
  | .tuple [a, b] => nameD a && wholeD 0 4 b
  | _ => false
theorem weight_mem : ∀ {ds : List PyData} {d : PyData}, d ∈ ds → d.weight ≤ PyData.weightAll ds
  | x :: r, d, h => by
    unfold PyData.weightAll
    rcases List.mem_cons.mp h with e | m
    · rw [e]; omega
    · have := weight_mem m; omega
theorem weight_tup {ds : List PyData} {d : PyData} {n : Nat} (h : (PyData.tuple ds).weight ≤ n) (m : d ∈ ds) : d.weight ≤ n := by
  unfold PyData.weight at h
  exact Nat.le_trans (weight_mem m) h
theorem weight_list {ds : List PyData} {d : PyData} {n : Nat} (h : (PyData.list ds).weight ≤ n) (m : d ∈ ds) : d.weight ≤ n := by
  unfold PyData.weight at h
  exact Nat.le_trans (weight_mem m) h
theorem weight_strD {d : PyData} {n : Nat} (h : d.weight ≤ n) : ∀ z, d = .str z → z.length ≤ n := fun z e => by
  rw [e] at h
  unfold PyData.weight at h
  exact h
theorem iteT' {b : Bool} {A B : Prop} (h : b = true) (a : A) : if b = true then A else B := by rw [h]; exact iteT a
theorem iteF' {b : Bool} {A B : Prop} (h : b = false) (a : B) : if b = true then A else B := by rw [h]; exact iteF a
theorem neV_int {i j : Int} : (!decide (V.int i = V.int j)) = !decide (i = j) := by
  by_cases h : i = j
  · rw [h]; simp
  · rw [decide_eq_false h, decide_eq_false (fun z => h (V.int.inj z))]
theorem eqV_int {i j : Int} : decide (V.int i = V.int j) = decide (i = j) := by
  by_cases h : i = j
  · rw [h]; simp
  · rw [decide_eq_false h, decide_eq_false (fun z => h (V.int.inj z))]
theorem two_of {α : Type} {l : List α} (h : l.length = 2) : ∃ a b, l = [a, b] := match l, h with | [a, b], _ => ⟨a, b, rfl⟩
def spRow (K : PySem.W.Frag) : Sp := fun vs H Q _ => ∃ (x : V) (d : PyData), vs = [x] ∧ Dt K H x d ∧ d.weight ≤ 100000 ∧ ∀ H', Same H H' → Q (.bl (rowD d)) H'
section
variable {P : Program} {w : World} {K : PySem.W.Frag} {mg : Str → Option Value} {base : Heap}
abbrev s_is_row : Stmt := top 27
theorem sc_is_row : FnScope ["thing"] ["thing"] (defScope s_is_row) := ⟨rfl, rfl, rfl, by decide +kernel, rfl, by decide +kernel, by decide +kernel⟩

theorem ok_is_row (bt : Bt mg) (k_MOST_PLACES : ∃ t, mg "MOST_PLACES" = some (.int 4 t)) (p_is_name : Prom P w K mg base 1 "is_name" ["thing"] (spName K)) (p_is_whole : Prom P w K mg base 1 "is_whole" ["thing", "low", "high"] (spWhole K)) (D : Def K mg "is_row" s_is_row) :
    Prom P w K mg base 2 "is_row" ["thing"] (spRow K) := by
  obtain ⟨t_MOST_PLACES, c_MOST_PLACES⟩ := k_MOST_PLACES
  refine prom_mk D sc_is_row (fun vs H Q E h => ?_) (fun _ _ _ _ _ _ us hl => match us, hl with | [_], _ => rfl) (fun f cdv A outer s H vs Q E hr h => ?_)
  · obtain ⟨x, d, rfl, _⟩ := h
    rfl
  · obtain ⟨x, d, rfl, hd, hw, q⟩ := h
    refine ⟨_, (pss_cons (ps_if (PW.pt (pw_or (pt_not (pt_val (pe_callB (id := "isinstance") (isiK (K := K)) (by rfl) bt.isinstance_ (by decide +kernel) (pa_cons (pv 0) (pa_cons (pe_bltn (v := .ty "tuple") rfl bt.tuple_ (by decide +kernel) rfl) pa_nil))))) (pw_or1 (pt_cmpR op_ne (pe_callB (id := "len") (lenK (K := K)) (by rfl) bt.len_ (by decide +kernel) (pa_cons (pv 0) pa_nil)) pe_int (nomark _))))) (pss_one (ps_ret pe_bl)) pss_nil)
      (pss_one (ps_ret (pe_and (pe_pc p_is_name (hr.mono (by decide)) rfl (pa_cons (pe_ix (ix_tupK (K := K)) (pv 0) pe_int (fun _ _ => rfl)) pa_nil)) (pe_one (pe_pc p_is_whole (hr.mono (by decide)) rfl (pa_cons (pe_ix (ix_tupK (K := K)) (pv 0) pe_int (fun _ _ => rfl)) (pa_cons pe_int (pa_cons (pe_glob (v := .int 4) rfl c_MOST_PLACES ⟨_, rfl⟩) pa_nil))))))))), ?_⟩
    refine ⟨_, rfl, _, _, _, _, isD "tuple" d, rfl, .ty "tuple", hd.ty, isi_tuple, _, rfl, ?_⟩
    cases c : isD "tuple" d with
    | false =>
      have e : rowD d = false := by
        cases d <;> first | rfl | (rw [isD_tuples] at c; cases c)
      rw [e] at q
      exact iteT (iteT (q _ (Same.refl _)))
    | true =>
      obtain ⟨l, rfl⟩ := isD_tuple c
      obtain ⟨a, xs, rfl, hT, hA⟩ := hd.tup_inv
      have hl := hA.length
      refine iteF ⟨_, rfl, _, _, rfl, .inr ⟨xs, hT, rfl⟩, rfl, _, rfl, ?_⟩
      rw [neV_int]
      by_cases h2 : l.length = 2
      · obtain ⟨d0, d1, rfl⟩ := two_of h2
        obtain ⟨x0, x1, rfl⟩ := two_of (hl.trans h2)
        cases hA with
        | cons h0 t => cases t with
        | cons h1 t =>
        refine iteF' rfl ?_
        refine ⟨_, rfl, a, _, _, x0, rfl, rfl, hT, rfl, x0, d0, rfl, h0, weight_strD (weight_tup hw (by simp)), fun G sG => ⟨_, rfl, ?_⟩⟩
        replace q : ∀ G, Same H G → Q (.bl (nameD d0 && wholeD 0 4 d1)) G := q
        cases hn : nameD d0 with
        | false =>
          rw [hn] at q
          exact iteF (q G sG)
        | true =>
          rw [hn] at q
          exact iteT ⟨_, rfl, a, _, _, x1, rfl, rfl, SqT.same sG hT, rfl, x1, d1, _, _, rfl, Dt.same sG h1, q G sG⟩
      · have e : rowD (.tuple l) = false := by
          match l, h2 with
          | [], _ => rfl
          | [_], _ => rfl
          | [_, _], h => exact absurd rfl h
          | _ :: _ :: _ :: _, _ => rfl
        rw [e] at q
        refine iteT' ?_ (q _ (Same.refl _))
        rw [decide_eq_false (show ¬ ((xs.length : Nat) : Int) = 2 by omega)]
        rfl
end

end TS

namespace TS
open PySem PySem.Spec PyProof.Rows L2 TL

/-! ### lists of rows -/
def nmOf : PyData → Str
  | .tuple (.str z :: _) => z
  | _ => ""
/-- how many unlike ones -/
def dc : List Str → Nat
  | [] => 0
  | x :: r => if x ∈ r then dc r else dc r + 1
theorem dc_le : ∀ l : List Str, dc l ≤ l.length
  | [] => Nat.le_refl _
  | x :: r => by
    unfold dc
    have := dc_le r
    split <;> simp only [List.length_cons] <;> omega
theorem dc_nodup : ∀ l : List Str, dc l = l.length ↔ l.Nodup
  | [] => by simp [dc]
  | x :: r => by
    have := dc_le r
    rw [List.nodup_cons, ← dc_nodup r, show dc (x :: r) = if x ∈ r then dc r else dc r + 1 from rfl]
    split
    · rename_i h
      simp only [List.length_cons]
      constructor
      · intro z; omega
      · intro z; exact absurd h z.1
    · rename_i h
      simp only [List.length_cons]
      constructor
      · intro z; exact ⟨h, by omega⟩
      · intro z; omega
theorem nodup_rev {l : List Str} : l.reverse.Nodup ↔ l.Nodup := by
  unfold List.Nodup
  rw [List.pairwise_reverse]
  constructor <;> exact fun h => h.imp fun z e => z e.symm
def rowsL (ds : List PyData) : Bool := decide (1 ≤ ds.length) && decide (ds.length ≤ 12) && (ds.all rowD && decide ((ds.map nmOf).Nodup))
def seqD : PyData → Option (List PyData)
  | .list ds => some ds
  | .tuple ds => some ds
  | _ => none
def rowsD (d : PyData) : Bool := match seqD d with
  | some ds => rowsL ds
  | none => false
theorem seq_kind {d : PyData} : (isD "list" d || isD "tuple" d) = true → ∃ ds, seqD d = some ds := fun h => by
  rcases Bool.or_eq_true_iff.mp h with h | h
  · obtain ⟨l, rfl⟩ := isD_list h; exact ⟨l, rfl⟩
  · obtain ⟨l, rfl⟩ := isD_tuple h; exact ⟨l, rfl⟩
theorem seq_nokind {d : PyData} (h : (isD "list" d || isD "tuple" d) = false) : seqD d = none := by
  cases d <;> first | rfl | (rw [isD_lists] at h; cases h) | (rw [isD_tuples, Bool.or_true] at h; cases h)
theorem Dt.seq {K : PySem.W.Frag} {H : Hp} {v : V} {d : PyData} {ds : List PyData} (h : Dt K H v d) (e : seqD d = some ds) : ∃ a xs, v = .ref a ∧ Sq K H a xs ∧ DtAll K H xs ds := by
  cases h with
  | lst a b => cases e; exact ⟨_, _, rfl, .inl a, b⟩
  | tup a b => cases e; exact ⟨_, _, rfl, .inr a, b⟩
  | _ => cases e
theorem weight_seq {d x : PyData} {ds : List PyData} {n : Nat} (h : d.weight ≤ n) (e : seqD d = some ds) (m : x ∈ ds) : x.weight ≤ n := by
  cases d with
  | list l => cases e; exact weight_list h m
  | tuple l => cases e; exact weight_tup h m
  | _ => cases e
theorem row_is {d : PyData} (h : rowD d = true) : ∃ z b, d = .tuple [.str z, b] ∧ nameS z = true ∧ wholeD 0 4 b = true := by
  unfold rowD at h
  split at h
  · rename_i a b
    obtain ⟨h1, h2⟩ := Bool.and_eq_true_iff.mp h
    unfold nameD at h1
    split at h1
    · exact ⟨_, _, rfl, h1, h2⟩
    · cases h1
  · cases h
def spRows (K : PySem.W.Frag) : Sp := fun vs H Q _ => ∃ (x : V) (d : PyData), vs = [x] ∧ Dt K H x d ∧ d.weight ≤ 100000 ∧ (∀ ds, seqD d = some ds → ds.length ≤ 1000) ∧ ∀ H', Same H H' → Q (.bl (rowsD d)) H'
section
variable {P : Program} {w : World} {K : PySem.W.Frag} {mg : Str → Option Value} {base : Heap}
abbrev s_are_rows : Stmt := top 28
theorem sc_are_rows : FnScope ["thing", "row"] ["thing"] (defScope s_are_rows) := ⟨rfl, rfl, rfl, by decide +kernel, rfl, by decide +kernel, by decide +kernel⟩

theorem ok_are_rows (bt : Bt mg) (k_MOST_WORDS : ∃ t, mg "MOST_WORDS" = some (.int 12 t)) (p_is_row : Prom P w K mg base 2 "is_row" ["thing"] (spRow K)) (D : Def K mg "are_rows" s_are_rows) :
    Prom P w K mg base 3 "are_rows" ["thing"] (spRows K) := by
  obtain ⟨t_MOST_WORDS, c_MOST_WORDS⟩ := k_MOST_WORDS
  refine prom_mk D sc_are_rows (fun vs H Q E h => ?_) (fun _ _ _ _ _ _ us hl => match us, hl with | [_], _ => rfl) (fun f cdv A outer s H vs Q E hr h => ?_)
  · obtain ⟨x, d, rfl, _⟩ := h
    rfl
  · obtain ⟨x, d, rfl, hd, hw, hn, q⟩ := h
    refine ⟨_, (pss_cons (ps_if (PW.pt (pw_or (pt_not (pt_val (pe_callB (id := "isinstance") (isiTK (K := K)) (by rfl) bt.isinstance_ (by decide +kernel) (pa_cons (pv 0) (pa_cons (pe_tup (pa_cons (pe_bltn (v := .ty "list") rfl bt.list_ (by decide +kernel) rfl) (pa_cons (pe_bltn (v := .ty "tuple") rfl bt.tuple_ (by decide +kernel) rfl) pa_nil))) pa_nil))))) (pw_or1 (pt_not (pt_chain op_le op_le pe_int (pe_callB (id := "len") (lenK (K := K)) (by rfl) bt.len_ (by decide +kernel) (pa_cons (pv 0) pa_nil)) (pe_glob (v := .int 12) rfl c_MOST_WORDS ⟨_, rfl⟩)))))) (pss_one (ps_ret pe_bl)) pss_nil)
      (pss_one (ps_ret (pe_and (pe_callB (id := "all") (allK (K := K) rfl) (by rfl) bt.all_ (by decide +kernel) (pa_cons (pe_lc (own := [("row", 1)]) (g := gName 1) rfl sc_are_rows.nd (pi_either (pi_listK (K := K) rfl (pv 0)) (pi_tupK (K := K) rfl (pv 0))) (blkOk_by (N := ["thing", "row"]) (sc := defScope s_are_rows) (by decide +kernel)) (fun _ _ _ _ _ => (pg_name (i := 1) sc_are_rows.nd rfl (Or.inl rfl))) (fun _ _ _ _ _ => pts_nil) (fun _ _ _ _ _ => (pe_pc p_is_row (hr.mono (by decide)) rfl (pa_cons (pv 1) pa_nil)))) pa_nil)) (pe_one (pe_cmpR op_eq (pe_callB (id := "len") len_setK (by rfl) bt.len_ (by decide +kernel) (pa_cons (pe_scK (own := [("row", 1)]) (g := gName 1) rfl sc_are_rows.nd (pi_either (pi_listK (K := K) rfl (pv 0)) (pi_tupK (K := K) rfl (pv 0))) (blkOk_by (N := ["thing", "row"]) (sc := defScope s_are_rows) (by decide +kernel)) (fun _ _ _ _ _ => (pg_name (i := 1) sc_are_rows.nd rfl (Or.inl rfl))) (fun _ _ _ _ _ => pts_nil) (fun _ _ _ _ _ => (pe_ix (ix_tupK (K := K)) (pv 1) pe_int (fun _ _ => rfl)))) pa_nil)) (pe_callB (id := "len") (lenK (K := K)) (by rfl) bt.len_ (by decide +kernel) (pa_cons (pv 0) pa_nil)) (nomark _))))))), ?_⟩
    refine ⟨_, rfl, (by show 2 ≤ sizeLine; decide), fun T hT => ⟨_, T, [.ty "list", .ty "tuple"], _, _, isD "list" d || isD "tuple" d, rfl, upd_same .., .cons (.ty "list") (.cons (.ty "tuple") .nil), (Dt.same (Same.new (Same.refl _) hT) hd).ty, isi_lt, _, rfl, ?_⟩⟩
    have sT : Same H (L2.upd H T (.tup [.ty "list", .ty "tuple"])) := Same.new (Same.refl _) hT
    generalize L2.upd H T (.tup [.ty "list", .ty "tuple"]) = H0 at sT ⊢
    unfold rowsD at q
    cases c : (isD "list" d || isD "tuple" d) with
    | false =>
      rw [seq_nokind c] at q
      exact iteT (iteT (q _ sT))
    | true =>
      obtain ⟨ds, es⟩ := seq_kind c
      rw [es] at q
      obtain ⟨a, xs, rfl, hS, hA⟩ := (Dt.same sT hd).seq es
      have hl := hA.length
      replace q : ∀ G, Same H G → Q (.bl (rowsL ds)) G := q
      unfold rowsL at q
      have h12 := hn ds es
      refine iteF ⟨_, rfl, _, _, rfl, hS.len, _, _, rfl, rfl, _, rfl, ?_⟩
      by_cases h1 : 1 ≤ ds.length
      · rw [decide_eq_true (show (1 : Int) ≤ (xs.length : Nat) by omega)]
        rw [decide_eq_true h1] at q
        refine iteT ⟨_, _, rfl, rfl, _, rfl, ?_⟩
        by_cases h2 : ds.length ≤ 12
        · rw [decide_eq_true (show ((xs.length : Nat) : Int) ≤ 12 by omega)]
          rw [decide_eq_true h2, Bool.and_true, Bool.true_and] at q
          refine iteF (seq_it rfl hS fun J G wk hG L hL => lc_same wk hG (by omega) (Same.refl _) hL (fun i => .bl (rowD (ds.getD i .none))) (fun _ => rfl) ?_ ?_)
          · intro i x H2 C hx s2 k
            obtain ⟨di, hdi, hx2⟩ := hA.get hx
            have e : ds.getD i .none = di := by rw [List.getD_eq_getElem?_getD, hdi]; rfl
            rw [e] at k
            exact ⟨_, rfl, x, di, rfl, Dt.same s2 hx2, weight_seq hw es (List.mem_of_getElem? hdi), k⟩
          · intro H2 s2 hL2
            refine ⟨L, (List.range xs.length).map fun i => rowD (ds.getD i .none), rfl, .inl (.inl (by rw [hL2, List.map_map]; rfl)), _, rfl, ?_⟩
            have ea : ((List.range xs.length).map fun i => rowD (ds.getD i .none)).all id = ds.all rowD := by
              rw [hl]
              have : (List.range ds.length).map (fun i => rowD (ds.getD i .none)) = ds.map rowD := by
                apply List.ext_getElem?
                intro i
                rw [List.getElem?_map, List.getElem?_map]
                rcases Nat.lt_or_ge i ds.length with z | z
                · rw [List.getElem?_range z, List.getElem?_eq_getElem z]
                  simp [List.getD_eq_getElem?_getD, List.getElem?_eq_getElem z]
                · rw [List.getElem?_eq_none (by simpa using z), List.getElem?_eq_none z]
                  rfl
              rw [this, List.all_map]
              rfl
            rw [ea]
            cases al : ds.all rowD with
            | false =>
              rw [al] at q
              exact iteF (q _ (sT.trans s2))
            | true =>
              rw [al, Bool.true_and] at q
              have rows : ∀ (i : Nat) (x : V), xs[i]? = some x → ∃ (p : Addr) (z : Str) (b : PyData) (v : V), x = .ref p ∧ ds[i]? = some (.tuple [.str z, b]) ∧ SqT K H2 p [.str z, v] := by
                intro i x hx
                obtain ⟨di, hdi, hx2⟩ := hA.get hx
                obtain ⟨z, b, rfl, _, _⟩ := row_is (List.all_eq_true.mp al di (List.mem_of_getElem? hdi))
                obtain ⟨p, ys, rfl, hp, hy⟩ := (Dt.same s2 hx2).tup_inv
                cases hy with
                | cons y0 t => cases t with
                | cons y1 t => cases t with
                | nil =>
                  cases y0
                  exact ⟨p, z, b, _, rfl, hdi, hp⟩
              refine iteT (seq_it rfl (Sq.same s2 hS) fun J2 G2 wk2 hG2 D hD => ?_)
              have sD : ∀ o : HO, Same H2 (L2.upd H2 D o) := fun o => Same.new (Same.refl _) hD
              refine scK_it wk2 (fun i G' => ∃ S, (∀ k, S k = decide (∃ z ∈ (ds.take i).map nmOf, k = Sum.inr z)) ∧ G' = L2.upd H2 D (SetK P w D S (dc ((ds.take i).map nmOf).reverse))) ⟨_, fun k => by simp, rfl⟩ (fun i G' _ p => ?_) ?_ ?_
              · obtain ⟨S, _, rfl⟩ := p
                exact hG2 _ (sD _)
              · rintro i x G' G'' hi ⟨S, hSS, rfl⟩ ⟨rfl, hx⟩
                obtain ⟨p, z, b, v, rfl, hdi, hp⟩ := rows i x hx
                have et : (ds.take (i + 1)).map nmOf = (ds.take i).map nmOf ++ [z] := take_map nmOf hdi
                have dl := dc_le ((ds.take i).map nmOf).reverse
                rw [List.length_reverse, List.length_map, List.length_take] at dl
                refine ⟨rfl, yes (iteT ⟨_, rfl, p, _, _, .str z, rfl, rfl, SqT.same (sD _) hp, rfl, Sum.inr z, S, _, rfl, upd_same .., ?_, fun j => S j || decide (j = Sum.inr z), fun k => ?_, ?_⟩)⟩
                · have : (50 : Nat) < scanBound := by decide
                  omega
                · show (S k || decide (k = Sum.inr z)) = _
                  rw [hSS, et, Bool.eq_iff_iff]
                  simp only [Bool.or_eq_true, decide_eq_true_eq]
                  constructor
                  · rintro (⟨y, m, e⟩ | e)
                    · exact ⟨y, List.mem_append_left _ m, e⟩
                    · exact ⟨z, List.mem_append_right _ (by simp), e⟩
                  · rintro ⟨y, m, e⟩
                    rcases List.mem_append.mp m with m | m
                    · exact .inl ⟨y, m, e⟩
                    · rw [List.mem_singleton.mp m] at e
                      exact .inr e
                · rw [upd_upd, et, List.reverse_append]
                  show L2.upd H2 D (SetK P w D _ (if S (Sum.inr z) = true then _ else _)) = L2.upd H2 D (SetK P w D _ (if z ∈ ((ds.take i).map nmOf).reverse then _ else _))
                  have ez : S (Sum.inr z) = decide (z ∈ ((ds.take i).map nmOf).reverse) := by
                    rw [hSS]
                    congr 1
                    apply propext
                    constructor
                    · rintro ⟨y, m, e⟩
                      rw [Sum.inr.inj e]
                      exact List.mem_reverse.mpr m
                    · intro m
                      exact ⟨z, List.mem_reverse.mp m, rfl⟩
                  rw [ez]
                  by_cases m : z ∈ ((ds.take i).map nmOf).reverse
                  · rw [if_pos m, if_pos (decide_eq_true m)]; rfl
                  · rw [if_neg m, if_neg (by rw [decide_eq_false m]; decide)]; rfl
              · rintro G' ⟨S, _, rfl⟩
                have dl := dc_le ((ds.take xs.length).map nmOf).reverse
                rw [List.length_reverse, List.length_map, List.length_take] at dl
                refine ⟨D, S, _, rfl, upd_same .., ?_, _, rfl, _, _, rfl, (Sq.same (sD _) (Sq.same s2 hS)).len, rfl, ?_⟩
                · have : (2 : Nat) ^ 40 = 1099511627776 := by decide
                  omega
                · have ef : ds.take xs.length = ds := List.take_of_length_le (by omega)
                  rw [ef, eqV_int]
                  have e2 : decide (((dc (ds.map nmOf).reverse : Nat) : Int) = (xs.length : Nat)) = decide ((ds.map nmOf).Nodup) := by
                    congr 1
                    apply propext
                    have z := dc_nodup (ds.map nmOf).reverse
                    rw [List.length_reverse, List.length_map, nodup_rev] at z
                    rw [← z]
                    constructor
                    · intro e; omega
                    · intro e; omega
                  rw [e2]
                  exact q _ ((sT.trans s2).trans (sD _))
        · rw [decide_eq_false (show ¬ ((xs.length : Nat) : Int) ≤ 12 by omega)]
          rw [decide_eq_false h2] at q
          exact iteT (q _ sT)
      · rw [decide_eq_false (show ¬ (1 : Int) ≤ (xs.length : Nat) by omega)]
        rw [decide_eq_false h1] at q
        exact iteF ⟨_, rfl, iteT (q _ sT)⟩
end

end TS

namespace TS
open PySem PySem.Spec PyProof.Rows L2 TL

/-! ### Words -/
def wcls (K : PySem.W.Frag) : Addr := He.ga K "Words"
def rowOf : PyData → Str × Int
  | .tuple [.str z, .int p] => (z, p)
  | _ => ("", 0)
/-- the entries of by_name -/
structure WEnt (K : PySem.W.Frag) (G : Hp) (kvs : List (Key × V)) (rows : List (Str × Int)) : Prop where
  len : kvs.length = rows.length
  at_ : ∀ (i : Nat) (r : Str × Int), rows[i]? = some r → ∃ t, kvs[i]? = some (Sum.inr r.1, .ref t) ∧ SqT K G t [.int r.2, .int i]
theorem WEnt.same {K : PySem.W.Frag} {G G' : Hp} {kvs : List (Key × V)} {rows : List (Str × Int)} (h : WEnt K G kvs rows) (e : Same G G') : WEnt K G' kvs rows :=
  ⟨h.len, fun i r q => let ⟨t, a, b⟩ := h.at_ i r q; ⟨t, a, SqT.same e b⟩⟩
/-- the words at a -/
def WordsAt (K : PySem.W.Frag) (G : Hp) (a : Addr) (rows : List (Str × Int)) : Prop := ∃ dx D kvs, G a = some (.ins (wcls K) dx [("by_name", .ref D)]) ∧ G D = some (.dK kvs) ∧ WEnt K G kvs rows
theorem WordsAt.same {K : PySem.W.Frag} {G G' : Hp} {a : Addr} {rows : List (Str × Int)} (h : WordsAt K G a rows) (e : Same G G') : WordsAt K G' a rows :=
  let ⟨dx, D, kvs, x, y, z⟩ := h; ⟨dx, D, kvs, e _ _ x, e _ _ y, z.same e⟩
theorem valV_none {kvs : List (Key × V)} {k : Key} (h : ∀ kv ∈ kvs, kv.1 ≠ k) : valV kvs k = none := by
  unfold valV
  rw [List.find?_eq_none.mpr (fun kv m => by simpa using h kv m)]
  rfl
/-- a tuple stays where another thing is changed -/
theorem SqT.upd {K : PySem.W.Frag} {H : Hp} {a t : Addr} {xs : List V} {o o' : HO} (ha : H a = some o) (ho : ∀ l, o ≠ .tup l) (hf : ∀ b u, o ≠ .frz b u) (h : SqT K H t xs) : SqT K (L2.upd H a o') t xs := by
  rcases h with (h | ⟨q, h⟩) | h
  · refine .inl (.inl ?_)
    rw [upd_ne]
    · exact h
    · intro e
      rw [e, ha] at h
      exact ho _ (Option.some.inj h)
  · refine .inl (.inr ⟨q, ?_⟩)
    rw [upd_ne]
    · exact h
    · intro e
      rw [e, ha] at h
      exact hf _ _ (Option.some.inj h)
  · exact .inr h
def spWIni (K : PySem.W.Frag) : Sp := fun vs H Q E => ∃ (a dx : Addr) (x : V) (d : PyData), vs = [.ref a, x] ∧ H a = some (.ins (wcls K) dx []) ∧ Dt K H x d ∧ d.weight ≤ 100000 ∧ (∀ ds, seqD d = some ds → ds.length ≤ 1000) ∧
  (∀ ds, seqD d = some ds → rowsL ds = true → ∀ G, Fx a H G → WordsAt K G a (ds.map rowOf) → Q .non G) ∧
  (rowsD d = false → ∀ G e, Same H G → H e = none → G e = some (.xd [("found", x)]) → E (.ref (He.ga K "NoWords")) (some e) G)
def spWLen (K : PySem.W.Frag) : Sp := fun vs H Q _ => ∃ (a : Addr) (rows : List (Str × Int)), vs = [.ref a] ∧ WordsAt K H a rows ∧ Q (.int rows.length) H
section
variable {P : Program} {w : World} {K : PySem.W.Frag} {mg : Str → Option Value} {base : Heap}
abbrev s_NoWords___init__ : Stmt := inClass (top 4) 0
theorem sc_NoWords___init__ : FnScope ["self", "found"] ["self", "found"] (defScope s_NoWords___init__) := ⟨rfl, rfl, rfl, by decide +kernel, rfl, by decide +kernel, by decide +kernel⟩
theorem ok_NoWords_ini (fam_TermError : FamV K (He.ga K "TermError")) (g_TermError : mg "TermError" = some (.ref (He.ga K "TermError"))) (x_NoWords : OwnV K (He.ga K "NoWords") "found") (D : DefM K (He.ma K (He.ga K "NoWords") "__init__") "__init__" "NoWords.__init__" s_NoWords___init__) :
    PromA CX0 P w K mg base 1 (He.ma K (He.ga K "NoWords") "__init__") ["self", "found"] (spIni (He.ga K "NoWords") "found") := by
  refine meth_mk D sc_NoWords___init__ (fun vs H Q E h => ?_) (fun _ _ _ _ _ _ us hl => match us, hl with | [_, _], _ => rfl) (fun cdv A outer s H vs Q E hr h => ?_)
  · obtain ⟨a, v, rfl, _⟩ := h
    rfl
  · obtain ⟨a, v, rfl, ha, q⟩ := h
    refine ⟨_, (pss_cons (ps_expr (pe_famInit fam_TermError rfl g_TermError (pa_cons (pv 0) (pa_cons pe_str pa_nil))))
      (pss_one (ps_ost (pv 0) (pv 1)))), ?_⟩
    exact ⟨_, rfl, a, _, _, rfl, by decide, x_NoWords.ox, ha, _, rfl, _, rfl, a, _, rfl, x_NoWords.ox, x_NoWords.no, .inl ⟨ha, fun dx h1 h2 => q dx h1 h2⟩⟩

abbrev s_Words___len__ : Stmt := inClass (top 29) 6
theorem sc_Words___len__ : FnScope ["self"] ["self"] (defScope s_Words___len__) := ⟨rfl, rfl, rfl, by decide +kernel, rfl, by decide +kernel, by decide +kernel⟩

theorem ok_Words_len (bt : Bt mg) (cl : Cls K (wcls K)) (nb : NoAttr K (wcls K) "by_name") (D : DefM K (He.ma K (wcls K) "__len__") "__len__" "Words.__len__" s_Words___len__) : PromA CX0 P w K mg base 1 (He.ma K (wcls K) "__len__") ["self"] (spWLen K) := by
  refine meth_mk D sc_Words___len__ (fun vs H Q E h => ?_) (fun _ _ _ _ _ _ us hl => match us, hl with | [_], _ => rfl) (fun cdv A outer s H vs Q E hr h => ?_)
  · obtain ⟨a, rows, rfl, _⟩ := h
    rfl
  · obtain ⟨a, rows, rfl, ⟨dx, D, kvs, e1, e2, e3⟩, q⟩ := h
    refine ⟨_, (pss_one (ps_ret (pe_callB (id := "len") call_lenD (by rfl) bt.len_ (by decide +kernel) (pa_cons (pe_fld (pv 0) rfl) pa_nil)))), ?_⟩
    refine ⟨_, rfl, a, _, dx, _, _, rfl, e1, cl, nb, rfl, D, kvs, rfl, e2, ?_⟩
    rw [e3.len]
    exact q
abbrev s_Words___init__ : Stmt := inClass (top 29) 0
theorem sc_Words___init__ : FnScope ["self", "rows", "at", "name", "places"] ["self", "rows"] (defScope s_Words___init__) := ⟨rfl, rfl, rfl, by decide +kernel, rfl, by decide +kernel, by decide +kernel⟩

theorem ok_Words_ini (bt : Bt mg) (cl : Cls K (wcls K)) (nb : NoAttr K (wcls K) "by_name") (p_are_rows : Prom P w K mg base 3 "are_rows" ["thing"] (spRows K)) (g_NoWords : mg "NoWords" = some (.ref (He.ga K "NoWords"))) (x_NoWords : OwnV K (He.ga K "NoWords") "found")
    (pi_NoWords : PromA CX0 P w K mg base 1 (He.ma K (He.ga K "NoWords") "__init__") ["self", "found"] (spIni (He.ga K "NoWords") "found"))
    (D : DefM K (He.ma K (wcls K) "__init__") "__init__" "Words.__init__" s_Words___init__) : PromA (L2.CX P w) P w K mg base 4 (He.ma K (wcls K) "__init__") ["self", "rows"] (spWIni K) := by
  refine methX_mk D sc_Words___init__ (fun vs H Q E h => ?_) (fun _ _ _ _ _ _ us hl => match us, hl with | [_, _], _ => rfl) (fun cdv A outer s H vs Q E hr h => ?_)
  · obtain ⟨a, dx, x, d, rfl, _⟩ := h
    rfl
  · obtain ⟨a, dx, x, d, rfl, ha, hd, hw, hn, q1, q2⟩ := h
    refine ⟨_, (pss_cons (ps_if (pt_not (pt_val (pe_pc p_are_rows (hr.mono (by decide)) rfl (pa_cons (pv 1) pa_nil)))) (pss_one (ps_raise1 x_NoWords pi_NoWords rfl takesF (hr.mono (by decide)) rfl g_NoWords (pv 1))) pss_nil)
      (pss_one (ps_fld (pv 0) (pe_dc (own := [("at", 2), ("name", 3), ("places", 4)]) rfl sc_Words___init__.nd (pi_either (pi_enumK (K := K) rfl rfl bt.enumerate_ (pa_cons (pv 1) pa_nil)) (pi_enumT (K := K) rfl rfl bt.enumerate_ (pa_cons (pv 1) pa_nil))) (blkOk_by (N := ["self", "rows", "at", "name", "places"]) (sc := defScope s_Words___init__) (by decide +kernel)) (fun _ _ _ _ _ => (pg_tupK (K := K) (n := 2) rfl rfl (pgs_cons (pg_name (i := 2) sc_Words___init__.nd rfl (Or.inl rfl)) (pgs_cons (pg_tupK (K := K) (n := 2) rfl rfl (pgs_cons (pg_name (i := 3) sc_Words___init__.nd rfl (Or.inl rfl)) (pgs_cons (pg_name (i := 4) sc_Words___init__.nd rfl (Or.inl rfl)) pgs_nil))) pgs_nil)))) (fun _ _ _ _ _ => pts_nil) (fun _ _ _ _ _ => (pv 3)) (fun _ _ _ _ _ => (pe_tup (pa_cons (pv 4) (pa_cons (pv 2) pa_nil))))) rfl))), ?_⟩
    refine ⟨_, rfl, x, d, rfl, hd, hw, hn, fun H1 s1 => ⟨_, rfl, ?_⟩⟩
    cases c : rowsD d with
    | false => exact iteT ⟨_, rfl, fun e he => q2 c _ e (s1.trans (Same.new (Same.refl _) he)) (s1.free he) (upd_same ..)⟩
    | true =>
      obtain ⟨ds, es, rl⟩ : ∃ ds, seqD d = some ds ∧ rowsL ds = true := by
        unfold rowsD at c
        split at c
        · rename_i ds e; exact ⟨ds, e, c⟩
        · cases c
      obtain ⟨b, xs, rfl, hS, hA⟩ := (Dt.same s1 hd).seq es
      have hl := hA.length
      obtain ⟨rl1, rl2⟩ := Bool.and_eq_true_iff.mp rl
      obtain ⟨al, nd⟩ := Bool.and_eq_true_iff.mp rl2
      have l12 : ds.length ≤ 12 := of_decide_eq_true (Bool.and_eq_true_iff.mp rl1).2
      have nd' := of_decide_eq_true nd
      refine iteF (enum_it rfl hS fun J G wk hG D hD => ?_)
      have sD : ∀ o : HO, Same H1 (L2.upd H1 D o) := fun o => Same.new (Same.refl _) hD
      refine dc_it wk (fun i G' => ∃ kvs, Same H1 G' ∧ G' D = some (.dK kvs) ∧ WEnt K G' kvs ((ds.take i).map rowOf)) ⟨[], sD _, upd_same .., ⟨by simp, fun i r e => by simp at e⟩⟩ (fun i G' _ p => hG G' p.choose_spec.1) ?_ ?_
      · rintro i v G1 G2 hi ⟨kvs, sG, eD, we⟩ ⟨T, y, x, rfl, hT, rfl, ey, hx⟩
        cases ey
        obtain ⟨di, hdi, hx2⟩ := hA.get hx
        obtain ⟨z, pb, rfl, _, hp⟩ := row_is (List.all_eq_true.mp al di (List.mem_of_getElem? hdi))
        obtain ⟨p, rfl⟩ : ∃ p, pb = .int p := by
          cases pb <;> first | exact ⟨_, rfl⟩ | cases hp
        have sT : Same G1 (L2.upd G1 T (.tup [.int (i : Nat), x])) := Same.new (Same.refl _) hT
        obtain ⟨r, ys, rfl, hr2, hy⟩ := (Dt.same (sG.trans sT) hx2).tup_inv
        cases hy with
        | cons y0 t => cases t with
        | cons y1 t => cases t with
        | nil =>
        cases y0
        cases y1
        refine ⟨T, _, rfl, .inl (.inl (upd_same ..)), rfl, _, _, rfl, _, _, rfl, r, _, rfl, hr2, rfl, _, _, rfl, _, _, rfl, rfl, rfl, rfl, yes (iteT ⟨_, rfl, _, rfl, _, rfl, (by show 2 ≤ sizeLine; decide), fun u hu => ?_⟩)⟩
        have sU : Same (L2.upd G1 T (.tup [.int (i : Nat), .ref r])) (L2.upd (L2.upd G1 T (.tup [.int (i : Nat), .ref r])) u (.tup [.int p, .int (i : Nat)])) := Same.new (Same.refl _) hu
        have sA := sT.trans sU
        refine ⟨kvs, Sum.inr z, rfl, sA _ _ eD, ?_, kvs ++ [(Sum.inr z, .ref u)], ?_, ?_, ?_⟩
        · rw [we.len, List.length_map, List.length_take]
          exact sz5' (by omega)
        · intro b o e
          rw [upd_ne (ne_of_none e hD)]
          exact sA _ _ (sG _ _ e)
        · rw [upd_same]
          congr 2
          refine putK_new _ (valV_none fun kv hkv e => ?_)
          obtain ⟨j, hj⟩ := List.mem_iff_getElem?.mp hkv
          have jl : j < i := by
            have := (List.getElem?_eq_some_iff.mp hj).1
            rw [we.len, List.length_map, List.length_take] at this
            omega
          have jd : j < ds.length := by omega
          obtain ⟨t, h1, _⟩ := we.at_ j (rowOf ds[j]) (by rw [List.getElem?_map, List.getElem?_take_of_lt jl, List.getElem?_eq_getElem jd]; rfl)
          rw [hj] at h1
          cases h1
          obtain ⟨z2, pb2, e2, _, hp2⟩ := row_is (List.all_eq_true.mp al ds[j] (List.getElem_mem jd))
          have en : (ds.map nmOf)[j]? = (ds.map nmOf)[i]? := by
            rw [List.getElem?_map, List.getElem?_map, hdi, List.getElem?_eq_getElem jd, e2]
            rw [e2] at e
            obtain ⟨p2, rfl⟩ : ∃ p, pb2 = .int p := by
              cases pb2 <;> first | exact ⟨_, rfl⟩ | cases hp2
            exact congrArg some (Sum.inr.inj e)
          have := (List.getElem?_inj (by rw [List.length_map]; exact jd) nd').mp en
          omega
        · have et : (ds.take (i + 1)).map rowOf = (ds.take i).map rowOf ++ [(z, p)] := take_map rowOf hdi
          have li : ((ds.take i).map rowOf).length = i := by
            rw [List.length_map, List.length_take]
            omega
          have ki : kvs.length = i := we.len.trans li
          refine ⟨by rw [et, List.length_append, List.length_append, we.len]; rfl, fun j rr e => ?_⟩
          rw [et] at e
          rcases Nat.lt_or_ge j i with jl | jl
          · rw [List.getElem?_append_left (by omega)] at e
            obtain ⟨t, h1, h2⟩ := we.at_ j rr e
            exact ⟨t, by rw [List.getElem?_append_left (by omega)]; exact h1, SqT.upd (sA _ _ eD) (fun _ => nofun) (fun _ _ => nofun) (SqT.same sA h2)⟩
          · rw [List.getElem?_append_right (by omega), li] at e
            obtain rfl : j = i := by
              rcases Nat.lt_or_ge i j with z1 | z1
              · rw [List.getElem?_eq_none (by simp; omega)] at e
                cases e
              · omega
            rw [Nat.sub_self] at e
            cases e
            refine ⟨u, by rw [List.getElem?_append_right (by omega), ki, Nat.sub_self]; rfl, SqT.upd (sA _ _ eD) (fun _ => nofun) (fun _ _ => nofun) (.inl (.inl (upd_same ..)))⟩
      · rintro G' ⟨kvs, sG, eD, we⟩
        rw [show ds.take xs.length = ds from List.take_of_length_le (by omega)] at we
        refine ⟨_, rfl, a, _, dx, _, rfl, sG _ _ (s1 _ _ ha), cl, nb, by decide, ?_⟩
        have na : a ≠ D := fun e => by rw [← e] at hD; rw [s1 _ _ ha] at hD; cases hD
        refine q1 ds es rl _ (Fx.of (s1.trans sG)).upd ⟨dx, D, kvs, upd_same .., (upd_ne (Ne.symm na)).trans eD, we.len, fun i r e => ?_⟩
        obtain ⟨t, h1, h2⟩ := we.at_ i r e
        exact ⟨t, h1, SqT.upd (sG _ _ (s1 _ _ ha)) (fun _ => nofun) (fun _ _ => nofun) h2⟩
end

end TS

namespace TS
open PySem PySem.Spec PyProof.Rows L2 TL

/-! ### names of words, drawn -/
def w12 : List Str := ["put", "take", "ask", "meets", "above", "rule", "shelf", "tree", "f", "g", "c", "n"]
def NamesOk (m : Nat) (ns : List Str) : Prop := ns.length = m ∧ (∀ z ∈ ns, nameS z = true) ∧ ns.Nodup
theorem range_take {α : Type} (f : Nat → α) {m n : Nat} (h : m ≤ n) : (List.range m).map f = ((List.range n).map f).take m := by
  rw [← List.map_take, List.take_range, Nat.min_eq_left h]
theorem nodup_take {α : Type} {l : List α} {m : Nat} (h : l.Nodup) : (l.take m).Nodup := h.sublist (List.take_sublist m l)
theorem nodup_of_map {α β : Type} (g : α → β) {l : List α} (h : (l.map g).Nodup) : l.Nodup := (List.pairwise_map.mp h).imp fun z e => z (congrArg g e)
theorem names0 {f m : Nat} (hf : f < 26) (hm : m ≤ 12) : NamesOk m ((List.range m).map fun k => w12.getD ((f + 5 * k) % 12) "") := by
  have a : ∀ f ∈ List.range 26, ((List.range 12).map fun k => (f + 5 * k) % 12).Nodup := by decide +kernel
  have w : ∀ z ∈ w12, nameS z = true := by decide +kernel
  have wn : w12.Nodup := by decide +kernel
  refine ⟨by simp, fun z hz => ?_, ?_⟩
  · obtain ⟨k, _, rfl⟩ := List.mem_map.mp hz
    have hk : (f + 5 * k) % 12 < w12.length := Nat.mod_lt _ (by decide)
    rw [List.getD_eq_getElem?_getD, List.getElem?_eq_getElem hk]
    exact w _ (List.getElem_mem hk)
  · have e : ((List.range m).map fun k => w12.getD ((f + 5 * k) % 12) "") = ((List.range m).map fun k => (f + 5 * k) % 12).map (fun j => w12.getD j "") := by rw [List.map_map]; rfl
    rw [e]
    have n1 : ((List.range m).map fun k => (f + 5 * k) % 12).Nodup := by
      rw [range_take _ hm]
      exact nodup_take (a f (List.mem_range.mpr hf))
    refine List.pairwise_map.mpr (n1.imp_of_mem fun {i j} hi hj ne e => ne ?_)
    obtain ⟨k1, _, rfl⟩ := List.mem_map.mp hi
    obtain ⟨k2, _, rfl⟩ := List.mem_map.mp hj
    have h1 : (f + 5 * k1) % 12 < w12.length := Nat.mod_lt _ (by decide)
    have h2 : (f + 5 * k2) % 12 < w12.length := Nat.mod_lt _ (by decide)
    rw [List.getD_eq_getElem?_getD, List.getD_eq_getElem?_getD, List.getElem?_eq_getElem h1, List.getElem?_eq_getElem h2] at e
    exact (List.getElem_inj wn).mp e
def Small (l : List Nat) : Prop := ∀ c ∈ l, 97 ≤ c ∧ c ≤ 122
theorem nameS_of {l : List Nat} (h : Small l) (h1 : 1 ≤ l.length) (h2 : l.length ≤ 8) : nameS ⟨l.toArray⟩ = true := by
  unfold nameS
  rw [len_tl, tl_mk, decide_eq_true h1, decide_eq_true h2]
  show smallS _ = true
  unfold smallS
  rw [List.all_eq_true]
  intro c hc
  have := h c hc
  rw [decide_eq_true this.1, decide_eq_true this.2]
  rfl
theorem names1 {st : List Nat} {f m : Nat} (hs : Small st) (h8 : st.length = 8) (hf : f < 26) (hm : m ≤ 8) : NamesOk m ((List.range m).map fun k => ⟨(st.take (1 + (f + 3 * k) % 8)).toArray⟩) := by
  have a : ∀ f ∈ List.range 26, ((List.range 8).map fun k => 1 + (f + 3 * k) % 8).Nodup := by decide +kernel
  refine ⟨by simp, fun z hz => ?_, nodup_of_map (fun z : Str => z.length) ?_⟩
  · obtain ⟨k, _, rfl⟩ := List.mem_map.mp hz
    exact nameS_of (fun c hc => hs c (List.mem_of_mem_take hc)) (by rw [List.length_take]; omega) (by rw [List.length_take]; omega)
  · rw [List.map_map]
    have e : ((List.range m).map ((fun z : Str => z.length) ∘ fun k => ⟨(st.take (1 + (f + 3 * k) % 8)).toArray⟩)) = (List.range m).map fun k => 1 + (f + 3 * k) % 8 := by
      refine List.map_congr_left fun k _ => ?_
      show Str.length _ = _
      rw [len_tl, tl_mk, List.length_take, h8]
      omega
    rw [e, range_take _ hm]
    exact nodup_take (a f (List.mem_range.mpr hf))
theorem names2 {st : List Nat} {f m at_ : Nat} (hs : Small st) (h8 : st.length = 8) (ha : at_ < 8) (hf : f < 26) (hm : m ≤ 12) :
    NamesOk m ((List.range m).map fun k => ⟨(st.take at_ ++ [97 + (f + 7 * k) % 26] ++ (st.drop at_).take (7 - (f + k) % 2 - at_)).toArray⟩) := by
  have a : ∀ f ∈ List.range 26, ((List.range 12).map fun k => 97 + (f + 7 * k) % 26).Nodup := by decide +kernel
  refine ⟨by simp, fun z hz => ?_, nodup_of_map (fun z : Str => (tl z).getD at_ 0) ?_⟩
  · obtain ⟨k, _, rfl⟩ := List.mem_map.mp hz
    refine nameS_of (fun c hc => ?_) (by simp; omega) (by simp only [List.length_append, List.length_take, List.length_drop, List.length_singleton]; omega)
    rcases List.mem_append.mp hc with hc | hc
    · rcases List.mem_append.mp hc with hc | hc
      · exact hs c (List.mem_of_mem_take hc)
      · rw [List.mem_singleton.mp hc]
        omega
    · exact hs c (List.mem_of_mem_drop (List.mem_of_mem_take hc))
  · rw [List.map_map]
    have e : ((List.range m).map ((fun z : Str => (tl z).getD at_ 0) ∘ fun k => ⟨(st.take at_ ++ [97 + (f + 7 * k) % 26] ++ (st.drop at_).take (7 - (f + k) % 2 - at_)).toArray⟩)) = (List.range m).map fun k => 97 + (f + 7 * k) % 26 := by
      refine List.map_congr_left fun k _ => ?_
      show (tl _).getD at_ 0 = _
      have la : (st.take at_).length = at_ := by rw [List.length_take]; omega
      rw [tl_mk, List.append_assoc, List.getD_eq_getElem?_getD, List.getElem?_append_right (by omega), la, Nat.sub_self]
      rfl
    rw [e, range_take _ hm]
    exact nodup_take (a f (List.mem_range.mpr hf))
/-- a list of names that were drawn -/
def spNames : Sp := fun vs H Q _ => ∃ (b : Addr) (n m : Nat), vs = [.ref b, .int m] ∧ m ≤ 12 ∧ (∃ o, H b = some o ∧ Bag (n + 11) o) ∧
  ∀ H' p ns, Dr b n H H' → NamesOk m ns → p ≠ b → H' p = some (.lst (ns.map V.str)) → Q (.ref p) H'

end TS

namespace TS
open PySem PySem.Spec PyProof.Rows L2 TL

theorem strs_of : ∀ {xs : List V}, (∀ v ∈ xs, ∃ c : Nat, v = .str ⟨#[c]⟩ ∧ 97 ≤ c ∧ c ≤ 122) → ∃ st : List Nat, xs = (st.map fun c => V.str ⟨#[c]⟩) ∧ Small st
  | [], _ => ⟨[], rfl, fun c h => by simp at h⟩
  | x :: r, h => by
    obtain ⟨c, rfl, hc⟩ := h x (by simp)
    obtain ⟨st, rfl, hs⟩ := strs_of fun v hv => h v (List.mem_cons_of_mem _ hv)
    refine ⟨c :: st, rfl, fun d hd => ?_⟩
    rcases List.mem_cons.mp hd with e | m
    · rw [e]; exact hc
    · exact hs d m
theorem joinL_signs : ∀ st : List Nat, joinL [] (st.map fun c => [c]) = st
  | [] => rfl
  | [c] => rfl
  | c :: d :: r => by
    show [c] ++ ([] ++ joinL [] ((d :: r).map fun c => [c])) = _
    rw [joinL_signs (d :: r)]
    rfl
theorem join_signs (st : List Nat) : Txt.join "" (st.map fun c => (⟨#[c]⟩ : Str)) = ⟨st.toArray⟩ := by
  rw [join_eq]
  refine ext_tl ?_
  rw [tl_join, List.map_map]
  have e : tl ("" : Str) = [] := by decide +kernel
  rw [e]
  show joinL [] (st.map fun c => [c]) = _
  rw [joinL_signs]
theorem sum_len : ∀ {ws : List Str} {k : Nat}, (∀ z ∈ ws, z.length ≤ k) → (ws.map (·.length)).sum ≤ ws.length * k
  | [], _, _ => by simp
  | w :: r, k, h => by
    have ih := sum_len (ws := r) (k := k) fun z hz => h z (List.mem_cons_of_mem _ hz)
    have := h w (by simp)
    simp only [List.map_cons, List.sum_cons, List.length_cons, Nat.succ_mul]
    omega
theorem andR {b : Bool} {R T : Prop} (h : R) (k : b = true → R → T) : if b = true then T else R := by
  cases b
  · exact iteF h
  · exact iteT (k rfl h)
theorem cut_to {l : List Nat} {k : Nat} (h : k ≤ l.length) : cutS ⟨l.toArray⟩ none (some (k : Int)) = ⟨(l.take k).toArray⟩ := by
  unfold cutS
  have e : (⟨l.toArray⟩ : Str).length = l.length := by rw [len_tl, tl_mk]
  rw [e, HT.sIx_none, HT.sIx_nat, Nat.min_eq_left h, Nat.sub_zero, List.drop_zero]
theorem cut_in {l : List Nat} {j k : Nat} (hj : j ≤ l.length) (hk : k ≤ l.length) : cutS ⟨l.toArray⟩ (some (j : Int)) (some (k : Int)) = ⟨((l.drop j).take (k - j)).toArray⟩ := by
  unfold cutS
  have e : (⟨l.toArray⟩ : Str).length = l.length := by rw [len_tl, tl_mk]
  rw [e, HT.sIx_nat, HT.sIx_nat, Nat.min_eq_left hj, Nat.min_eq_left hk]
theorem str_add (l k : List Nat) : (⟨l.toArray⟩ : Str) ++ (⟨k.toArray⟩ : Str) = ⟨(l ++ k).toArray⟩ := by
  refine ext_tl ?_
  rw [tl_append, tl_mk, tl_mk, tl_mk]
section
variable {P : Program} {w : World} {K : PySem.W.Frag} {mg : Str → Option Value} {base : Heap}
abbrev s__law_names : Stmt := top 43
theorem sc__law_names : FnScope ["_law_box_here", "_law_many", "_law_letters_here", "_law_known", "_law_way", "_law_first", "_law_stem", "_law_at", "_law_found", "_law_k", "_law_sign"] ["_law_box_here", "_law_many"] (defScope s__law_names) := ⟨rfl, rfl, rfl, by decide +kernel, rfl, by decide +kernel, by decide +kernel⟩

set_option maxHeartbeats 1000000 in
theorem ok_names (bt : Bt mg) (p__law_take : Prom P w K mg base 1 "_law_take" ["_law_box_here", "_law_many"] spTake) (D : Def K mg "_law_names" s__law_names) : Prom P w K mg base 2 "_law_names" ["_law_box_here", "_law_many"] spNames := by
  refine prom_mk D sc__law_names (fun vs H Q E h => ?_) (fun _ _ _ _ _ _ us hl => match us, hl with | [_, _], _ => rfl) (fun f cdv A outer s H vs Q E hr h => ?_)
  · obtain ⟨b, n, m, rfl, _⟩ := h
    rfl
  · obtain ⟨b, n, m, rfl, hm, hb, q⟩ := h
    refine ⟨_, (pss_cons (ps_set (i := 2) sc__law_names.nd rfl (Or.inr rfl) pe_str)
      (pss_cons (ps_set (i := 3) sc__law_names.nd rfl (Or.inr rfl) (pe_split pe_str pe_str))
      (pss_cons (ps_set (i := 4) sc__law_names.nd rfl (Or.inl rfl) (pe_pc p__law_take (hr.mono (by decide)) rfl (pa_cons (pv 0) (pa_cons pe_int pa_nil))))
      (pss_cons (ps_set (i := 5) sc__law_names.nd rfl (Or.inr rfl) (pe_pc p__law_take (hr.mono (by decide)) rfl (pa_cons (pv 0) (pa_cons pe_int pa_nil))))
      (pss_cons (ps_if (pt_cmpR op_eq (pv 4) pe_int (nomark _)) (pss_one (ps_ret (pe_lc (own := [("_law_k", 9)]) (g := gName 9) rfl sc__law_names.nd (pi_range1 rfl bt.range_ (pa_cons (pv 1) pa_nil)) (blkOk_by (N := ["_law_box_here", "_law_many", "_law_letters_here", "_law_known", "_law_way", "_law_first", "_law_stem", "_law_at", "_law_found", "_law_k", "_law_sign"]) (sc := defScope s__law_names) (by decide +kernel)) (fun _ _ _ _ _ => (pg_name (i := 9) sc__law_names.nd rfl (Or.inl rfl))) (fun _ _ _ _ _ => pts_nil) (fun _ _ _ _ _ => (pe_ix (ix_listK (K := K)) (pv 3) (pe_op op_mod (pe_op op_add (pv 5) (pe_op op_mul pe_int (pv 9))) pe_int) (fun _ _ => rfl)))))) pss_nil)
      (pss_cons (ps_set (i := 6) sc__law_names.nd rfl (Or.inr rfl) (pe_joinK (K := K) rfl pe_str (pe_lc (own := [("_law_k", 9)]) (g := gName 9) rfl sc__law_names.nd (pi_range1 rfl bt.range_ (pa_cons pe_int pa_nil)) (blkOk_by (N := ["_law_box_here", "_law_many", "_law_letters_here", "_law_known", "_law_way", "_law_first", "_law_stem", "_law_at", "_law_found", "_law_k", "_law_sign"]) (sc := defScope s__law_names) (by decide +kernel)) (fun _ _ _ _ _ => (pg_name (i := 9) sc__law_names.nd rfl (Or.inl rfl))) (fun _ _ _ _ _ => pts_nil) (fun _ _ _ _ _ => (pe_ix ix_str (pv 2) (pe_pc p__law_take (hr.mono (by decide)) rfl (pa_cons (pv 0) (pa_cons pe_int pa_nil))) (fun _ _ => rfl))))))
      (pss_cons (ps_if (PW.pt (pw_and (pt_cmpR op_eq (pv 4) pe_int (nomark _)) (pw_and1 (pt_cmpR op_lt (pv 1) pe_int (nomark _))))) (pss_one (ps_ret (pe_lc (own := [("_law_k", 9)]) (g := gName 9) rfl sc__law_names.nd (pi_range1 rfl bt.range_ (pa_cons (pv 1) pa_nil)) (blkOk_by (N := ["_law_box_here", "_law_many", "_law_letters_here", "_law_known", "_law_way", "_law_first", "_law_stem", "_law_at", "_law_found", "_law_k", "_law_sign"]) (sc := defScope s__law_names) (by decide +kernel)) (fun _ _ _ _ _ => (pg_name (i := 9) sc__law_names.nd rfl (Or.inl rfl))) (fun _ _ _ _ _ => pts_nil) (fun _ _ _ _ _ => (pe_slice sl_str (pv 6) po_none (po_some (pe_op op_add pe_int (pe_op op_mod (pe_op op_add (pv 5) (pe_op op_mul pe_int (pv 9))) pe_int)))))))) pss_nil)
      (pss_cons (ps_set (i := 7) sc__law_names.nd rfl (Or.inl rfl) (pe_pc p__law_take (hr.mono (by decide)) rfl (pa_cons (pv 0) (pa_cons pe_int pa_nil))))
      (pss_cons (ps_set (i := 8) sc__law_names.nd rfl (Or.inl rfl) (pe_lst pa_nil))
      (pss_cons (ps_for PassesOwn.never rfl (pi_range1 rfl bt.range_ (pa_cons (pv 1) pa_nil)) (pg_name (i := 9) sc__law_names.nd rfl (Or.inl rfl)) (pss_cons (ps_set (i := 10) sc__law_names.nd rfl (Or.inl rfl) (pe_ix ix_str (pv 2) (pe_op op_mod (pe_op op_add (pv 5) (pe_op op_mul pe_int (pv 9))) pe_int) (fun _ _ => rfl)))
      (pss_one (ps_expr (pe_appendK (K := K) rfl (pv 8) (pe_op op_add_str (pe_op op_add_str (pe_slice sl_str (pv 6) po_none (po_some (pv 7))) (pv 10)) (pe_slice sl_str (pv 6) (po_some (pv 7)) (po_some (pe_op op_sub pe_int (pe_op op_mod (pe_op op_add (pv 5) (pv 9)) pe_int))))))))))
      (pss_one (ps_ret (pv 8))))))))))))), ?_⟩
    refine ⟨⟨_, rfl⟩, _, _, rfl, rfl, by decide +kernel, by decide +kernel, fun W hW => ?_⟩
    have ew : Txt.split "put take ask meets above rule shelf tree f g c n" " " = w12 := by decide +kernel
    rw [ew]
    have d0 : Dr b (n + 11) H (L2.upd H W (.lst (w12.map V.str))) := (Dr.refl hb).new hW
    have nW := (Dr.refl hb).ne hW
    have eW : (L2.upd H W (.lst (w12.map V.str))) W = some (.lst (w12.map V.str)) := upd_same ..
    generalize L2.upd H W (.lst (w12.map V.str)) = H0 at d0 eW ⊢
    refine ⟨_, rfl, b, _, n + 10, 4, rfl, d0.bag.choose_spec.1, d0.bag.choose_spec.2, by decide, by decide +kernel, fun wy o1 w0 w1 g1 => ?_⟩
    have d1 := Dr.draw (H := H0) (b := b) g1
    generalize L2.upd H0 b o1 = H1 at d1 ⊢
    refine ⟨_, rfl, b, _, n + 9, 26, rfl, d1.bag.choose_spec.1, d1.bag.choose_spec.2, by decide, by decide +kernel, fun fi o2 f0 f1 g2 => ?_⟩
    have d2 := Dr.draw (H := H1) (b := b) g2
    generalize L2.upd H1 b o2 = H2 at d2 ⊢
    obtain ⟨fn, rfl⟩ : ∃ k : Nat, fi = k := ⟨fi.toNat, by omega⟩
    have hfn : fn < 26 := by omega
    have D2 := d0.trans (d1.trans d2)
    have eW2 := (d1.trans d2).at nW eW
    refine ⟨_, rfl, rfl, _, rfl, ite2 (fun c => ?_) (fun c => ?_)⟩
    · refine ⟨_, rfl, _, rfl, by omega, by omega, fun L hL => ?_⟩
      refine lc_sameF walk_range (fun _ _ => trivial) (by omega) hL (fun k => .str (w12.getD ((fn + 5 * k) % 12) "")) (fun _ => rfl) (fun i H3 C hi s3 k => ?_) (fun H3 s3 e3 => ?_)
      · have hk : (fn + 5 * i) % 12 < w12.length := Nat.mod_lt _ (by decide)
        refine ⟨_, rfl, _, rfl, _, rfl, _, _, rfl, rfl, .inl ⟨by decide, by decide⟩, _, _, rfl, rfl, _, _, rfl, rfl, (by show (0 : Int) < 12; decide), W, _, _, _, rfl, rfl, .inl (.inl (s3 _ _ eW2)), ?_, k _ (Same.refl _)⟩
        rw [show ((fn : Int) + 5 * (0 + (i : Int))) % 12 = (((fn + 5 * i) % 12 : Nat) : Int) by omega]
        refine atI_nat ?_
        rw [List.getElem?_map, List.getD_eq_getElem?_getD, List.getElem?_eq_getElem hk]
        rfl
      · rw [Int.toNat_natCast] at e3
        refine q H3 L ((List.range m).map fun k => w12.getD ((fn + 5 * k) % 12) "") ((D2.trans (Dr.same s3 D2.bag)).mono (by omega)) (names0 hfn hm) (D2.ne hL) ?_
        rw [e3, List.map_map]
        rfl
    · refine ⟨⟨_, rfl⟩, _, rfl, by decide, by decide, fun L hL => ?_⟩
      refine lc_draw (k := 1) (N := n + 1) walk_range (fun _ _ v => ∃ c : Nat, v = .str ⟨#[c]⟩ ∧ 97 ≤ c ∧ c ≤ 122) (fun _ _ _ _ _ h => h) (fun _ _ => trivial) (by decide) hL D2.bag (fun _ => rfl) (fun i k H3 C hi fx hb3 hD3 kk => ?_) (fun H3 xs d3 hl hx e3 neL => ?_)
      · refine ⟨_, rfl, _, rfl, b, _, k, 26, rfl, hb3.choose_spec.1, hb3.choose_spec.2, by decide, by decide +kernel, fun c o3 c0 c1 g3 => ?_⟩
        have d3 := Dr.draw (H := H3) (b := b) g3
        generalize L2.upd H3 b o3 = H4 at d3 ⊢
        have cc : (SMALLs.cps.toList)[c.toNat]? = some (97 + c.toNat) := (by decide +kernel : ∀ j ∈ List.range 26, (SMALLs.cps.toList)[j]? = some (97 + j)) _ (List.mem_range.mpr (by omega))
        have at_ := atI_nat cc
        rw [show ((c.toNat : Nat) : Int) = c by omega] at at_
        exact ⟨_, _, _, rfl, rfl, by decide +kernel, at_, kk _ H4 ⟨_, rfl, by omega, by omega⟩ d3⟩
      · have stx : ∃ st : List Nat, xs = (st.map fun c => V.str ⟨#[c]⟩) ∧ Small st := by
          refine strs_of fun v hv => ?_
          obtain ⟨i, hi⟩ := List.mem_iff_getElem?.mp hv
          obtain ⟨c, e, h⟩ := hx i v hi
          exact ⟨c, e, h⟩
        obtain ⟨st, rfl, hst⟩ := stx
        have h8 : st.length = 8 := by rw [List.length_map] at hl; exact hl
        have ej : Txt.join "" (st.map fun c => (⟨#[c]⟩ : Str)) = ⟨st.toArray⟩ := join_signs st
        refine ⟨_, L, st.map fun c => ⟨#[c]⟩, rfl, rfl, .inl (.inl (.inl (by rw [e3, List.map_map]; rfl))), ?_, ?_⟩
        · have : ((st.map fun c => (⟨#[c]⟩ : Str)).map (·.length)).sum ≤ (st.map fun c => (⟨#[c]⟩ : Str)).length * 1 := sum_len fun z hz => by
            obtain ⟨c, _, rfl⟩ := List.mem_map.mp hz
            exact Nat.le_refl 1
          have e0 : ("" : Str).length = 0 := by decide +kernel
          rw [e0]
          rw [List.length_map] at this
          omega
        · rw [ej]
          have D3 := D2.trans d3
          by_cases hh : wy = 1 ∧ m < 9
          · refine ⟨_, rfl, rfl, _, rfl, iteT' (by rw [eqV_int]; exact decide_eq_true hh.1) ⟨_, rfl, _, _, rfl, rfl, _, rfl, iteT' (decide_eq_true (by omega)) ?_⟩⟩
            refine ⟨_, rfl, _, rfl, by omega, by omega, fun L2 hL2 => ?_⟩
            refine lc_sameF walk_range (fun _ _ => trivial) (by omega) hL2 (fun k => .str ⟨(st.take (1 + (fn + 3 * k) % 8)).toArray⟩) (fun _ => rfl) (fun i H4 C hi s4 k => ?_) (fun H4 s4 e4 => ?_)
            · refine ⟨_, rfl, _, rfl, _, rfl, _, _, rfl, rfl, .inl ⟨by decide, by decide⟩, _, _, rfl, rfl, _, _, rfl, rfl, (by show (0 : Int) < 8; decide), _, _, rfl, rfl, _, rfl, _, rfl, ?_, ?_⟩
              · rw [len_tl, tl_mk, h8]; decide
              · rw [show (1 : Int) + ((fn : Int) + 3 * (0 + (i : Int))) % 8 = ((1 + (fn + 3 * i) % 8 : Nat) : Int) by omega, cut_to (by rw [h8]; omega)]
                exact k _ (Same.refl _)
            · rw [Int.toNat_natCast] at e4
              refine q H4 L2 ((List.range m).map fun k => ⟨(st.take (1 + (fn + 3 * k) % 8)).toArray⟩) ((D3.trans (Dr.same s4 D3.bag)).mono (by omega)) (names1 hst h8 hfn (by omega)) (D3.ne hL2) ?_
              rw [e4, List.map_map]
              rfl
          · refine ⟨_, rfl, rfl, _, rfl, andR ?_ fun c1 r => ⟨_, rfl, _, _, rfl, rfl, _, rfl, iteF' (decide_eq_false fun z => hh ⟨?_, by omega⟩) r⟩⟩
            · refine ⟨_, rfl, b, _, n, 8, rfl, D3.bag.choose_spec.1, D3.bag.choose_spec.2, by decide, by decide +kernel, fun at_ o4 a0 a1 g4 => ?_⟩
              have d4 := Dr.draw (H := H3) (b := b) g4
              generalize L2.upd H3 b o4 = H4 at d4 ⊢
              obtain ⟨an, rfl⟩ : ∃ k : Nat, at_ = k := ⟨at_.toNat, by omega⟩
              have D4 := D3.trans d4
              refine ⟨(by show 0 ≤ sizeLine; decide), fun F hF => ?_⟩
              have nF := D4.ne hF
              refine ⟨_, rfl, _, rfl, by omega, by omega, for_it walk_range (fun i τ G => (∃ y1 y2, τ = [some (.ref b), some (.int m), some (.str SMALLs), some (.ref W), some (.int wy), some (.int fn), some (.str ⟨st.toArray⟩), some (.int an), some (.ref F), y1, y2]) ∧
                Dr b n H4 G ∧ G F = some (.lst ((List.range i).map fun k => V.str ⟨(st.take an ++ [97 + (fn + 7 * k) % 26] ++ (st.drop an).take (7 - (fn + k) % 2 - an)).toArray⟩))) ⟨⟨_, _, rfl⟩, .same (Same.new (Same.refl _) hF) d4.bag, upd_same ..⟩ (fun _ _ _ _ _ => trivial) ?_ ?_⟩
              · rintro i x τ G1 G2 hi ⟨⟨y1, y2, rfl⟩, dG, eF⟩ ⟨rfl, rfl⟩
                have cc : (SMALLs.cps.toList)[(fn + 7 * i) % 26]? = some (97 + (fn + 7 * i) % 26) := (by decide +kernel : ∀ j ∈ List.range 26, (SMALLs.cps.toList)[j]? = some (97 + j)) _ (List.mem_range.mpr (by omega))
                have at_ := atI_nat cc
                rw [show (((fn + 7 * i) % 26 : Nat) : Int) = ((fn : Int) + 7 * (0 + (i : Int))) % 26 by omega] at at_
                refine ⟨_, rfl, _, rfl, _, rfl, _, _, rfl, rfl, .inl ⟨by decide, by decide⟩, _, _, rfl, rfl, _, _, rfl, rfl, (by show (0 : Int) < 26; decide), _, _, _, rfl, rfl, by decide +kernel, at_, ?_⟩
                have l8 : (⟨st.toArray⟩ : Str).length = 8 := by rw [len_tl, tl_mk, h8]
                refine ⟨_, rfl, .inl ⟨rfl, _, .inl (.inl eF)⟩, _, rfl, _, rfl, _, rfl, _, rfl, (by rw [l8]; decide), _, rfl, _, _, rfl, rfl, ?_, _, rfl, _, rfl, _, rfl, _, rfl, _, rfl, _, _, rfl, rfl, _, _, rfl, rfl, (by show (0 : Int) < 2; decide), _, _, rfl, rfl, _, rfl, _, rfl, (by rw [l8]; decide), _, _, rfl, rfl, ?_, ?_⟩
                · rw [cut_to (by rw [h8]; omega), len_tl, tl_mk]
                  refine sz5 ?_
                  have : (⟨#[97 + (fn + 7 * i) % 26]⟩ : Str).length = 1 := rfl
                  rw [this, List.length_take]
                  omega
                · rw [cut_to (by rw [h8]; omega), show (7 : Int) - ((fn : Int) + (0 + (i : Int))) % 2 = ((7 - (fn + i) % 2 : Nat) : Int) by omega, cut_in (by rw [h8]; omega) (by rw [h8]; omega), show (⟨#[97 + (fn + 7 * i) % 26]⟩ : Str) = ⟨[97 + (fn + 7 * i) % 26].toArray⟩ from rfl, str_add, len_tl, len_tl, tl_mk, tl_mk]
                  refine sz5 ?_
                  simp only [List.length_append, List.length_take, List.length_drop, List.length_singleton]
                  omega
                · rw [cut_to (by rw [h8]; omega), show (7 : Int) - ((fn : Int) + (0 + (i : Int))) % 2 = ((7 - (fn + i) % 2 : Nat) : Int) by omega, cut_in (by rw [h8]; omega) (by rw [h8]; omega), show (⟨#[97 + (fn + 7 * i) % 26]⟩ : Str) = ⟨[97 + (fn + 7 * i) % 26].toArray⟩ from rfl, str_add, str_add]
                  refine ⟨F, _, _, rfl, rfl, eF, ?_, ⟨_, _, rfl⟩, ?_, ?_⟩
                  · rw [List.length_map, List.length_range]
                    exact sz5' (by omega)
                  · refine ⟨fun a o ha e => ?_, ?_⟩
                    · rw [upd_ne (ne_of_none e hF)]
                      exact dG.fx a o ha e
                    · obtain ⟨o, e, g⟩ := dG.bag
                      exact ⟨o, by rw [upd_ne nF.symm]; exact e, g⟩
                  · rw [upd_same, List.range_succ, List.map_append]
                    rfl
              · rintro τ G ⟨⟨y1, y2, rfl⟩, dG, eF⟩
                rw [Int.toNat_natCast] at eF
                refine ⟨_, rfl, q G F ((List.range m).map fun k => ⟨(st.take an ++ [97 + (fn + 7 * k) % 26] ++ (st.drop an).take (7 - (fn + k) % 2 - an)).toArray⟩) (D4.trans dG) (names2 hst h8 (by omega) hfn hm) nF ?_⟩
                rw [eF, List.map_map]
                rfl
            · rw [eqV_int] at c1
              exact of_decide_eq_true c1
end

end TS

namespace TS
open PySem PySem.Spec PyProof.Rows L2 TL

/-! ### rows, drawn -/
def rowPy (r : Str × Int) : PyData := .tuple [.str r.1, .int r.2]
structure RowsOk (rows : List (Str × Int)) : Prop where
  some_ : 1 ≤ rows.length
  few : rows.length ≤ 12
  names : ∀ r ∈ rows, nameS r.1 = true
  nd : (rows.map (·.1)).Nodup
  lo : ∀ r ∈ rows, 0 ≤ r.2
  hi : ∀ r ∈ rows, r.2 ≤ 4
/-- rows that were drawn -/
def spDRows (K : PySem.W.Frag) : Sp := fun vs H Q _ => ∃ (b : Addr) (n : Nat), vs = [.ref b] ∧ (∃ o, H b = some o ∧ Bag (n + 26) o) ∧
  ∀ H' p rows, Dr b n H H' → RowsOk rows → H p = none → (∃ xs, H' p = some (.lst xs) ∧ DtAll K (hide H' b) xs (rows.map rowPy)) → p ≠ b → Dt K (hide H' b) (.ref p) (.list (rows.map rowPy)) → Q (.ref p) H'
theorem rows_of {K : PySem.W.Frag} {G : Hp} : ∀ (ns : List Str) (xs : List V), xs.length = ns.length → (∀ (i : Nat) (v : V), xs[i]? = some v → ∃ p : Int, 0 ≤ p ∧ p ≤ 4 ∧ Dt K G v (rowPy (ns.getD i "", p))) →
    ∃ rows : List (Str × Int), rows.map (·.1) = ns ∧ (∀ r ∈ rows, 0 ≤ r.2 ∧ r.2 ≤ 4) ∧ DtAll K G xs (rows.map rowPy)
  | [], [], _, _ => ⟨[], rfl, fun r h => by simp at h, .nil⟩
  | z :: ns, x :: xs, hl, h => by
    obtain ⟨p, h0, h1, h2⟩ := h 0 x rfl
    obtain ⟨rows, e, a, d⟩ := rows_of (K := K) (G := G) ns xs (by simpa using hl) fun i v hv => h (i + 1) v (by simpa using hv)
    refine ⟨(z, p) :: rows, by rw [List.map_cons, e], fun r hr => ?_, .cons h2 d⟩
    rcases List.mem_cons.mp hr with e | m
    · rw [e]; exact ⟨h0, h1⟩
    · exact a r m
section
variable {P : Program} {w : World} {K : PySem.W.Frag} {mg : Str → Option Value} {base : Heap}
abbrev s__law_rows : Stmt := top 44
theorem sc__law_rows : FnScope ["_law_box_here", "_law_many", "_law_name"] ["_law_box_here"] (defScope s__law_rows) := ⟨rfl, rfl, rfl, by decide +kernel, rfl, by decide +kernel, by decide +kernel⟩

set_option maxHeartbeats 1000000 in
theorem ok_drows (bt : Bt mg) (p__law_take : Prom P w K mg base 1 "_law_take" ["_law_box_here", "_law_many"] spTake) (p__law_names : Prom P w K mg base 2 "_law_names" ["_law_box_here", "_law_many"] spNames) (D : Def K mg "_law_rows" s__law_rows) :
    Prom P w K mg base 3 "_law_rows" ["_law_box_here"] (spDRows K) := by
  refine prom_mk D sc__law_rows (fun vs H Q E h => ?_) (fun _ _ _ _ _ _ us hl => match us, hl with | [_], _ => rfl) (fun f cdv A outer s H vs Q E hr h => ?_)
  · obtain ⟨b, n, rfl, _⟩ := h
    rfl
  · obtain ⟨b, n, rfl, hb, q⟩ := h
    refine ⟨_, (pss_cons (ps_set (i := 1) sc__law_rows.nd rfl (Or.inl rfl) (pe_ix (ix_listK (K := K)) (pe_lst (pa_cons (pe_op op_add pe_int (pe_pc p__law_take (hr.mono (by decide)) rfl (pa_cons (pv 0) (pa_cons pe_int pa_nil)))) (pa_cons (pe_op op_add pe_int (pe_pc p__law_take (hr.mono (by decide)) rfl (pa_cons (pv 0) (pa_cons pe_int pa_nil)))) pa_nil))) (pe_pc p__law_take (hr.mono (by decide)) rfl (pa_cons (pv 0) (pa_cons pe_int pa_nil))) (fun _ _ => rfl)))
      (pss_one (ps_ret (pe_lc (own := [("_law_name", 2)]) (g := gName 2) rfl sc__law_rows.nd (pi_listK (K := K) rfl (pe_pc p__law_names (hr.mono (by decide)) rfl (pa_cons (pv 0) (pa_cons (pv 1) pa_nil)))) (blkOk_by (N := ["_law_box_here", "_law_many", "_law_name"]) (sc := defScope s__law_rows) (by decide +kernel)) (fun _ _ _ _ _ => (pg_name (i := 2) sc__law_rows.nd rfl (Or.inl rfl))) (fun _ _ _ _ _ => pts_nil) (fun _ _ _ _ _ => (pe_tup (pa_cons (pv 2) (pa_cons (pe_ix (ix_listK (K := K)) (pe_lst (pa_cons pe_int (pa_cons pe_int (pa_cons pe_int (pa_cons pe_int (pa_cons pe_int (pa_cons pe_int pa_nil))))))) (pe_pc p__law_take (hr.mono (by decide)) rfl (pa_cons (pv 0) (pa_cons pe_int pa_nil))) (fun _ _ => rfl)) pa_nil)))))))), ?_⟩
    refine ⟨_, rfl, b, _, n + 25, 4, rfl, hb.choose_spec.1, hb.choose_spec.2, by decide, by decide +kernel, fun x1 o1 l1 u1 g1 => ?_⟩
    have d1 := Dr.draw (H := H) (b := b) g1
    generalize L2.upd H b o1 = H1 at d1 ⊢
    refine ⟨_, _, rfl, rfl, _, rfl, b, _, n + 24, 12, rfl, d1.bag.choose_spec.1, d1.bag.choose_spec.2, by decide, by decide +kernel, fun x2 o2 l2 u2 g2 => ?_⟩
    have d2 := Dr.draw (H := H1) (b := b) g2
    generalize L2.upd H1 b o2 = H2 at d2 ⊢
    refine ⟨_, _, rfl, rfl, (by show 2 ≤ sizeLine; decide), fun L hL => ?_⟩
    have d3 : Dr b (n + 24) H2 (L2.upd H2 L (.lst [.int (1 + x1), .int (1 + x2)])) := (Dr.refl d2.bag).new hL
    have nL := d2.ne hL
    have eL : (L2.upd H2 L (.lst [.int (1 + x1), .int (1 + x2)])) L = some (.lst [.int (1 + x1), .int (1 + x2)]) := upd_same ..
    generalize L2.upd H2 L (.lst [.int (1 + x1), .int (1 + x2)]) = H3 at d3 eL ⊢
    refine ⟨_, rfl, b, _, n + 23, 2, rfl, d3.bag.choose_spec.1, d3.bag.choose_spec.2, by decide, by decide +kernel, fun x3 o3 l3 u3 g3 => ?_⟩
    have d4 := Dr.draw (H := H3) (b := b) g3
    generalize L2.upd H3 b o3 = H4 at d4 ⊢
    obtain ⟨mv, hmv, hmem⟩ := atI_in (xs := [V.int (1 + x1), .int (1 + x2)]) l3 u3
    obtain ⟨m, rfl, hm1, hm2⟩ : ∃ m : Nat, mv = .int m ∧ 1 ≤ m ∧ m ≤ 12 := by
      rcases List.mem_cons.mp hmem with rfl | hmem
      · exact ⟨(1 + x1).toNat, by rw [show (((1 + x1).toNat : Nat) : Int) = 1 + x1 by omega], by omega, by omega⟩
      · rw [List.mem_singleton.mp hmem]
        exact ⟨(1 + x2).toNat, by rw [show (((1 + x2).toNat : Nat) : Int) = 1 + x2 by omega], by omega, by omega⟩
    refine ⟨L, _, _, _, rfl, rfl, .inl (.inl (d4.at nL eL)), hmv, ?_⟩
    have D4 := d1.trans (d2.trans (d3.trans d4))
    refine ⟨_, rfl, _, rfl, b, n + 12, m, rfl, hm2, D4.bag, fun H5 p ns d5 hns np ep => ?_⟩
    have D5 := D4.trans d5
    refine ⟨p, rfl, ⟨_, .inl (.inl ep)⟩, fun R hR => ?_⟩
    have hl : (ns.map V.str).length = m := by rw [List.length_map]; exact hns.1
    refine lc_draw (k := 1) (N := n + 12 - m) (walk_at walk_list) (fun i G v => ∃ p : Int, 0 ≤ p ∧ p ≤ 4 ∧ Dt K G v (rowPy (ns.getD i "", p))) (fun i G G' v s h => let ⟨p, h0, h1, h2⟩ := h; ⟨p, h0, h1, Dt.same s h2⟩)
      (fun G fx => fx.sq np (.inl (.inl ep))) (by rw [hl]; omega) hR (by rw [hl, show n + 12 - m + 1 * m = n + 12 by omega]; exact D5.bag) (fun _ => rfl) (fun i k G C hi fx hb3 hD3 kk => ?_) (fun G xs dG hlx hx eR neR => ?_)
    · have hni : i < ns.length := by rw [List.length_map] at hl hi; omega
      have ei : (ns.map V.str).getD i .non = .str (ns.getD i "") := by
        rw [List.getD_eq_getElem?_getD, List.getD_eq_getElem?_getD, List.getElem?_map, List.getElem?_eq_getElem hni]
        rfl
      rw [ei]
      refine ⟨_, rfl, (by show 6 ≤ sizeLine; decide), fun pl hpl => ?_⟩
      have e1 : Dr b (k + 1) G (L2.upd G pl (.lst [.int 0, .int 1, .int 2, .int 2, .int 3, .int 4])) := (Dr.refl hb3).new hpl
      have npl := (Dr.refl hb3).ne hpl
      have epl : (L2.upd G pl (.lst [.int 0, .int 1, .int 2, .int 2, .int 3, .int 4])) pl = some (.lst [.int 0, .int 1, .int 2, .int 2, .int 3, .int 4]) := upd_same ..
      generalize L2.upd G pl (.lst [.int 0, .int 1, .int 2, .int 2, .int 3, .int 4]) = G1 at e1 epl ⊢
      refine ⟨_, rfl, b, _, k, 6, rfl, e1.bag.choose_spec.1, e1.bag.choose_spec.2, by decide, by decide +kernel, fun x o4 x0 x1 g4 => ?_⟩
      have e2 := Dr.draw (H := G1) (b := b) g4
      generalize L2.upd G1 b o4 = G2 at e2 ⊢
      obtain ⟨v, hv, hvm⟩ := atI_in (xs := [V.int 0, .int 1, .int 2, .int 2, .int 3, .int 4]) x0 x1
      obtain ⟨pp, rfl, p0, p4⟩ : ∃ pp : Int, v = .int pp ∧ 0 ≤ pp ∧ pp ≤ 4 := by
        simp only [List.mem_cons, List.not_mem_nil, or_false] at hvm
        rcases hvm with rfl | rfl | rfl | rfl | rfl | rfl <;> exact ⟨_, rfl, by decide, by decide⟩
      refine ⟨pl, _, _, _, rfl, rfl, .inl (.inl (e2.at npl epl)), hv, (by show 2 ≤ sizeLine; decide), fun t ht => ?_⟩
      have E2 := e1.trans e2
      refine kk _ _ ⟨pp, p0, p4, .tup (.inl (.inl (hide2_at (E2.ne ht) ?_ (upd_same ..)))) (.cons (.str _) (.cons (.int pp) .nil))⟩ (E2.new ht)
      obtain ⟨oR, eoR⟩ := hD3
      have neR : R ≠ b := D5.ne hR
      have := E2.at neR eoR
      exact fun z => by rw [z, this] at ht; cases ht
    · obtain ⟨rows, er, e1, e2⟩ := rows_of (K := K) (G := hide G b) ns xs (by rw [hlx, List.length_map]) fun i v hv => by
        obtain ⟨p, h0, h1, h2⟩ := hx i v hv
        exact ⟨p, h0, h1, Dt.same hide_same h2⟩
      have len : rows.length = m := by rw [← hns.1, ← er, List.length_map]
      refine q G R rows ((D5.trans dG).mono (by omega)) ⟨by omega, by omega, fun r hr => hns.2.1 _ (by rw [← er]; exact List.mem_map_of_mem hr), by rw [er]; exact hns.2.2, fun r hr => (e1 r hr).1, fun r hr => (e1 r hr).2⟩ (D5.free hR) ⟨_, eR, e2⟩ neR (.lst (.inl (.inl ?_)) e2)
      rw [hide_ne neR]
      exact eR
end

end TS

namespace TS
open PySem PySem.Spec PyProof.Rows L2 TL

/-! ### numbers and letters -/
def digit (c : Nat) : Bool := decide (48 ≤ c) && decide (c ≤ 57)
theorem in_figures (c : Nat) : decide (c ∈ ("0123456789" : Str).cps.toList) = digit c := by
  have e : ("0123456789" : Str).cps.toList = (List.range 10).map (· + 48) := by decide +kernel
  rw [e]
  unfold digit
  by_cases h : 48 ≤ c ∧ c ≤ 57
  · rw [decide_eq_true h.1, decide_eq_true h.2]
    exact decide_eq_true (List.mem_map.mpr ⟨c - 48, List.mem_range.mpr (by omega), by omega⟩)
  · have n : c ∉ (List.range 10).map (· + 48) := fun m => by
      obtain ⟨k, hk, rfl⟩ := List.mem_map.mp m
      have := List.mem_range.mp hk
      omega
    rw [decide_eq_false n]
    by_cases h1 : 48 ≤ c
    · rw [decide_eq_true h1, decide_eq_false (fun h2 => h ⟨h1, h2⟩)]; rfl
    · rw [decide_eq_false h1]; rfl
/-- plainly written -/
def plainL (l : List Nat) : Bool := (decide (1 ≤ l.length) && decide (l.length ≤ 30)) && (l.all digit && !(decide (l.head? = some 48) && !decide (l = [48])))
def numR (lo hi : Int) : PyData → V
  | .str z => if plainL (tl z) && (decide (lo ≤ (NumText.digitsVal (tl z) : Nat)) && decide (((NumText.digitsVal (tl z) : Nat) : Int) ≤ hi)) then .int (NumText.digitsVal (tl z) : Nat) else .non
  | _ => .non
def spNumIn (K : PySem.W.Frag) : Sp := fun vs H Q _ => ∃ (x : V) (d : PyData) (lo hi : Int), vs = [x, .int lo, .int hi] ∧ Dt K H x d ∧ (∀ z, d = .str z → z.length ≤ 100000) ∧ ∀ H', Same H H' → Q (numR lo hi d) H'
section
variable {P : Program} {w : World} {K : PySem.W.Frag} {mg : Str → Option Value} {base : Heap}
abbrev s_number_in : Stmt := top 21
theorem sc_number_in : FnScope ["thing", "low", "high", "number", "sign"] ["thing", "low", "high"] (defScope s_number_in) := ⟨rfl, rfl, rfl, by decide +kernel, rfl, by decide +kernel, by decide +kernel⟩

theorem ok_number_in (bt : Bt mg) (k_MOST_FIGURES : ∃ t, mg "MOST_FIGURES" = some (.int 30 t)) (k_FIGURES : ∃ t, mg "FIGURES" = some (.str "0123456789" t)) (D : DefK K mg "number_in" s_number_in [("low", .int 0), ("high", .int 9999)]) :
    PromK P w K mg base 1 "number_in" ["thing", "low", "high"] (spNumIn K) 1 ["high"] (fun vs zs => vs ++ ([V.int 0] ++ zs)) := by
  obtain ⟨t_MOST_FIGURES, c_MOST_FIGURES⟩ := k_MOST_FIGURES
  obtain ⟨t_FIGURES, c_FIGURES⟩ := k_FIGURES
  refine promK_mk (n := 1) (ks := ["high"]) D sc_number_in (fun vs H Q E h => ?_) [("low", .int 0)] (fun us mv ws => us ++ (mv ++ ws)) (by decide) (fun q hq => by rw [List.mem_singleton.mp hq]; simp) (fun r1 r2 r3 => r1.append (r2.append r3))
    (fun D doc pm an cdv ct us mv ws l1 l2 l3 => ?_) (fun f cdv A outer s H vs Q E hr h => ?_)
  · obtain ⟨x, d, lo, hi, rfl, _⟩ := h
    rfl
  · match us, l1, mv, l2, ws, l3 with
    | [u], _, [m], _, [v], _ => exact ⟨_, _, _, _, _, _, rfl, rfl, rfl⟩
  · obtain ⟨x, d, lo, hi, rfl, hd, hz, q⟩ := h
    refine ⟨_, (pss_cons (ps_if (PW.pt (pw_or (pt_not (pt_val (pe_callB (id := "isinstance") (isiK (K := K)) (by rfl) bt.isinstance_ (by decide +kernel) (pa_cons (pv 0) (pa_cons (pe_bltn (v := .ty "str") rfl bt.str_ (by decide +kernel) rfl) pa_nil))))) (pw_or1 (pt_not (pt_chain op_le op_le pe_int (pe_callB (id := "len") (lenK (K := K)) (by rfl) bt.len_ (by decide +kernel) (pa_cons (pv 0) pa_nil)) (pe_glob (v := .int 30) rfl c_MOST_FIGURES ⟨_, rfl⟩)))))) (pss_one (ps_ret pe_non)) pss_nil)
      (pss_cons (ps_if (PW.pt (pw_or (pt_not (pt_val (pe_callB (id := "all") (allK (K := K) rfl) (by rfl) bt.all_ (by decide +kernel) (pa_cons (pe_lc (own := [("sign", 4)]) (g := gName 4) rfl sc_number_in.nd (pi_str (pv 0)) (blkOk_by (N := ["thing", "low", "high", "number", "sign"]) (sc := defScope s_number_in) (by decide +kernel)) (fun _ _ _ _ _ => (pg_name (i := 4) sc_number_in.nd rfl (Or.inl rfl))) (fun _ _ _ _ _ => pts_nil) (fun _ _ _ _ _ => (pe_cmpR op_in_sign (pv 4) (pe_glob (v := .str "0123456789") rfl c_FIGURES ⟨_, rfl⟩) rfl))) pa_nil)))) (pw_or1 (PW.pt (pw_and (pt_cmpR op_eq (pe_ix ix_str (pv 0) pe_int (fun _ _ => rfl)) pe_str (nomark _)) (pw_and1 (pt_cmpR op_ne (pv 0) pe_str (nomark _)))))))) (pss_one (ps_ret pe_non)) pss_nil)
      (pss_cons (ps_set (i := 3) sc_number_in.nd rfl (Or.inl rfl) (pe_callTy (T := "int") call_int_str (by rfl) bt.int_ (by decide +kernel) (pa_cons (pv 0) pa_nil)))
      (pss_one (ps_ret (pe_ifExp (pt_chain op_le op_le (pv 1) (pv 3) (pv 2)) (pv 3) pe_non)))))), ?_⟩
    refine ⟨_, rfl, _, _, _, _, isD "str" d, rfl, .ty "str", hd.ty, isi_str, _, rfl, ?_⟩
    cases c : isD "str" d with
    | false =>
      have e : numR lo hi d = .non := by
        cases d <;> first | rfl | (rw [isD_strs] at c; cases c)
      rw [e] at q
      exact iteT (iteT (q _ (Same.refl _)))
    | true =>
      obtain ⟨z, rfl⟩ := isD_str c
      cases hd
      have hz' := hz z rfl
      refine iteF ⟨_, rfl, _, _, rfl, ⟨sz5 hz', rfl⟩, _, _, rfl, rfl, _, rfl, ?_⟩
      have non : plainL (tl z) = false → ∀ G, Same H G → Q .non G := fun e G sG => by
        have e2 : numR lo hi (.str z) = .non := by
          show (if (plainL (tl z) && _) = true then _ else _) = _
          rw [e]
          rfl
        have := q G sG
        rw [e2] at this
        exact this
      have len0 : (tl z).length = z.length := (len_tl z).symm
      by_cases h1 : 1 ≤ z.length
      · rw [decide_eq_true (show (1 : Int) ≤ (z.length : Nat) by omega)]
        refine iteT ⟨_, _, rfl, rfl, _, rfl, ?_⟩
        by_cases h2 : z.length ≤ 30
        · rw [decide_eq_true (show ((z.length : Nat) : Int) ≤ 30 by omega)]
          refine iteF ⟨_, rfl, z, rfl, fun L hL => ?_⟩
          have sL : ∀ o : HO, Same H (L2.upd H L o) := fun o => Same.new (Same.refl _) hL
          refine lc_signs (fun c => V.bl (decide (c ∈ ("0123456789" : Str).cps.toList))) hz' (fun c G C qq => ⟨rfl, _, rfl, c, _, rfl, rfl, qq⟩) ?_ gName_mono
          refine ⟨L, (tl z).map fun c => decide (c ∈ ("0123456789" : Str).cps.toList), rfl, .inl (.inl (by rw [upd_same, List.map_map]; rfl)), _, rfl, ?_⟩
          have e : ((tl z).map fun c => decide (c ∈ ("0123456789" : Str).cps.toList)).all id = (tl z).all digit := by
            rw [List.all_map]
            congr 1
            funext c
            exact in_figures c
          rw [e]
          have sG := sL (.lst ((tl z).map fun c => V.bl (decide (c ∈ ("0123456789" : Str).cps.toList))))
          generalize L2.upd H L _ = G at sG ⊢
          obtain ⟨c0, r0, er⟩ : ∃ c r, tl z = c :: r := by
            cases ez : tl z with
            | nil => rw [ez] at len0; simp at len0; omega
            | cons c r => exact ⟨c, r, rfl⟩
          cases al : (tl z).all digit with
          | false =>
            refine iteT (iteT (non ?_ _ sG))
            unfold plainL
            rw [al, Bool.false_and, Bool.and_false]
          | true =>
            refine iteF ⟨_, rfl, z, _, c0, rfl, rfl, sz5 hz', atI_nat (j := 0) (by show (tl z)[0]? = _; rw [er]; rfl), rfl, _, rfl, ?_⟩
            have dc : decide (V.str ⟨#[c0]⟩ = V.str "0") = decide (c0 = 48) := by
              have h : ("0" : Str) = ⟨#[48]⟩ := by decide +kernel
              rw [h]
              simp
            have dz : decide (V.str z = V.str "0") = decide (tl z = [48]) := by
              have h : ("0" : Str) = ⟨#[48]⟩ := by decide +kernel
              rw [h]
              by_cases hh : tl z = [48]
              · rw [decide_eq_true hh]
                exact decide_eq_true (congrArg V.str (ext_tl hh))
              · rw [decide_eq_false hh]
                exact decide_eq_false fun x => hh (by rw [V.str.inj x])
            have go : plainL (tl z) = true → ∀ C : Prop, True := fun _ _ => trivial
            have pl : plainL (tl z) = !(decide (c0 = 48) && !decide (tl z = [48])) := by
              unfold plainL
              rw [al, len0, decide_eq_true h1, decide_eq_true h2, er]
              simp
            have ci : PySem.intText? z = some ((NumText.digitsVal (tl z) : Nat) : Int) := PySem.intText_digits (by
              intro c hc
              have := List.all_eq_true.mp al c hc
              unfold digit at this
              obtain ⟨x1, x2⟩ := Bool.and_eq_true_iff.mp this
              exact ⟨of_decide_eq_true x1, of_decide_eq_true x2⟩) (by show tl z ≠ []; rw [er]; simp) (by omega)
            rw [dc]
            by_cases h48 : c0 = 48
            · rw [decide_eq_true h48]
              refine iteT ⟨_, rfl, rfl, _, rfl, ?_⟩
              rw [dz]
              by_cases hz0 : tl z = [48]
              · rw [decide_eq_true hz0]
                refine iteF ?_
                have plt : plainL (tl z) = true := by
                  rw [pl]
                  rw [decide_eq_true h48, decide_eq_true hz0]; rfl
                refine ⟨_, rfl, z, _, rfl, ci, by omega, _, rfl, _, rfl, _, _, rfl, rfl, _, rfl, ?_⟩
                have qq : Q (if (decide (lo ≤ ((NumText.digitsVal (tl z) : Nat) : Int)) && decide (((NumText.digitsVal (tl z) : Nat) : Int) ≤ hi)) = true then .int (NumText.digitsVal (tl z) : Nat) else .non) G := by
                  have := q G sG
                  rw [show numR lo hi (.str z) = (if (plainL (tl z) && (decide (lo ≤ ((NumText.digitsVal (tl z) : Nat) : Int)) && decide (((NumText.digitsVal (tl z) : Nat) : Int) ≤ hi))) = true then .int (NumText.digitsVal (tl z) : Nat) else .non) from rfl, plt, Bool.true_and] at this
                  exact this
                by_cases hlo : lo ≤ ((NumText.digitsVal (tl z) : Nat) : Int)
                · rw [decide_eq_true hlo, Bool.true_and] at qq
                  refine iteT' (decide_eq_true hlo) ⟨_, rfl, _, _, rfl, rfl, _, rfl, ?_⟩
                  by_cases hhi : ((NumText.digitsVal (tl z) : Nat) : Int) ≤ hi
                  · rw [decide_eq_true hhi] at qq
                    exact iteT' (decide_eq_true hhi) ⟨_, rfl, qq⟩
                  · rw [decide_eq_false hhi] at qq
                    exact iteF' (decide_eq_false hhi) qq
                · rw [decide_eq_false hlo] at qq
                  exact iteF' (decide_eq_false hlo) ⟨_, rfl, iteF qq⟩
              · rw [decide_eq_false hz0]
                refine iteT (non ?_ _ sG)
                rw [pl, decide_eq_true h48, decide_eq_false hz0]
                rfl
            · rw [decide_eq_false h48]
              refine iteF (iteF ?_)
              have plt : plainL (tl z) = true := by
                rw [pl]
                rw [decide_eq_false h48]; rfl
              refine ⟨_, rfl, z, _, rfl, ci, by omega, _, rfl, _, rfl, _, _, rfl, rfl, _, rfl, ?_⟩
              have qq : Q (if (decide (lo ≤ ((NumText.digitsVal (tl z) : Nat) : Int)) && decide (((NumText.digitsVal (tl z) : Nat) : Int) ≤ hi)) = true then .int (NumText.digitsVal (tl z) : Nat) else .non) G := by
                have := q G sG
                rw [show numR lo hi (.str z) = (if (plainL (tl z) && (decide (lo ≤ ((NumText.digitsVal (tl z) : Nat) : Int)) && decide (((NumText.digitsVal (tl z) : Nat) : Int) ≤ hi))) = true then .int (NumText.digitsVal (tl z) : Nat) else .non) from rfl, plt, Bool.true_and] at this
                exact this
              by_cases hlo : lo ≤ ((NumText.digitsVal (tl z) : Nat) : Int)
              · rw [decide_eq_true hlo, Bool.true_and] at qq
                refine iteT' (decide_eq_true hlo) ⟨_, rfl, _, _, rfl, rfl, _, rfl, ?_⟩
                by_cases hhi : ((NumText.digitsVal (tl z) : Nat) : Int) ≤ hi
                · rw [decide_eq_true hhi] at qq
                  exact iteT' (decide_eq_true hhi) ⟨_, rfl, qq⟩
                · rw [decide_eq_false hhi] at qq
                  exact iteF' (decide_eq_false hhi) qq
              · rw [decide_eq_false hlo] at qq
                exact iteF' (decide_eq_false hlo) ⟨_, rfl, iteF qq⟩
        · rw [decide_eq_false (show ¬ ((z.length : Nat) : Int) ≤ 30 by omega)]
          refine iteT (non ?_ _ (Same.refl _))
          unfold plainL
          rw [len0, decide_eq_false h2, Bool.and_false, Bool.false_and]
      · rw [decide_eq_false (show ¬ (1 : Int) ≤ (z.length : Nat) by omega)]
        refine iteF ⟨_, rfl, iteT (non ?_ _ (Same.refl _))⟩
        unfold plainL
        rw [len0, decide_eq_false h1]
        rfl
def capL (c : Nat) : Bool := decide (65 ≤ c) && decide (c ≤ 90)
theorem in_caps (c : Nat) : decide (c ∈ ("ABCDEFGHIJKLMNOPQRSTUVWXYZ" : Str).cps.toList) = capL c := by
  have e : ("ABCDEFGHIJKLMNOPQRSTUVWXYZ" : Str).cps.toList = (List.range 26).map (· + 65) := by decide +kernel
  rw [e]
  unfold capL
  by_cases h : 65 ≤ c ∧ c ≤ 90
  · rw [decide_eq_true h.1, decide_eq_true h.2]
    exact decide_eq_true (List.mem_map.mpr ⟨c - 65, List.mem_range.mpr (by omega), by omega⟩)
  · have n : c ∉ (List.range 26).map (· + 65) := fun m => by
      obtain ⟨k, hk, rfl⟩ := List.mem_map.mp m
      have := List.mem_range.mp hk
      omega
    rw [decide_eq_false n]
    by_cases h1 : 65 ≤ c
    · rw [decide_eq_true h1, decide_eq_false (fun h2 => h ⟨h1, h2⟩)]; rfl
    · rw [decide_eq_false h1]; rfl
def letterL : List Nat → Bool
  | [] => false
  | c :: r => capL c && (decide (r = []) || (plainL r && decide (NumText.digitsVal r ≤ 99)))
def letterD : PyData → Bool
  | .str z => letterL (tl z)
  | _ => false
def spLetter (K : PySem.W.Frag) : Sp := fun vs H Q _ => ∃ (x : V) (d : PyData), vs = [x] ∧ Dt K H x d ∧ (∀ z, d = .str z → z.length ≤ 100000) ∧ ∀ H', Same H H' → Q (.bl (letterD d)) H'
abbrev s_is_letter : Stmt := top 22
theorem sc_is_letter : FnScope ["thing"] ["thing"] (defScope s_is_letter) := ⟨rfl, rfl, rfl, by decide +kernel, rfl, by decide +kernel, by decide +kernel⟩

theorem ok_is_letter (bt : Bt mg) (k_CAPITALS : ∃ t, mg "CAPITALS" = some (.str "ABCDEFGHIJKLMNOPQRSTUVWXYZ" t)) (k_LAST_LETTER : ∃ t, mg "LAST_LETTER" = some (.int 99 t)) (p_number_in : PromK P w K mg base 1 "number_in" ["thing", "low", "high"] (spNumIn K) 1 ["high"] (fun vs zs => vs ++ ([V.int 0] ++ zs))) (D : Def K mg "is_letter" s_is_letter) :
    Prom P w K mg base 2 "is_letter" ["thing"] (spLetter K) := by
  obtain ⟨t_CAPITALS, c_CAPITALS⟩ := k_CAPITALS
  obtain ⟨t_LAST_LETTER, c_LAST_LETTER⟩ := k_LAST_LETTER
  refine prom_mk D sc_is_letter (fun vs H Q E h => ?_) (fun _ _ _ _ _ _ us hl => match us, hl with | [_], _ => rfl) (fun f cdv A outer s H vs Q E hr h => ?_)
  · obtain ⟨x, d, rfl, _⟩ := h
    rfl
  · obtain ⟨x, d, rfl, hd, hz, q⟩ := h
    refine ⟨_, (pss_cons (ps_if (PW.pt (pw_or (pt_not (pt_val (pe_callB (id := "isinstance") (isiK (K := K)) (by rfl) bt.isinstance_ (by decide +kernel) (pa_cons (pv 0) (pa_cons (pe_bltn (v := .ty "str") rfl bt.str_ (by decide +kernel) rfl) pa_nil))))) (pw_or (pt_cmpR op_eq (pv 0) pe_str (nomark _)) (pw_or1 (pt_cmpR op_notIn_sign (pe_ix ix_str (pv 0) pe_int (fun _ _ => rfl)) (pe_glob (v := .str "ABCDEFGHIJKLMNOPQRSTUVWXYZ") rfl c_CAPITALS ⟨_, rfl⟩) rfl))))) (pss_one (ps_ret pe_bl)) pss_nil)
      (pss_one (ps_ret (pe_or (pe_cmpR op_eq (pe_callB (id := "len") (lenK (K := K)) (by rfl) bt.len_ (by decide +kernel) (pa_cons (pv 0) pa_nil)) pe_int (nomark _)) (pe_one (pe_cmpR op_notN (pe_pcK p_number_in (hr.mono (by decide)) rfl (pa_cons (pe_slice sl_str (pv 0) (po_some pe_int) po_none) pa_nil) (pk_cons (pe_glob (v := .int 99) rfl c_LAST_LETTER ⟨_, rfl⟩) pk_nil)) pe_non (nomark _))))))), ?_⟩
    refine ⟨_, rfl, _, _, _, _, isD "str" d, rfl, .ty "str", hd.ty, isi_str, _, rfl, ?_⟩
    cases c : isD "str" d with
    | false =>
      have e : letterD d = false := by
        cases d <;> first | rfl | (rw [isD_strs] at c; cases c)
      rw [e] at q
      exact iteT (iteT (q _ (Same.refl _)))
    | true =>
      obtain ⟨z, rfl⟩ := isD_str c
      cases hd
      have hz' := hz z rfl
      replace q : ∀ G, Same H G → Q (.bl (letterL (tl z))) G := q
      refine iteF ⟨_, rfl, rfl, _, rfl, ?_⟩
      have len0 : (tl z).length = z.length := (len_tl z).symm
      cases er : tl z with
      | nil =>
        have ez : z = "" := ext_tl (by rw [er]; decide +kernel)
        refine iteT' (by rw [ez]; simp) (iteT ?_)
        have := q H (Same.refl _)
        rw [er] at this
        exact this
      | cons c0 r0 =>
        have nz : ¬ V.str z = V.str "" := fun e => by
          rw [V.str.inj e] at er
          have : tl ("" : Str) = [] := by decide +kernel
          rw [this] at er
          cases er
        refine iteF' (decide_eq_false nz) ⟨_, rfl, z, _, c0, rfl, rfl, sz5 hz', atI_nat (j := 0) (by show (tl z)[0]? = _; rw [er]; rfl), c0, _, rfl, rfl, _, rfl, ?_⟩
        rw [in_caps]
        rw [er] at q
        replace q : ∀ G, Same H G → Q (.bl (capL c0 && (decide (r0 = []) || (plainL r0 && decide (NumText.digitsVal r0 ≤ 99))))) G := q
        cases hc : capL c0 with
        | false =>
          rw [hc] at q
          exact iteT (q _ (Same.refl _))
        | true =>
          rw [hc, Bool.true_and] at q
          refine iteF ⟨_, rfl, _, _, rfl, ⟨sz5 hz', rfl⟩, rfl, _, rfl, ?_⟩
          rw [eqV_int]
          have lz : z.length = r0.length + 1 := by rw [← len0, er]; rfl
          by_cases hr0 : r0 = []
          · rw [decide_eq_true hr0] at q
            refine iteT' (decide_eq_true (by rw [lz, hr0]; rfl)) ?_
            exact q _ (Same.refl _)
          · rw [decide_eq_false hr0, Bool.false_or] at q
            have hl : r0.length ≠ 0 := fun e => hr0 (List.length_eq_zero_iff.mp e)
            refine iteF' (decide_eq_false (by omega)) ?_
            have ec : cutS z (some 1) none = ⟨r0.toArray⟩ := by
              refine ext_tl ?_
              rw [tl_mk]
              show ((tl z).drop (HT.sIx z.length 0 (some ((1 : Nat) : Int)))).take (HT.sIx z.length z.length none - HT.sIx z.length 0 (some ((1 : Nat) : Int))) = r0
              rw [HT.sIx_nat, HT.sIx_none, Nat.min_eq_left (by omega), er]
              show r0.take (z.length - 1) = r0
              exact List.take_of_length_le (by omega)
            refine ⟨_, rfl, _, rfl, z, rfl, sz5 hz', rfl, rfl, _, .str (cutS z (some 1) none), 0, 99, rfl, .str _, fun y e => ?_, fun G sG => ⟨rfl, ?_⟩⟩
            · cases e
              rw [ec, len_tl, tl_mk]
              omega
            · rw [ec]
              have e2 : (!decide (numR 0 99 (.str ⟨r0.toArray⟩) = V.non)) = (plainL r0 && decide (NumText.digitsVal r0 ≤ 99)) := by
                show (!decide ((if (plainL (tl ⟨r0.toArray⟩) && (decide ((0 : Int) ≤ ((NumText.digitsVal (tl ⟨r0.toArray⟩) : Nat) : Int)) && decide (((NumText.digitsVal (tl ⟨r0.toArray⟩) : Nat) : Int) ≤ 99))) = true then V.int (NumText.digitsVal (tl ⟨r0.toArray⟩) : Nat) else V.non) = V.non)) = _
                rw [tl_mk, decide_eq_true (show (0 : Int) ≤ ((NumText.digitsVal r0 : Nat) : Int) by omega), Bool.true_and]
                have e3 : decide (((NumText.digitsVal r0 : Nat) : Int) ≤ 99) = decide (NumText.digitsVal r0 ≤ 99) := by
                  by_cases h : NumText.digitsVal r0 ≤ 99
                  · rw [decide_eq_true h, decide_eq_true (by omega)]
                  · rw [decide_eq_false h, decide_eq_false (by omega)]
                rw [e3]
                cases hp : (plainL r0 && decide (NumText.digitsVal r0 ≤ 99)) with
                | true => rw [if_pos rfl]; simp
                | false => rw [if_neg Bool.false_ne_true]; simp
              rw [e2]
              exact q G sG
end

end TS

namespace TS
open PySem PySem.Spec PyProof.Rows L2 TL

/-! ### Words: has, told_of, places -/
def hasR (rows : List (Str × Int)) : PyData → Bool
  | .str z => decide (z ∈ rows.map (·.1))
  | _ => false
def plR (rows : List (Str × Int)) (z : Str) : Int := ((rows.find? fun r => decide (r.1 = z)).map (·.2)).getD 0
def spHas (K : PySem.W.Frag) : Sp := fun vs H Q _ => ∃ (a : Addr) (rows : List (Str × Int)) (x : V) (d : PyData), vs = [.ref a, x] ∧ WordsAt K H a rows ∧ Dt K H x d ∧ Q (.bl (hasR rows d)) H
def spTold (K : PySem.W.Frag) : Sp := fun vs H Q _ => ∃ (a : Addr) (rows : List (Str × Int)) (z : Str), vs = [.ref a, .str z] ∧ WordsAt K H a rows ∧ z ∈ rows.map (·.1) ∧ ∀ (t : Addr) (i : Nat), SqT K H t [.int (plR rows z), .int i] → Q (.ref t) H
def spPlaces (K : PySem.W.Frag) : Sp := fun vs H Q _ => ∃ (a : Addr) (rows : List (Str × Int)) (z : Str), vs = [.ref a, .str z] ∧ WordsAt K H a rows ∧ z ∈ rows.map (·.1) ∧ Q (.int (plR rows z)) H
theorem went_none {K : PySem.W.Frag} {G : Hp} {kvs : List (Key × V)} {rows : List (Str × Int)} (h : WEnt K G kvs rows) {z : Str} (hz : z ∉ rows.map (·.1)) : valV kvs (Sum.inr z) = none :=
  valV_none fun kv m e => by
    obtain ⟨i, hi⟩ := List.mem_iff_getElem?.mp m
    have il : i < rows.length := by rw [← h.len]; exact (List.getElem?_eq_some_iff.mp hi).1
    obtain ⟨t, h1, _⟩ := h.at_ i rows[i] (List.getElem?_eq_getElem il)
    rw [hi] at h1
    cases h1
    exact hz (by rw [← Sum.inr.inj e]; exact List.mem_map_of_mem (List.getElem_mem il))
theorem went_some {K : PySem.W.Frag} {G : Hp} {kvs : List (Key × V)} {rows : List (Str × Int)} (h : WEnt K G kvs rows) {z : Str} (hz : z ∈ rows.map (·.1)) : ∃ (t : Addr) (i : Nat), valV kvs (Sum.inr z) = some (.ref t) ∧ SqT K G t [.int (plR rows z), .int i] := by
  obtain ⟨r0, hr0, e0⟩ := List.mem_map.mp hz
  cases hf : rows.find? fun r => decide (r.1 = z) with
  | none => exact absurd (List.find?_eq_none.mp hf r0 hr0) (by simp [e0])
  | some r =>
    obtain ⟨hp, i, il, ei, before⟩ := List.find?_eq_some_iff_getElem.mp hf
    obtain ⟨t, h1, h2⟩ := h.at_ i r (by rw [List.getElem?_eq_getElem il, ei])
    have ez : r.1 = z := of_decide_eq_true hp
    refine ⟨t, i, ?_, ?_⟩
    · unfold valV
      have kl : i < kvs.length := by rw [h.len]; exact il
      have hk : kvs.find? (fun kv => decide (kv.1 = (Sum.inr z : Key))) = some (Sum.inr r.1, .ref t) := by
        refine List.find?_eq_some_iff_getElem.mpr ⟨by rw [ez]; simp, i, kl, ?_, fun j hj => ?_⟩
        · rw [List.getElem?_eq_getElem kl] at h1
          exact Option.some.inj h1
        · have jl : j < rows.length := by omega
          obtain ⟨t2, h3, _⟩ := h.at_ j rows[j] (List.getElem?_eq_getElem jl)
          have jk : j < kvs.length := by rw [h.len]; exact jl
          rw [List.getElem?_eq_getElem jk] at h3
          rw [Option.some.inj h3]
          have := before j hj
          simp only [Bool.not_eq_true', decide_eq_false_iff_not] at this ⊢
          exact fun e => this (Sum.inr.inj e)
      rw [hk]
      rfl
    · have : plR rows z = r.2 := by unfold plR; rw [hf]; rfl
      rw [this]
      exact h2
section
variable {P : Program} {w : World} {K : PySem.W.Frag} {mg : Str → Option Value} {base : Heap}
abbrev s_Words_has : Stmt := inClass (top 29) 5
theorem sc_Words_has : FnScope ["self", "thing"] ["self", "thing"] (defScope s_Words_has) := ⟨rfl, rfl, rfl, by decide +kernel, rfl, by decide +kernel, by decide +kernel⟩

theorem ok_Words_has (bt : Bt mg) (cl : Cls K (wcls K)) (nb : NoAttr K (wcls K) "by_name") (D : DefM K (He.ma K (wcls K) "has") "has" "Words.has" s_Words_has) : PromA CX0 P w K mg base 1 (He.ma K (wcls K) "has") ["self", "thing"] (spHas K) := by
  refine meth_mk D sc_Words_has (fun vs H Q E h => ?_) (fun _ _ _ _ _ _ us hl => match us, hl with | [_, _], _ => rfl) (fun cdv A outer s H vs Q E hr h => ?_)
  · obtain ⟨a, rows, x, d, rfl, _⟩ := h
    rfl
  · obtain ⟨a, rows, x, d, rfl, ⟨dx, D, kvs, e1, e2, e3⟩, hd, q⟩ := h
    refine ⟨_, (pss_one (ps_ret (pe_and (pe_callB (id := "isinstance") (isiK (K := K)) (by rfl) bt.isinstance_ (by decide +kernel) (pa_cons (pv 1) (pa_cons (pe_bltn (v := .ty "str") rfl bt.str_ (by decide +kernel) rfl) pa_nil))) (pe_one (pe_cmp (pc_din (units1 hr) (pv 1) (pe_fld (pv 0) rfl))))))), ?_⟩
    refine ⟨_, rfl, _, _, _, _, isD "str" d, rfl, .ty "str", hd.ty, isi_str, _, rfl, ?_⟩
    cases c : isD "str" d with
    | false =>
      have e : hasR rows d = false := by
        cases d <;> first | rfl | (rw [isD_strs] at c; cases c)
      rw [e] at q
      exact iteF q
    | true =>
      obtain ⟨z, rfl⟩ := isD_str c
      cases hd
      refine iteT ⟨_, rfl, _, rfl, a, _, dx, _, _, rfl, e1, cl, nb, rfl, D, _, rfl, DGet.k (k := Sum.inr z) e2, ?_⟩
      have e : (valV kvs (Sum.inr z)).isSome = hasR rows (.str z) := by
        show _ = decide (z ∈ rows.map (·.1))
        by_cases hz : z ∈ rows.map (·.1)
        · obtain ⟨t, i, h1, _⟩ := went_some e3 hz
          rw [h1, decide_eq_true hz]
          rfl
        · rw [went_none e3 hz, decide_eq_false hz]
          rfl
      rw [e]
      exact q
abbrev s_Words_told_of : Stmt := inClass (top 29) 2
theorem sc_Words_told_of : FnScope ["self", "name"] ["self", "name"] (defScope s_Words_told_of) := ⟨rfl, rfl, rfl, by decide +kernel, rfl, by decide +kernel, by decide +kernel⟩

theorem ok_Words_told (bt : Bt mg) (cl : Cls K (wcls K)) (nb : NoAttr K (wcls K) "by_name") (D : DefM K (He.ma K (wcls K) "told_of") "told_of" "Words.told_of" s_Words_told_of) : PromA CX0 P w K mg base 1 (He.ma K (wcls K) "told_of") ["self", "name"] (spTold K) := by
  refine meth_mk D sc_Words_told_of (fun vs H Q E h => ?_) (fun _ _ _ _ _ _ us hl => match us, hl with | [_, _], _ => rfl) (fun cdv A outer s H vs Q E hr h => ?_)
  · obtain ⟨a, rows, z, rfl, _⟩ := h
    rfl
  · obtain ⟨a, rows, z, rfl, ⟨dx, D, kvs, e1, e2, e3⟩, hz, q⟩ := h
    obtain ⟨t, i, h1, h2⟩ := went_some e3 hz
    refine ⟨_, (pss_cons (ps_if (PW.pt (pw_or (pt_not (pt_val (pe_callB (id := "isinstance") (isiK (K := K)) (by rfl) bt.isinstance_ (by decide +kernel) (pa_cons (pv 1) (pa_cons (pe_bltn (v := .ty "str") rfl bt.str_ (by decide +kernel) rfl) pa_nil))))) (pw_or1 (pt_cmp (pc_dnotin (units1 hr) (pv 1) (pe_fld (pv 0) rfl)))))) (pss_one ps_never) pss_nil)
      (pss_one (ps_ret (pe_dget (units1 hr) (pe_fld (pv 0) rfl) (pv 1) (fun _ _ => rfl))))), ?_⟩
    refine ⟨_, rfl, _, _, _, _, true, rfl, .ty "str", .base (.str z), kit_ty (by decide +kernel), _, rfl, iteF ⟨_, rfl, _, rfl, a, _, dx, _, _, rfl, e1, cl, nb, rfl, D, _, rfl, DGet.k (k := Sum.inr z) e2, _, rfl, ?_⟩⟩
    rw [h1]
    exact iteF ⟨_, rfl, a, _, dx, _, _, rfl, e1, cl, nb, rfl, _, rfl, D, _, rfl, by rw [← h1]; exact DGet.k (k := Sum.inr z) e2, q t i h2⟩
abbrev s_Words_places : Stmt := inClass (top 29) 3
theorem sc_Words_places : FnScope ["self", "name"] ["self", "name"] (defScope s_Words_places) := ⟨rfl, rfl, rfl, by decide +kernel, rfl, by decide +kernel, by decide +kernel⟩

theorem ok_Words_places (cl_Words : Cls K (wcls K)) (mm_Words_told_of : Meth K (wcls K) "told_of" (He.ma K (wcls K) "told_of")) (p_Words_told_of : PromA CX0 P w K mg base 1 (He.ma K (wcls K) "told_of") ["self", "name"] (spTold K))
    (D : DefM K (He.ma K (wcls K) "places") "places" "Words.places" s_Words_places) : PromA CX0 P w K mg base 2 (He.ma K (wcls K) "places") ["self", "name"] (spPlaces K) := by
  refine meth_mk D sc_Words_places (fun vs H Q E h => ?_) (fun _ _ _ _ _ _ us hl => match us, hl with | [_, _], _ => rfl) (fun cdv A outer s H vs Q E hr h => ?_)
  · obtain ⟨a, rows, z, rfl, _⟩ := h
    rfl
  · obtain ⟨a, rows, z, rfl, wa, hz, q⟩ := h
    obtain ⟨dx, D, kvs, e1, _, _⟩ := id wa
    refine ⟨_, (pss_one (ps_ret (pe_ix (ix_tupK (K := K)) (pe_pm cl_Words mm_Words_told_of p_Words_told_of (hr.mono (by decide)) (pv 0) (pa_cons (pv 1) pa_nil)) pe_int (fun _ _ => rfl)))), ?_⟩
    exact ⟨_, rfl, a, dx, _, rfl, e1, rfl, _, rfl, a, rows, z, rfl, wa, hz, fun t i h2 => ⟨t, _, _, _, rfl, rfl, h2, rfl, q⟩⟩
end

end TS

namespace TS
open PySem PySem.Spec PyProof.Rows L2 TL

/-! ### need_words, are_signs -/
def spNeed (K : PySem.W.Frag) : Sp := fun vs H Q E => ∃ x : V, vs = [x] ∧ ((∃ (a : Addr) (rows : List (Str × Int)), x = .ref a ∧ WordsAt K H a rows ∧ Q .non H) ∨
  ∃ d : PyData, Dt K H x d ∧ ∀ G e, Same H G → H e = none → G e = some (.xd [("found", x)]) → E (.ref (He.ga K "NoWords")) (some e) G)
def isStrD : PyData → Bool
  | .str _ => true
  | _ => false
theorem isStr_eq (d : PyData) : isD "str" d = isStrD d := by
  cases h : isD "str" d with
  | true => obtain ⟨z, rfl⟩ := isD_str h; rfl
  | false => cases d <;> first | rfl | (rw [isD_strs] at h; cases h)
def signsD (most : Int) (d : PyData) : Bool := match seqD d with
  | some ds => decide (1 ≤ ds.length) && decide ((ds.length : Int) ≤ most) && ds.all isStrD
  | none => false
def spAreSigns (K : PySem.W.Frag) : Sp := fun vs H Q _ => ∃ (x : V) (d : PyData) (most : Int), vs = [x, .int most] ∧ Dt K H x d ∧ (∀ ds, seqD d = some ds → ds.length ≤ 20000) ∧ ∀ H', Same H H' → Q (.bl (signsD most d)) H'
section
variable {P : Program} {w : World} {K : PySem.W.Frag} {mg : Str → Option Value} {base : Heap}
abbrev s_need_words : Stmt := top 33
theorem sc_need_words : FnScope ["words"] ["words"] (defScope s_need_words) := ⟨rfl, rfl, rfl, by decide +kernel, rfl, by decide +kernel, by decide +kernel⟩

theorem ok_need_words (bt : Bt mg) (T : IsC K (wcls K)) (g_Words : mg "Words" = some (.ref (He.ga K "Words"))) (g_NoWords : mg "NoWords" = some (.ref (He.ga K "NoWords"))) (x_NoWords : OwnV K (He.ga K "NoWords") "found")
    (pi_NoWords : PromA CX0 P w K mg base 1 (He.ma K (He.ga K "NoWords") "__init__") ["self", "found"] (spIni (He.ga K "NoWords") "found"))
    (D : Def K mg "need_words" s_need_words) : PromX P w K mg base 3 "need_words" ["words"] (spNeed K) := by
  refine promX_mk D sc_need_words (fun vs H Q E h => ?_) (fun _ _ _ _ _ _ us hl => match us, hl with | [_], _ => rfl) (fun f cdv A outer s H vs Q E hr h => ?_)
  · obtain ⟨x, rfl, _⟩ := h
    rfl
  · obtain ⟨x, rfl, h⟩ := h
    refine ⟨_, (pss_one (ps_if (pt_not (pt_val (pe_callB (id := "isinstance") (isiK (K := K)) (by rfl) bt.isinstance_ (by decide +kernel) (pa_cons (pv 0) (pa_cons (pe_glob (v := .ref (He.ga K "Words")) rfl g_Words rfl) pa_nil))))) (pss_one (ps_raise1 x_NoWords pi_NoWords rfl takesF (hr.mono (by decide)) rfl g_NoWords (pv 0))) pss_nil)), ?_⟩
    rcases h with ⟨a, rows, rfl, ⟨dx, D, kvs, e1, _, _⟩, q⟩ | ⟨d, hd, q⟩
    · exact ⟨_, rfl, _, _, _, _, true, rfl, .own _, T.ty e1, T.yes, _, rfl, iteF q⟩
    · refine ⟨_, rfl, _, _, _, _, false, rfl, .own _, hd.ty, T.data d, _, rfl, iteT ⟨_, rfl, fun e he => ?_⟩⟩
      exact q _ e (Same.new (Same.refl _) he) he (upd_same ..)
abbrev s_are_signs : Stmt := top 34
theorem sc_are_signs : FnScope ["thing", "most", "sign"] ["thing", "most"] (defScope s_are_signs) := ⟨rfl, rfl, rfl, by decide +kernel, rfl, by decide +kernel, by decide +kernel⟩

theorem ok_are_signs (bt : Bt mg) (D : Def K mg "are_signs" s_are_signs) : Prom P w K mg base 1 "are_signs" ["thing", "most"] (spAreSigns K) := by
  refine prom_mk D sc_are_signs (fun vs H Q E h => ?_) (fun _ _ _ _ _ _ us hl => match us, hl with | [_, _], _ => rfl) (fun f cdv A outer s H vs Q E hr h => ?_)
  · obtain ⟨x, d, m, rfl, _⟩ := h
    rfl
  · obtain ⟨x, d, most, rfl, hd, hn, q⟩ := h
    refine ⟨_, (pss_cons (ps_if (PW.pt (pw_or (pt_not (pt_val (pe_callB (id := "isinstance") (isiTK (K := K)) (by rfl) bt.isinstance_ (by decide +kernel) (pa_cons (pv 0) (pa_cons (pe_tup (pa_cons (pe_bltn (v := .ty "list") rfl bt.list_ (by decide +kernel) rfl) (pa_cons (pe_bltn (v := .ty "tuple") rfl bt.tuple_ (by decide +kernel) rfl) pa_nil))) pa_nil))))) (pw_or1 (pt_not (pt_chain op_le op_le pe_int (pe_callB (id := "len") (lenK (K := K)) (by rfl) bt.len_ (by decide +kernel) (pa_cons (pv 0) pa_nil)) (pv 1)))))) (pss_one (ps_ret pe_bl)) pss_nil)
      (pss_one (ps_ret (pe_callB (id := "all") (allK (K := K) rfl) (by rfl) bt.all_ (by decide +kernel) (pa_cons (pe_lc (own := [("sign", 2)]) (g := gName 2) rfl sc_are_signs.nd (pi_either (pi_listK (K := K) rfl (pv 0)) (pi_tupK (K := K) rfl (pv 0))) (blkOk_by (N := ["thing", "most", "sign"]) (sc := defScope s_are_signs) (by decide +kernel)) (fun _ _ _ _ _ => (pg_name (i := 2) sc_are_signs.nd rfl (Or.inl rfl))) (fun _ _ _ _ _ => pts_nil) (fun _ _ _ _ _ => (pe_callB (id := "isinstance") (isiK (K := K)) (by rfl) bt.isinstance_ (by decide +kernel) (pa_cons (pv 2) (pa_cons (pe_bltn (v := .ty "str") rfl bt.str_ (by decide +kernel) rfl) pa_nil))))) pa_nil))))), ?_⟩
    refine ⟨_, rfl, (by show 2 ≤ sizeLine; decide), fun T hT => ⟨_, T, [.ty "list", .ty "tuple"], _, _, isD "list" d || isD "tuple" d, rfl, upd_same .., .cons (.ty "list") (.cons (.ty "tuple") .nil), (Dt.same (Same.new (Same.refl _) hT) hd).ty, isi_lt, _, rfl, ?_⟩⟩
    have sT : Same H (L2.upd H T (.tup [.ty "list", .ty "tuple"])) := Same.new (Same.refl _) hT
    generalize L2.upd H T (.tup [.ty "list", .ty "tuple"]) = H0 at sT ⊢
    unfold signsD at q
    cases c : (isD "list" d || isD "tuple" d) with
    | false =>
      rw [seq_nokind c] at q
      exact iteT (iteT (q _ sT))
    | true =>
      obtain ⟨ds, es⟩ := seq_kind c
      rw [es] at q
      obtain ⟨a, xs, rfl, hS, hA⟩ := (Dt.same sT hd).seq es
      have hl := hA.length
      replace q : ∀ G, Same H G → Q (.bl (decide (1 ≤ ds.length) && decide ((ds.length : Int) ≤ most) && ds.all isStrD)) G := q
      have h20 := hn ds es
      refine iteF ⟨_, rfl, _, _, rfl, hS.len, _, _, rfl, rfl, _, rfl, ?_⟩
      by_cases h1 : 1 ≤ ds.length
      · rw [decide_eq_true (show (1 : Int) ≤ (xs.length : Nat) by omega)]
        rw [decide_eq_true h1] at q
        refine iteT ⟨_, rfl, _, _, rfl, rfl, _, rfl, ?_⟩
        by_cases h2 : (ds.length : Int) ≤ most
        · rw [decide_eq_true (show ((xs.length : Nat) : Int) ≤ most by omega)]
          rw [decide_eq_true h2, Bool.and_true, Bool.true_and] at q
          refine iteF (seq_it rfl hS fun J G wk hG L hL => lc_same wk hG (by omega) (Same.refl _) hL (fun i => .bl (isStrD (ds.getD i .none))) (fun _ => rfl) ?_ ?_)
          · intro i x H2 C hx s2 k
            obtain ⟨di, hdi, hx2⟩ := hA.get hx
            have e : ds.getD i .none = di := by rw [List.getD_eq_getElem?_getD, hdi]; rfl
            rw [e, ← isStr_eq] at k
            exact ⟨_, rfl, _, _, _, _, isD "str" di, rfl, .ty "str", (Dt.same s2 hx2).ty, isi_str, k _ (Same.refl _)⟩
          · intro H2 s2 hL2
            refine ⟨L, (List.range xs.length).map fun i => isStrD (ds.getD i .none), rfl, .inl (.inl (by rw [hL2, List.map_map]; rfl)), ?_⟩
            have ea : ((List.range xs.length).map fun i => isStrD (ds.getD i .none)).all id = ds.all isStrD := by
              rw [hl]
              have : (List.range ds.length).map (fun i => isStrD (ds.getD i .none)) = ds.map isStrD := by
                apply List.ext_getElem?
                intro i
                rw [List.getElem?_map, List.getElem?_map]
                rcases Nat.lt_or_ge i ds.length with z | z
                · rw [List.getElem?_range z, List.getElem?_eq_getElem z]
                  simp [List.getD_eq_getElem?_getD, List.getElem?_eq_getElem z]
                · rw [List.getElem?_eq_none (by simpa using z), List.getElem?_eq_none z]
                  rfl
              rw [this, List.all_map]
              rfl
            rw [ea]
            exact q _ (sT.trans s2)
        · rw [decide_eq_false (show ¬ ((xs.length : Nat) : Int) ≤ most by omega)]
          rw [decide_eq_false h2] at q
          exact iteT (q _ sT)
      · rw [decide_eq_false (show ¬ (1 : Int) ≤ (xs.length : Nat) by omega)]
        rw [decide_eq_false h1] at q
        exact iteF ⟨_, rfl, iteT (q _ sT)⟩
end

end TS

namespace TS
open PySem PySem.Spec PyProof.Rows L2 TL

/-! ### places_of -/
def plS (rows : List (Str × Int)) (z : Str) : Option Nat := if letterL (tl z) then some 0 else if z ∈ rows.map (·.1) then some (plR rows z).toNat else none
inductive Out where
  | bad (i : Nat)
  | beyond (i : Nat)
  | unended (k : Nat)
  | ok
/-- what lacks behind the places, or where the first sign beyond the end stands -/
def scan : Nat → Nat → List Nat → Out
  | 0, _, [] => .ok
  | k + 1, _, [] => .unended (k + 1)
  | 0, i, _ :: _ => .beyond i
  | k + 1, i, p :: r => scan (k + p) (i + 1) r
def plN (rows : List (Str × Int)) (z : Str) : Nat := (plS rows z).getD 0
def outS (rows : List (Str × Int)) (zs : List Str) : Out := match zs.findIdx? (fun z => (plS rows z).isNone) with
  | some i => .bad i
  | none => scan 1 0 (zs.map (plN rows))
theorem scan_lacks {rows : List (Str × Int)} : ∀ (zs : List Str) (k i : Nat), (∀ z ∈ zs, (plS rows z).isSome = true) → scan k i (zs.map (plN rows)) = .ok → lacks (plS rows) k zs = some 0
  | [], 0, i, _, _ => rfl
  | [], k + 1, i, _, h => by cases h
  | z :: r, 0, i, _, h => by cases h
  | z :: r, k + 1, i, hz, h => by
    have h1 := hz z (by simp)
    cases hp : plS rows z with
    | none => rw [hp] at h1; cases h1
    | some p =>
      have e : plN rows z = p := by unfold plN; rw [hp]; rfl
      show (plS rows z).bind _ = _
      rw [hp]
      refine scan_lacks r (k + p) (i + 1) (fun y hy => hz y (List.mem_cons_of_mem _ hy)) ?_
      rw [List.map_cons] at h
      rw [← e]
      exact h
theorem out_lacks {rows : List (Str × Int)} {zs : List Str} (h : outS rows zs = .ok) : (∀ z ∈ zs, (plS rows z).isSome = true) ∧ lacks (plS rows) 1 zs = some 0 := by
  unfold outS at h
  split at h
  · cases h
  · rename_i e
    have all : ∀ z ∈ zs, (plS rows z).isSome = true := fun z hz => by
      have := List.findIdx?_eq_none_iff.mp e z hz
      cases hp : plS rows z with
      | none => rw [hp] at this; cases this
      | some p => rfl
    exact ⟨all, scan_lacks zs 1 0 all h⟩
/-- C of the value v is raised -/
def Rs (K : PySem.W.Frag) (H : Hp) (E : XK) (C f : Str) (v : V) : Prop := ∀ G e, Same H G → H e = none → G e = some (.xd [(f, v)]) → E (.ref (He.ga K C)) (some e) G
def outE (K : PySem.W.Frag) (H : Hp) (E : XK) (ok : Prop) : Out → Prop
  | .bad i => Rs K H E "NoSign" "at" (.int i)
  | .beyond i => Rs K H E "Beyond" "at" (.int i)
  | .unended k => Rs K H E "Unended" "many" (.int k)
  | .ok => ok
structure RowsP (rows : List (Str × Int)) : Prop where
  lo : ∀ r ∈ rows, 0 ≤ r.2
  hi : ∀ r ∈ rows, r.2 ≤ 4
theorem plR_in {rows : List (Str × Int)} (h : RowsP rows) (z : Str) : 0 ≤ plR rows z ∧ plR rows z ≤ 4 := by
  unfold plR
  cases hf : rows.find? fun r => decide (r.1 = z) with
  | none => exact ⟨Int.le_refl 0, by decide⟩
  | some r => exact ⟨h.lo r (List.mem_of_find?_eq_some hf), h.hi r (List.mem_of_find?_eq_some hf)⟩
theorem plN_le {rows : List (Str × Int)} (h : RowsP rows) (z : Str) : plN rows z ≤ 4 := by
  unfold plN plS
  have := plR_in h z
  split
  · exact Nat.zero_le _
  · split
    · show (plR rows z).toNat ≤ 4
      omega
    · exact Nat.zero_le _
def spPlOf (K : PySem.W.Frag) : Sp := fun vs H Q E => ∃ (wa sa : Addr) (rows : List (Str × Int)) (zs : List Str), vs = [.ref wa, .ref sa] ∧ WordsAt K H wa rows ∧ RowsP rows ∧ Sq K H sa (zs.map V.str) ∧ zs.length ≤ 20000 ∧ (∀ z ∈ zs, z.length ≤ 100000) ∧
  outE K H E (∀ G p, Same H G → H p = none → G p = some (.lst (zs.map fun z => V.int (plN rows z : Nat))) → Q (.ref p) G) (outS rows zs)
theorem findIdx_at {zs : List Str} {f : Str → Bool} {i : Nat} {z : Str} (hz : zs[i]? = some z) (hf : f z = true) (h : ∀ y ∈ zs.take i, f y = false) : zs.findIdx? f = some i := by
  obtain ⟨hi, e⟩ := List.getElem?_eq_some_iff.mp hz
  refine List.findIdx?_eq_some_iff_getElem.mpr ⟨hi, by rw [e]; exact hf, fun j hj => ?_⟩
  have : zs[j]'(by omega) ∈ zs.take i := by
    have e2 : (zs.take i)[j]? = some (zs[j]'(by omega)) := by rw [List.getElem?_take_of_lt hj, List.getElem?_eq_getElem (by omega)]
    exact List.mem_of_getElem? e2
  rw [h _ this]
  decide
theorem findIdx_no {zs : List Str} {f : Str → Bool} (h : ∀ y ∈ zs, f y = false) : zs.findIdx? f = none := List.findIdx?_eq_none_iff.mpr h
theorem enum_it0 {K : PySem.W.Frag} {H0 H : Hp} {a : Addr} {xs : List V} {i : Nat} {σ : L2.St} {R : It → Hp → Prop} (hv : σ[i]? = some (some (.ref a))) (h : Sq K H0 a xs) (s : Same H0 H)
    (k : ∀ (J : It) (G : Hp → Prop), Walk J xs.length G (YPair (fun i => some (.int (i : Nat))) (fun i => xs[i]?)) → (∀ H', Same H0 H' → G H') → R J H) : iEnum K (tCons (tVar i) tNil) σ H R ∨ iEnumT K (tCons (tVar i) tNil) σ H R := by
  rcases h with h | h
  · exact .inl ⟨_, hv, a, xs, rfl, s.seq h, k _ _ walk_enum fun _ e => e.seq h⟩
  · exact .inr ⟨_, hv, a, xs, rfl, SqT.same s h, k _ _ walk_enumT fun _ e => SqT.same e h⟩
theorem Same.keep {H G : Hp} {F : Addr} {o : HO} (s : Same H G) (h : H F = none) : Same H (L2.upd G F o) := fun a u e => by
  rw [upd_ne (ne_of_none e h)]
  exact s a u e
section
variable {P : Program} {w : World} {K : PySem.W.Frag} {mg : Str → Option Value} {base : Heap}
abbrev s_NoSigns___init__ : Stmt := inClass (top 5) 0
theorem sc_NoSigns___init__ : FnScope ["self", "found"] ["self", "found"] (defScope s_NoSigns___init__) := ⟨rfl, rfl, rfl, by decide +kernel, rfl, by decide +kernel, by decide +kernel⟩
theorem ok_NoSigns_ini (fam_TermError : FamV K (He.ga K "TermError")) (g_TermError : mg "TermError" = some (.ref (He.ga K "TermError"))) (x_NoSigns : OwnV K (He.ga K "NoSigns") "found") (D : DefM K (He.ma K (He.ga K "NoSigns") "__init__") "__init__" "NoSigns.__init__" s_NoSigns___init__) :
    PromA CX0 P w K mg base 1 (He.ma K (He.ga K "NoSigns") "__init__") ["self", "found"] (spIni (He.ga K "NoSigns") "found") := by
  refine meth_mk D sc_NoSigns___init__ (fun vs H Q E h => ?_) (fun _ _ _ _ _ _ us hl => match us, hl with | [_, _], _ => rfl) (fun cdv A outer s H vs Q E hr h => ?_)
  · obtain ⟨a, v, rfl, _⟩ := h
    rfl
  · obtain ⟨a, v, rfl, ha, q⟩ := h
    refine ⟨_, (pss_cons (ps_expr (pe_famInit fam_TermError rfl g_TermError (pa_cons (pv 0) (pa_cons pe_str pa_nil))))
      (pss_one (ps_ost (pv 0) (pv 1)))), ?_⟩
    exact ⟨_, rfl, a, _, _, rfl, by decide, x_NoSigns.ox, ha, _, rfl, _, rfl, a, _, rfl, x_NoSigns.ox, x_NoSigns.no, .inl ⟨ha, fun dx h1 h2 => q dx h1 h2⟩⟩

abbrev s_NoSign___init__ : Stmt := inClass (top 6) 0
theorem sc_NoSign___init__ : FnScope ["self", "at"] ["self", "at"] (defScope s_NoSign___init__) := ⟨rfl, rfl, rfl, by decide +kernel, rfl, by decide +kernel, by decide +kernel⟩
theorem ok_NoSign_ini (fam_TermError : FamV K (He.ga K "TermError")) (g_TermError : mg "TermError" = some (.ref (He.ga K "TermError"))) (x_NoSign : OwnV K (He.ga K "NoSign") "at") (D : DefM K (He.ma K (He.ga K "NoSign") "__init__") "__init__" "NoSign.__init__" s_NoSign___init__) :
    PromA CX0 P w K mg base 1 (He.ma K (He.ga K "NoSign") "__init__") ["self", "at"] (spIni (He.ga K "NoSign") "at") := by
  refine meth_mk D sc_NoSign___init__ (fun vs H Q E h => ?_) (fun _ _ _ _ _ _ us hl => match us, hl with | [_, _], _ => rfl) (fun cdv A outer s H vs Q E hr h => ?_)
  · obtain ⟨a, v, rfl, _⟩ := h
    rfl
  · obtain ⟨a, v, rfl, ha, q⟩ := h
    refine ⟨_, (pss_cons (ps_expr (pe_famInit fam_TermError rfl g_TermError (pa_cons (pv 0) (pa_cons pe_str pa_nil))))
      (pss_one (ps_ost (pv 0) (pv 1)))), ?_⟩
    exact ⟨_, rfl, a, _, _, rfl, by decide, x_NoSign.ox, ha, _, rfl, _, rfl, a, _, rfl, x_NoSign.ox, x_NoSign.no, .inl ⟨ha, fun dx h1 h2 => q dx h1 h2⟩⟩

abbrev s_Beyond___init__ : Stmt := inClass (top 7) 0
theorem sc_Beyond___init__ : FnScope ["self", "at"] ["self", "at"] (defScope s_Beyond___init__) := ⟨rfl, rfl, rfl, by decide +kernel, rfl, by decide +kernel, by decide +kernel⟩
theorem ok_Beyond_ini (fam_TermError : FamV K (He.ga K "TermError")) (g_TermError : mg "TermError" = some (.ref (He.ga K "TermError"))) (x_Beyond : OwnV K (He.ga K "Beyond") "at") (D : DefM K (He.ma K (He.ga K "Beyond") "__init__") "__init__" "Beyond.__init__" s_Beyond___init__) :
    PromA CX0 P w K mg base 1 (He.ma K (He.ga K "Beyond") "__init__") ["self", "at"] (spIni (He.ga K "Beyond") "at") := by
  refine meth_mk D sc_Beyond___init__ (fun vs H Q E h => ?_) (fun _ _ _ _ _ _ us hl => match us, hl with | [_, _], _ => rfl) (fun cdv A outer s H vs Q E hr h => ?_)
  · obtain ⟨a, v, rfl, _⟩ := h
    rfl
  · obtain ⟨a, v, rfl, ha, q⟩ := h
    refine ⟨_, (pss_cons (ps_expr (pe_famInit fam_TermError rfl g_TermError (pa_cons (pv 0) (pa_cons pe_str pa_nil))))
      (pss_one (ps_ost (pv 0) (pv 1)))), ?_⟩
    exact ⟨_, rfl, a, _, _, rfl, by decide, x_Beyond.ox, ha, _, rfl, _, rfl, a, _, rfl, x_Beyond.ox, x_Beyond.no, .inl ⟨ha, fun dx h1 h2 => q dx h1 h2⟩⟩

abbrev s_Unended___init__ : Stmt := inClass (top 8) 0
theorem sc_Unended___init__ : FnScope ["self", "many"] ["self", "many"] (defScope s_Unended___init__) := ⟨rfl, rfl, rfl, by decide +kernel, rfl, by decide +kernel, by decide +kernel⟩
theorem ok_Unended_ini (fam_TermError : FamV K (He.ga K "TermError")) (g_TermError : mg "TermError" = some (.ref (He.ga K "TermError"))) (x_Unended : OwnV K (He.ga K "Unended") "many") (D : DefM K (He.ma K (He.ga K "Unended") "__init__") "__init__" "Unended.__init__" s_Unended___init__) :
    PromA CX0 P w K mg base 1 (He.ma K (He.ga K "Unended") "__init__") ["self", "many"] (spIni (He.ga K "Unended") "many") := by
  refine meth_mk D sc_Unended___init__ (fun vs H Q E h => ?_) (fun _ _ _ _ _ _ us hl => match us, hl with | [_, _], _ => rfl) (fun cdv A outer s H vs Q E hr h => ?_)
  · obtain ⟨a, v, rfl, _⟩ := h
    rfl
  · obtain ⟨a, v, rfl, ha, q⟩ := h
    refine ⟨_, (pss_cons (ps_expr (pe_famInit fam_TermError rfl g_TermError (pa_cons (pv 0) (pa_cons pe_str pa_nil))))
      (pss_one (ps_ost (pv 0) (pv 1)))), ?_⟩
    exact ⟨_, rfl, a, _, _, rfl, by decide, x_Unended.ox, ha, _, rfl, _, rfl, a, _, rfl, x_Unended.ox, x_Unended.no, .inl ⟨ha, fun dx h1 h2 => q dx h1 h2⟩⟩

abbrev s_NoNumber___init__ : Stmt := inClass (top 9) 0
theorem sc_NoNumber___init__ : FnScope ["self", "found"] ["self", "found"] (defScope s_NoNumber___init__) := ⟨rfl, rfl, rfl, by decide +kernel, rfl, by decide +kernel, by decide +kernel⟩
theorem ok_NoNumber_ini (fam_TermError : FamV K (He.ga K "TermError")) (g_TermError : mg "TermError" = some (.ref (He.ga K "TermError"))) (x_NoNumber : OwnV K (He.ga K "NoNumber") "found") (D : DefM K (He.ma K (He.ga K "NoNumber") "__init__") "__init__" "NoNumber.__init__" s_NoNumber___init__) :
    PromA CX0 P w K mg base 1 (He.ma K (He.ga K "NoNumber") "__init__") ["self", "found"] (spIni (He.ga K "NoNumber") "found") := by
  refine meth_mk D sc_NoNumber___init__ (fun vs H Q E h => ?_) (fun _ _ _ _ _ _ us hl => match us, hl with | [_, _], _ => rfl) (fun cdv A outer s H vs Q E hr h => ?_)
  · obtain ⟨a, v, rfl, _⟩ := h
    rfl
  · obtain ⟨a, v, rfl, ha, q⟩ := h
    refine ⟨_, (pss_cons (ps_expr (pe_famInit fam_TermError rfl g_TermError (pa_cons (pv 0) (pa_cons pe_str pa_nil))))
      (pss_one (ps_ost (pv 0) (pv 1)))), ?_⟩
    exact ⟨_, rfl, a, _, _, rfl, by decide, x_NoNumber.ox, ha, _, rfl, _, rfl, a, _, rfl, x_NoNumber.ox, x_NoNumber.no, .inl ⟨ha, fun dx h1 h2 => q dx h1 h2⟩⟩

abbrev s_places_of : Stmt := top 35
theorem sc_places_of : FnScope ["words", "signs", "found", "at", "sign", "lacking", "many"] ["words", "signs"] (defScope s_places_of) := ⟨rfl, rfl, rfl, by decide +kernel, rfl, by decide +kernel, by decide +kernel⟩

set_option maxHeartbeats 800000 in
theorem ok_places_of (bt : Bt mg) (p_is_letter : Prom P w K mg base 2 "is_letter" ["thing"] (spLetter K)) (cl_Words : Cls K (wcls K)) (mm_Words_has : Meth K (wcls K) "has" (He.ma K (wcls K) "has")) (mm_Words_places : Meth K (wcls K) "places" (He.ma K (wcls K) "places"))
    (p_Words_has : PromA CX0 P w K mg base 1 (He.ma K (wcls K) "has") ["self", "thing"] (spHas K)) (p_Words_places : PromA CX0 P w K mg base 2 (He.ma K (wcls K) "places") ["self", "name"] (spPlaces K))
    (g_NoSign : mg "NoSign" = some (.ref (He.ga K "NoSign"))) (x_NoSign : OwnV K (He.ga K "NoSign") "at") (pi_NoSign : PromA CX0 P w K mg base 1 (He.ma K (He.ga K "NoSign") "__init__") ["self", "at"] (spIni (He.ga K "NoSign") "at"))
    (g_Beyond : mg "Beyond" = some (.ref (He.ga K "Beyond"))) (x_Beyond : OwnV K (He.ga K "Beyond") "at") (pi_Beyond : PromA CX0 P w K mg base 1 (He.ma K (He.ga K "Beyond") "__init__") ["self", "at"] (spIni (He.ga K "Beyond") "at"))
    (g_Unended : mg "Unended" = some (.ref (He.ga K "Unended"))) (x_Unended : OwnV K (He.ga K "Unended") "many") (pi_Unended : PromA CX0 P w K mg base 1 (He.ma K (He.ga K "Unended") "__init__") ["self", "many"] (spIni (He.ga K "Unended") "many"))
    (D : Def K mg "places_of" s_places_of) : PromX P w K mg base 3 "places_of" ["words", "signs"] (spPlOf K) := by
  refine promX_mk D sc_places_of (fun vs H Q E h => ?_) (fun _ _ _ _ _ _ us hl => match us, hl with | [_, _], _ => rfl) (fun f cdv A outer s H vs Q E hr h => ?_)
  · obtain ⟨wa, sa, rows, zs, rfl, _⟩ := h
    rfl
  · obtain ⟨wa, sa, rows, zs, rfl, hW, hP, hS, hl, hz, q⟩ := h
    refine ⟨_, (pss_cons (ps_set (i := 2) sc_places_of.nd rfl (Or.inl rfl) (pe_lst pa_nil))
      (pss_cons (ps_for (passes_of rfl) rfl (pi_either (pi_enumK (K := K) rfl rfl bt.enumerate_ (pa_cons (pv 1) pa_nil)) (pi_enumT (K := K) rfl rfl bt.enumerate_ (pa_cons (pv 1) pa_nil))) (pg_tupK (K := K) (n := 2) rfl rfl (pgs_cons (pg_name (i := 3) sc_places_of.nd rfl (Or.inl rfl)) (pgs_cons (pg_name (i := 4) sc_places_of.nd rfl (Or.inl rfl)) pgs_nil))) (pss_one (ps_if (pt_val (pe_pc p_is_letter (hr.mono (by decide)) rfl (pa_cons (pv 4) pa_nil))) (pss_one (ps_expr (pe_appendK (K := K) rfl (pv 2) pe_int))) (pss_one (ps_if (pt_val (pe_pm cl_Words mm_Words_has p_Words_has (hr.mono (by decide)) (pv 0) (pa_cons (pv 4) pa_nil))) (pss_one (ps_expr (pe_appendK (K := K) rfl (pv 2) (pe_pm cl_Words mm_Words_places p_Words_places (hr.mono (by decide)) (pv 0) (pa_cons (pv 4) pa_nil))))) (pss_one (ps_raise1 x_NoSign pi_NoSign rfl takesF (hr.mono (by decide)) rfl g_NoSign (pv 3))))))))
      (pss_cons (ps_set (i := 5) sc_places_of.nd rfl (Or.inl rfl) pe_int)
      (pss_cons (ps_for (passes_of rfl) rfl (pi_enumK (K := K) rfl rfl bt.enumerate_ (pa_cons (pv 2) pa_nil)) (pg_tupK (K := K) (n := 2) rfl rfl (pgs_cons (pg_name (i := 3) sc_places_of.nd rfl (Or.inl rfl)) (pgs_cons (pg_name (i := 6) sc_places_of.nd rfl (Or.inl rfl)) pgs_nil))) (pss_cons (ps_if (pt_cmpR op_eq (pv 5) pe_int (nomark _)) (pss_one (ps_raise1 x_Beyond pi_Beyond rfl takesF (hr.mono (by decide)) rfl g_Beyond (pv 3))) pss_nil)
      (pss_one (ps_aug (i := 5) sc_places_of.nd rfl (Or.inl rfl) (pe_op op_sub (pv 6) pe_int) ip_add))))
      (pss_cons (ps_if (pt_cmpR op_gt (pv 5) pe_int (nomark _)) (pss_one (ps_raise1 x_Unended pi_Unended rfl takesF (hr.mono (by decide)) rfl g_Unended (pv 5))) pss_nil)
      (pss_one (ps_ret (pv 2)))))))), ?_⟩
    refine ⟨(by show 0 ≤ sizeLine; decide), fun F hF => ?_⟩
    (generalize hG : L2.upd _ F _ = H1; have sF := same_of hG hF; have eF := at_of hG; clear hG)
    refine enum_it0 (K := K) (H := H1) rfl hS sF fun J G wk hG => ?_
    have lz : (zs.map V.str).length = zs.length := List.length_map ..
    refine for_it wk (fun i τ G' => (∃ x1 x2 x3 x4, τ = [some (.ref wa), some (.ref sa), some (.ref F), x1, x2, x3, x4]) ∧ Same H G' ∧ G' F = some (.lst ((zs.take i).map fun z => V.int (plN rows z : Nat))) ∧ ∀ z ∈ zs.take i, (plS rows z).isNone = false)
      ⟨⟨_, _, _, _, rfl⟩, sF, eF, by simp⟩ (fun i τ G' _ p => hG G' p.2.1) ?_ ?_
    · rintro i v τ G1 G2 hi ⟨⟨x1, x2, x3, x4, rfl⟩, sH, eG, al⟩ ⟨T, y, x, rfl, hT, rfl, ey, hx⟩
      cases ey
      rw [lz] at hi
      obtain ⟨z, hzi, rfl⟩ : ∃ z, zs[i]? = some z ∧ x = .str z := by
        replace hx : (zs.map V.str)[i]? = some x := hx
        rw [List.getElem?_map] at hx
        cases hq : zs[i]? with
        | none => rw [hq] at hx; cases hx
        | some z => rw [hq] at hx; cases hx; exact ⟨z, rfl, rfl⟩
      (generalize hG : L2.upd _ T _ = G3; have sT := same_of hG hT; have eT := at_of hG; clear hG)
      have sH3 := sH.trans sT
      have hzl := hz z (List.mem_of_getElem? hzi)
      refine ⟨T, _, rfl, .inl (.inl eT), rfl, _, _, rfl, _, _, rfl, rfl, ?_⟩
      refine ⟨_, rfl, _, .str z, rfl, .str z, fun y e => by cases e; exact hzl, fun G4 s4 => ⟨_, rfl, ?_⟩⟩
      have eF4 := s4 _ _ (sT _ _ eG)
      have sH4 := sH3.trans s4
      have et : ∀ p : Nat, plN rows z = p → (zs.take (i + 1)).map (fun z => V.int (plN rows z : Nat)) = (zs.take i).map (fun z => V.int (plN rows z : Nat)) ++ [V.int (p : Nat)] := fun p hp => by
        rw [take_map (fun z => V.int (plN rows z : Nat)) hzi, hp]
      have al' : (plS rows z).isNone = false → ∀ y ∈ zs.take (i + 1), (plS rows y).isNone = false := fun h y hy => by
        rw [List.take_succ, hzi] at hy
        rcases List.mem_append.mp hy with m | m
        · exact al y m
        · rw [List.mem_singleton.mp m]; exact h
      have lF : ((zs.take i).map (fun z => V.int (plN rows z : Nat))).length ≤ 20000 := by rw [List.length_map, List.length_take]; omega
      have go : ∀ p : Nat, plS rows z = some p → ∀ G5, Same H G5 → G5 F = some (.lst ((zs.take i).map fun z => V.int (plN rows z : Nat))) →
          Same H (L2.upd G5 F (.lst ((zs.take i).map (fun z => V.int (plN rows z : Nat)) ++ [V.int (p : Nat)]))) ∧ L2.upd G5 F (.lst ((zs.take i).map (fun z => V.int (plN rows z : Nat)) ++ [V.int (p : Nat)])) F = some (.lst ((zs.take (i + 1)).map fun z => V.int (plN rows z : Nat))) ∧ ∀ y ∈ zs.take (i + 1), (plS rows y).isNone = false := fun p hp G5 s5 _ =>
        ⟨Same.keep s5 hF, by rw [upd_same, et p (by unfold plN; rw [hp]; rfl)], al' (by rw [hp]; rfl)⟩
      cases hL : letterD (.str z) with
      | true =>
        have hp : plS rows z = some 0 := by unfold plS; rw [show letterL (tl z) = true from hL]; rfl
        obtain ⟨g1, g2, g3⟩ := go 0 hp G4 sH4 eF4
        exact iteT ⟨_, rfl, .inl ⟨rfl, _, .inl (.inl eF4)⟩, F, _, _, rfl, rfl, eF4, sz5' (by omega), ⟨_, _, _, _, rfl⟩, g1, g2, g3⟩
      | false =>
        have hL' : letterL (tl z) = false := hL
        have hW4 := hW.same sH4
        obtain ⟨dx, DD, kvs, e1, e2, e3⟩ := id hW4
        refine iteF ⟨_, rfl, wa, dx, _, rfl, e1, rfl, _, rfl, wa, rows, _, .str z, rfl, hW4, .str z, _, rfl, ?_⟩
        cases hH : hasR rows (.str z) with
        | true =>
          have hm : z ∈ rows.map (·.1) := of_decide_eq_true hH
          have hp : plS rows z = some (plR rows z).toNat := by unfold plS; rw [hL', if_neg Bool.false_ne_true, if_pos hm]
          have hpl := plR_in hP z
          obtain ⟨g1, g2, g3⟩ := go _ hp G4 sH4 eF4
          refine iteT ⟨_, rfl, .inl ⟨rfl, _, .inl (.inl eF4)⟩, _, rfl, wa, dx, _, rfl, e1, rfl, _, rfl, wa, rows, z, rfl, hW4, hm, F, _, _, rfl, rfl, eF4, sz5' (by omega), ?_⟩
          rw [show (((plR rows z).toNat : Nat) : Int) = plR rows z by omega] at g1 g2
          exact ⟨⟨_, _, _, _, rfl⟩, g1, g2, g3⟩
        | false =>
          have hm : z ∉ rows.map (·.1) := of_decide_eq_false hH
          have hp : plS rows z = none := by unfold plS; rw [hL', if_neg Bool.false_ne_true, if_neg hm]
          have eo : outS rows zs = .bad i := by
            unfold outS
            rw [findIdx_at hzi (by rw [hp]; rfl) al]
          rw [eo] at q
          exact iteF ⟨_, rfl, fun e he => q _ e (sH4.trans (Same.new (Same.refl _) he)) (sH4.free he) (upd_same ..)⟩
    · rintro τ G1 ⟨⟨x1, x2, x3, x4, rfl⟩, sH, eG, al⟩
      rw [lz, List.take_length] at eG al
      have eo : outS rows zs = scan 1 0 (zs.map (plN rows)) := by
        unfold outS
        rw [findIdx_no al]
      rw [eo] at q
      have lp : (zs.map fun z => V.int (plN rows z : Nat)).length = zs.length := List.length_map ..
      refine ⟨_, rfl, F, _, rfl, .inl (.inl eG), for_it walk_enum (fun i τ G' => (∃ (k : Nat), (∃ x1 x2 x4, τ = [some (.ref wa), some (.ref sa), some (.ref F), x1, x2, some (.int k), x4]) ∧ scan k i ((zs.map (plN rows)).drop i) = scan 1 0 (zs.map (plN rows))) ∧ Same H G' ∧ G' F = some (.lst (zs.map fun z => V.int (plN rows z : Nat))))
        ⟨⟨1, ⟨_, _, _, rfl⟩, rfl⟩, sH, eG⟩ (fun i τ G' _ p => .inl (.inl p.2.2)) ?_ ?_⟩
      · rintro i v τ G2 G3 hi ⟨⟨k, ⟨y1, y2, y4, rfl⟩, hk⟩, s2, e2⟩ ⟨T, y, x, rfl, hT, rfl, ey, hx⟩
        cases ey
        rw [lp] at hi
        obtain ⟨z, hzi, rfl⟩ : ∃ z, zs[i]? = some z ∧ x = .int (plN rows z : Nat) := by
          replace hx : (zs.map fun z => V.int (plN rows z : Nat))[i]? = some x := hx
          rw [List.getElem?_map] at hx
          cases hq : zs[i]? with
          | none => rw [hq] at hx; cases hx
          | some z => rw [hq] at hx; cases hx; exact ⟨z, rfl, rfl⟩
        (generalize hG : L2.upd _ T _ = G4; have sT := same_of hG hT; have eT := at_of hG; clear hG)
        have s4 := s2.trans sT
        have ed : (zs.map (plN rows)).drop i = plN rows z :: (zs.map (plN rows)).drop (i + 1) := List.drop_eq_getElem?_toList_append .. ▸ (by rw [List.getElem?_map, hzi]; rfl)
        refine ⟨T, _, rfl, .inl (.inl eT), rfl, _, _, rfl, _, _, rfl, rfl, ?_⟩
        refine ⟨_, rfl, rfl, _, rfl, ?_⟩
        cases k with
        | zero =>
          rw [ed] at hk
          have hk' : scan 1 0 (zs.map (plN rows)) = .beyond i := hk.symm
          rw [hk'] at q
          exact iteT ⟨_, rfl, fun e he => q _ e (s4.trans (Same.new (Same.refl _) he)) (s4.free he) (upd_same ..)⟩
        | succ k =>
          refine iteF' (by simp; omega) ?_
          rw [ed] at hk
          replace hk : scan (k + plN rows z) (i + 1) ((zs.map (plN rows)).drop (i + 1)) = _ := hk
          have eI : ((k + 1 : Nat) : Int) + (((plN rows z : Nat) : Int) - 1) = ((k + plN rows z : Nat) : Int) := by omega
          exact ⟨_, rfl, _, rfl, _, _, rfl, rfl, _, _, rfl, rfl, ⟨⟨k + plN rows z, ⟨_, _, _, by rw [← eI]; rfl⟩, hk⟩, s4, sT _ _ e2⟩⟩
      · rintro τ G2 ⟨⟨k, ⟨y1, y2, y4, rfl⟩, hk⟩, s2, e2⟩
        rw [lp, List.drop_eq_nil_of_le (by rw [List.length_map]; exact Nat.le_refl _)] at hk
        refine ⟨_, rfl, _, _, rfl, rfl, _, rfl, ?_⟩
        cases k with
        | zero =>
          rw [← hk] at q
          exact iteF ⟨_, rfl, q G2 F s2 hF e2⟩
        | succ k =>
          rw [← hk] at q
          exact iteT' (decide_eq_true (by omega)) ⟨_, rfl, fun e he => q _ e (s2.trans (Same.new (Same.refl _) he)) (s2.free he) (upd_same ..)⟩
end

end TS

namespace TS
open PySem PySem.Spec PyProof.Rows L2 TL

/-! ### ends_of -/
theorem ixN_of {n j : Nat} (hj : j < n) : ixN n (j : Int) = some j := by
  unfold ixN
  rw [if_pos (by omega), if_pos (by omega)]
  rfl
theorem rep_one {α : Type} (x : α) : ∀ n : Nat, (List.replicate n [x]).flatten = List.replicate n x
  | 0 => rfl
  | n + 1 => by rw [List.replicate_succ, List.flatten_cons, rep_one x n]; rfl
def spEndsOf (K : PySem.W.Frag) : Sp := fun vs H Q _ => ∃ (p : Addr) (pl : Str → Option Nat) (r : Fs), vs = [.ref p] ∧ r.wf pl ∧ r.size ≤ 20000 ∧ SqL K H p (r.flat.map fun z => V.int ((pl z).getD 0 : Nat)) ∧
  ∀ G q, Same H G → H q = none → G q = some (.lst ((r.ends 0).map fun n => V.int (n : Nat))) → Q (.ref q) G
section
variable {P : Program} {w : World} {K : PySem.W.Frag} {mg : Str → Option Value} {base : Heap}
abbrev s_ends_of : Stmt := top 36
theorem sc_ends_of : FnScope ["places", "ends", "at", "stop", "turn"] ["places"] (defScope s_ends_of) := ⟨rfl, rfl, rfl, by decide +kernel, rfl, by decide +kernel, by decide +kernel⟩

set_option maxHeartbeats 800000 in
theorem ok_ends_of (bt : Bt mg) (D : Def K mg "ends_of" s_ends_of) : Prom P w K mg base 1 "ends_of" ["places"] (spEndsOf K) := by
  refine prom_mk D sc_ends_of (fun vs H Q E h => ?_) (fun _ _ _ _ _ _ us hl => match us, hl with | [_], _ => rfl) (fun f cdv A outer s H vs Q E hr h => ?_)
  · obtain ⟨p, pl, r, rfl, _⟩ := h
    rfl
  · obtain ⟨p, pl, r, rfl, hw, hl, hS, q⟩ := h
    obtain ⟨n, hn⟩ : ∃ n, n = r.size := ⟨_, rfl⟩
    have lz : (r.flat.map fun z => V.int ((pl z).getD 0 : Nat)).length = n := by rw [List.length_map, Fs.flat_len, hn]
    refine ⟨_, (pss_cons (ps_set (i := 1) sc_ends_of.nd rfl (Or.inl rfl) (pe_op op_rep (pe_lst (pa_cons pe_int pa_nil)) (pe_callB (id := "len") (lenK (K := K)) (by rfl) bt.len_ (by decide +kernel) (pa_cons (pv 0) pa_nil))))
      (pss_cons (ps_for PassesOwn.never rfl (pi_revK (K := K) rfl rfl bt.reversed_ (pa_cons (pe_listRg rfl rfl bt.list_ (prg_1 rfl bt.range_ (pe_callB (id := "len") (lenK (K := K)) (by rfl) bt.len_ (by decide +kernel) (pa_cons (pv 0) pa_nil)))) pa_nil)) (pg_name (i := 2) sc_ends_of.nd rfl (Or.inl rfl)) (pss_cons (ps_set (i := 3) sc_ends_of.nd rfl (Or.inl rfl) (pe_op op_add (pv 2) pe_int))
      (pss_cons (ps_for PassesOwn.never rfl (pi_range1 rfl bt.range_ (pa_cons (pe_ix (ix_listK (K := K)) (pv 0) (pv 2) (fun _ _ => rfl)) pa_nil)) (pg_name (i := 4) sc_ends_of.nd rfl (Or.inl rfl)) (pss_one (ps_set (i := 3) sc_ends_of.nd rfl (Or.inl rfl) (pe_ix (ix_listK (K := K)) (pv 1) (pv 3) (fun _ _ => rfl)))))
      (pss_one (ps_asg (pv 3) (pg_sub (pv 1) (pv 2) set_list))))))
      (pss_one (ps_ret (pv 1))))), ?_⟩
    refine ⟨(by show 1 ≤ sizeLine; decide), fun L0 hL0 => ?_⟩
    (generalize hG : L2.upd _ L0 _ = H1; have s0 := same_of hG hL0; have e0 := at_of hG; clear hG)
    refine ⟨_, rfl, _, _, rfl, .inl ⟨_, s0.seq hS, rfl⟩, L0, _, _, rfl, rfl, e0, ?_, ?_, ?_, fun F hF => ?_⟩
    · rw [lz]; omega
    · rw [lz]; omega
    · rw [lz]
      show 1 * ((n : Nat) : Int).toNat ≤ sizeLine
      rw [sizeLine_eq]
      omega
    rw [lz]
    have hF0 := s0.free hF
    have er : (List.replicate ((n : Nat) : Int).toNat [V.int 0]).flatten = (List.replicate n 0).map (fun n : Nat => V.int (n : Nat)) := by
      rw [Int.toNat_natCast, rep_one, List.map_replicate]
      rfl
    rw [er]
    (generalize hG : L2.upd _ F _ = H2; have sF := same_of hG hF; have eF := at_of hG; clear hG)
    have sH2 := s0.trans sF
    refine ⟨_, rfl, _, _, rfl, .inl ⟨_, sH2.seq hS, rfl⟩, _, rfl, ?_, fun Z hZ => ?_⟩
    · rw [lz]
      exact RgOk.of_le (by omega) (by omega) (by omega) (by omega)
    rw [lz]
    (generalize hG : L2.upd _ Z _ = H3; have sZ := same_of hG hZ; have eZ := at_of hG; clear hG)
    have sH3 := sH2.trans sZ
    have lr : (rgV 0 ((n : Nat) : Int)).length = n := by rw [rgV_length]; omega
    have nFZ : Z ≠ F := fun e => by rw [e, eF] at hZ; cases hZ
    refine ⟨Z, _, rfl, .inl (.inl eZ), for_it walk_rev (fun i τ G' => (∃ x1 x2 x3, τ = [some (.ref p), some (.ref F), x1, x2, x3]) ∧ Same H G' ∧ G' Z = some (.lst (rgV 0 ((n : Nat) : Int))) ∧ ∃ E' : List Nat, G' F = some (.lst (E'.map fun n => V.int (n : Nat))) ∧ E'.length = n ∧ ∀ j, n - i ≤ j → E'[j]? = (r.ends 0)[j]?)
      ⟨⟨_, _, _, rfl⟩, sH3, eZ, List.replicate n 0, sZ _ _ eF, by simp, fun j hj => ?_⟩ (fun i τ G' _ p => .inl (.inl p.2.2.1)) ?_ ?_⟩
    · rw [List.getElem?_eq_none (by simp; omega), List.getElem?_eq_none (by rw [Fs.ends_len, ← hn]; omega)]
    · rintro i v τ G1 G2 hi ⟨⟨x1, x2, x3, rfl⟩, sH, eZ1, E', eE, lE, hE⟩ ⟨rfl, hx⟩
      rw [lr] at hi hx
      obtain ⟨at_, hat⟩ : ∃ at_, at_ = n - 1 - i := ⟨_, rfl⟩
      rw [← hat] at hx
      have hv : v = .int (at_ : Nat) := by
        unfold rgV at hx
        rw [List.getElem?_map, List.getElem?_range (by omega)] at hx
        cases hx
        show V.int (0 + (at_ : Int)) = _
        rw [Int.zero_add]
      subst hv
      obtain ⟨sg, ts, nd⟩ := Fs.node r 0 at_ hw (by omega)
      have hk : (pl sg).getD 0 = ts.len := by rw [nd.many]; rfl
      have hin := nd.in_
      rw [Fs.flat_len, ← hn] at hin
      have stop := nd.stop
      rw [Nat.zero_add] at stop
      have kids := nd.kids
      rw [Nat.zero_add] at kids
      have jm : jump E' ts.len (at_ + 1) = some (at_ + 1 + ts.size) := Fs.jumps ts (at_ + 1) E' fun j hj => by rw [hE _ (by omega), kids j hj]
      have tl20 : ts.len ≤ ts.size := Fs.len_size ts
      refine ⟨_, rfl, _, _, rfl, rfl, _, rfl, _, rfl, p, _, _, .int (ts.len : Nat), rfl, rfl, sH.seq hS, atI_nat (by rw [List.getElem?_map, nd.sign]; show some (V.int ((pl sg).getD 0 : Nat)) = _; rw [hk]), _, rfl, ?_, ?_, ?_⟩
      · omega
      · omega
      refine for_it walk_range (fun t τ G' => G' = G2 ∧ ∃ (st : Nat) (x3 : Option V), τ = [some (.ref p), some (.ref F), some (.int (at_ : Nat)), some (.int (st : Nat)), x3] ∧ jump E' (ts.len - t) st = some (at_ + 1 + ts.size)) ⟨rfl, at_ + 1, _, rfl, jm⟩ (fun _ _ _ _ _ => trivial) ?_ ?_
      · rintro t v τ G3 G4 ht ⟨rfl, st, y3, rfl, hj⟩ ⟨rfl, rfl⟩
        have ht' : t < ts.len := by omega
        rw [show ts.len - t = (ts.len - (t + 1)) + 1 by omega] at hj
        cases he : E'[st]? with
        | none =>
          rw [show jump E' (ts.len - (t + 1) + 1) st = (E'[st]?).bind (jump E' (ts.len - (t + 1))) from rfl, he] at hj
          cases hj
        | some st' =>
          rw [show jump E' (ts.len - (t + 1) + 1) st = (E'[st]?).bind (jump E' (ts.len - (t + 1))) from rfl, he] at hj
          refine ⟨_, rfl, _, rfl, F, _, _, .int (st' : Nat), rfl, rfl, .inl (.inl eE), atI_nat (by rw [List.getElem?_map, he]; rfl), rfl, st', _, rfl, hj⟩
      · rintro τ G3 ⟨rfl, st, y3, rfl, hj⟩
        have est : st = at_ + 1 + ts.size := by
          rw [show ts.len - ((ts.len : Nat) : Int).toNat = 0 by omega] at hj
          exact Option.some.inj hj
        subst est
        have aE : at_ < E'.length := by omega
        refine ⟨_, rfl, _, rfl, _, rfl, F, _, _, at_, rfl, rfl, eE, ?_, ⟨_, _, _, rfl⟩, Same.keep sH hF0, ?_, E'.set at_ (at_ + 1 + ts.size), ?_, ?_, ?_⟩
        · rw [List.length_map]
          exact ixN_of aE
        · rw [upd_ne nFZ]; exact eZ1
        · rw [upd_same, List.map_set]
        · rw [List.length_set, lE]
        · intro j hj
          rw [List.getElem?_set]
          by_cases e : at_ = j
          · rw [if_pos e, if_pos (by omega), ← e, stop]
          · rw [if_neg e]
            exact hE j (by omega)
    · rintro τ G1 ⟨⟨x1, x2, x3, rfl⟩, sH, eZ1, E', eE, lE, hE⟩
      have e : E' = r.ends 0 := List.ext_getElem? fun j => hE j (by rw [lr]; omega)
      rw [e] at eE
      exact ⟨_, rfl, q G1 F sH hF0 eE⟩
end

end TS

namespace TS
open PySem PySem.Spec PyProof.Rows L2 TL

/-! ### Term -/
def tcls (K : PySem.W.Frag) : Addr := He.ga K "Term"
def intsV (l : List Nat) : List V := l.map fun n => V.int (n : Nat)
/-- the term at a -/
def TermAt (K : PySem.W.Frag) (G : Hp) (a wa : Addr) (zs : List Str) (es : List Nat) : Prop := ∃ dx s e, G a = some (.ins (tcls K) dx [("term_words", .ref wa), ("all_signs", .ref s), ("all_ends", .ref e)]) ∧ SqT K G s (zs.map V.str) ∧ SqT K G e (intsV es)
theorem TermAt.same {K : PySem.W.Frag} {G G' : Hp} {a wa : Addr} {zs : List Str} {es : List Nat} (h : TermAt K G a wa zs es) (e : Same G G') : TermAt K G' a wa zs es :=
  let ⟨dx, s, n, x, y, z⟩ := h; ⟨dx, s, n, e _ _ x, SqT.same e y, SqT.same e z⟩
def wholeI : PyData → Option Int
  | .int m => if 1 ≤ m ∧ m ≤ 9999 then some m else none
  | _ => none
def strOf : PyData → Str
  | .str z => z
  | _ => ""
def strsD (d : PyData) : List Str := ((seqD d).getD []).map strOf
inductive Due where
  | number
  | signs
  | out (o : Out)
def dueD (rows : List (Str × Int)) (d dm : PyData) : Due := match wholeI dm with
  | none => .number
  | some m => if signsD m d then .out (outS rows (strsD d)) else .signs
def dueE (K : PySem.W.Frag) (H : Hp) (E : XK) (y m : V) (ok : Prop) : Due → Prop
  | .number => Rs K H E "NoNumber" "found" m
  | .signs => Rs K H E "NoSigns" "found" y
  | .out o => outE K H E ok o
/-- data that may be handed in -/
structure Handed (d : PyData) : Prop where
  few : ∀ ds, seqD d = some ds → ds.length ≤ 20000
  short : ∀ ds, seqD d = some ds → ∀ e ∈ ds, ∀ z, e = .str z → z.length ≤ 100000
def spTIni (K : PySem.W.Frag) : Sp := fun vs H Q E => ∃ (a dx : Addr) (x y m : V), vs = [.ref a, x, y, m] ∧ H a = some (.ins (tcls K) dx []) ∧
  ((∃ d, Dt K H x d ∧ Rs K H E "NoWords" "found" x) ∨
  (∃ (wa : Addr) (rows : List (Str × Int)) (d dm : PyData), x = .ref wa ∧ WordsAt K H wa rows ∧ RowsP rows ∧ Dt K H y d ∧ Dt K H m dm ∧ Handed d ∧
    dueE K H E y m (∀ (G : Hp) (r : Fs), Fx a H G → r.flat = strsD d → r.wf (plS rows) → r.len = 1 → TermAt K G a wa r.flat (r.ends 0) → Q .non G) (dueD rows d dm)))
def spTSigns (K : PySem.W.Frag) : Sp := fun vs H Q _ => ∃ (a wa : Addr) (zs : List Str) (es : List Nat), vs = [.ref a] ∧ TermAt K H a wa zs es ∧ ∀ l, H l = none → Q (.ref l) (L2.upd H l (.lst (zs.map V.str)))
/-- a list stays where another thing is changed -/
theorem SqL.upd {K : PySem.W.Frag} {H : Hp} {a t : Addr} {xs : List V} {o o' : HO} (ha : H a = some o) (ho : ∀ l, o ≠ .lst l) (hf : ∀ b u, o ≠ .frz b u) (h : SqL K H t xs) : SqL K (L2.upd H a o') t xs := by
  rcases h with (h | ⟨q, h⟩) | h
  · refine .inl (.inl ?_)
    rw [upd_ne]
    · exact h
    · intro e
      rw [e, ha] at h
      exact ho _ (Option.some.inj h)
  · refine .inl (.inr ⟨q, ?_⟩)
    rw [upd_ne]
    · exact h
    · intro e
      rw [e, ha] at h
      exact hf _ _ (Option.some.inj h)
  · exact .inr h
theorem wholeI_none {d : PyData} (h : wholeD 1 9999 d = false) : wholeI d = none := by
  cases d with
  | int i =>
    show (if 1 ≤ i ∧ i ≤ 9999 then some i else none) = none
    rw [if_neg]
    rintro ⟨h1, h2⟩
    have : (decide ((1 : Int) ≤ i) && decide (i ≤ 9999)) = false := h
    rw [decide_eq_true h1, decide_eq_true h2] at this
    cases this
  | _ => rfl
theorem wholeI_some {d : PyData} (h : wholeD 1 9999 d = true) : ∃ m, d = .int m ∧ wholeI d = some m := by
  cases d with
  | int i =>
    obtain ⟨h1, h2⟩ := Bool.and_eq_true_iff.mp h
    exact ⟨i, rfl, if_pos ⟨of_decide_eq_true h1, of_decide_eq_true h2⟩⟩
  | _ => cases h
theorem signs_strs {m : Int} {d : PyData} (h : signsD m d = true) : ∃ ds, seqD d = some ds ∧ strsD d = ds.map strOf ∧ ds = (strsD d).map PyData.str ∧ (ds.length : Int) ≤ m := by
  unfold signsD at h
  cases hs : seqD d with
  | none => rw [hs] at h; cases h
  | some ds =>
    rw [hs] at h
    obtain ⟨h1, h2⟩ := Bool.and_eq_true_iff.mp h
    have e1 : strsD d = ds.map strOf := by unfold strsD; rw [hs]; rfl
    refine ⟨ds, rfl, e1, ?_, of_decide_eq_true (Bool.and_eq_true_iff.mp h1).2⟩
    rw [e1, List.map_map]
    have : ∀ x ∈ ds, (PyData.str ∘ strOf) x = x := fun x hx => by
      have := List.all_eq_true.mp h2 x hx
      cases x <;> first | rfl | cases this
    rw [List.map_congr_left this, List.map_id']
theorem dtAll_strs {K : PySem.W.Frag} {H : Hp} : ∀ {xs : List V} {zs : List Str}, DtAll K H xs (zs.map PyData.str) → xs = zs.map V.str
  | _, [], h => by cases h; rfl
  | _, z :: r, h => by
    cases h with
    | cons h0 t =>
      cases h0
      rw [dtAll_strs t]
      rfl
section
variable {P : Program} {w : World} {K : PySem.W.Frag} {mg : Str → Option Value} {base : Heap}
abbrev s_Term_signs : Stmt := inClass (top 37) 2
theorem sc_Term_signs : FnScope ["self"] ["self"] (defScope s_Term_signs) := ⟨rfl, rfl, rfl, by decide +kernel, rfl, by decide +kernel, by decide +kernel⟩

theorem ok_Term_signs (bt : Bt mg) (cl : Cls K (tcls K)) (nb : NoAttr K (tcls K) "all_signs") (D : DefM K (He.ma K (tcls K) "signs") "signs" "Term.signs" s_Term_signs) : PromA CX0 P w K mg base 1 (He.ma K (tcls K) "signs") ["self"] (spTSigns K) := by
  refine meth_mk D sc_Term_signs (fun vs H Q E h => ?_) (fun _ _ _ _ _ _ us hl => match us, hl with | [_], _ => rfl) (fun cdv A outer s H vs Q E hr h => ?_)
  · obtain ⟨a, wa, zs, es, rfl, _⟩ := h
    rfl
  · obtain ⟨a, wa, zs, es, rfl, ⟨dx, sa, ea, e1, e2, e3⟩, q⟩ := h
    refine ⟨_, (pss_one (ps_ret (pe_callTy (T := "list") (listK (K := K)) (by rfl) bt.list_ (by decide +kernel) (pa_cons (pe_fld (pv 0) rfl) pa_nil)))), ?_⟩
    exact ⟨_, rfl, a, _, dx, _, _, rfl, e1, cl, nb, rfl, sa, _, rfl, .inr e2, q⟩
abbrev s_Term___init__ : Stmt := inClass (top 37) 0
theorem sc_Term___init__ : FnScope ["self", "words", "signs", "most", "places"] ["self", "words", "signs", "most"] (defScope s_Term___init__) := ⟨rfl, rfl, rfl, by decide +kernel, rfl, by decide +kernel, by decide +kernel⟩

set_option maxHeartbeats 800000 in
theorem ok_Term_ini (bt : Bt mg) (k_GREATEST : ∃ t, mg "GREATEST" = some (.int 9999 t)) (cl : Cls K (tcls K)) (n1 : NoAttr K (tcls K) "term_words") (n2 : NoAttr K (tcls K) "all_signs") (n3 : NoAttr K (tcls K) "all_ends")
    (p_need_words : PromX P w K mg base 3 "need_words" ["words"] (spNeed K)) (p_is_whole : Prom P w K mg base 1 "is_whole" ["thing", "low", "high"] (spWhole K)) (p_are_signs : Prom P w K mg base 1 "are_signs" ["thing", "most"] (spAreSigns K))
    (p_places_of : PromX P w K mg base 3 "places_of" ["words", "signs"] (spPlOf K)) (p_ends_of : Prom P w K mg base 1 "ends_of" ["places"] (spEndsOf K))
    (g_NoNumber : mg "NoNumber" = some (.ref (He.ga K "NoNumber"))) (x_NoNumber : OwnV K (He.ga K "NoNumber") "found") (pi_NoNumber : PromA CX0 P w K mg base 1 (He.ma K (He.ga K "NoNumber") "__init__") ["self", "found"] (spIni (He.ga K "NoNumber") "found"))
    (g_NoSigns : mg "NoSigns" = some (.ref (He.ga K "NoSigns"))) (x_NoSigns : OwnV K (He.ga K "NoSigns") "found") (pi_NoSigns : PromA CX0 P w K mg base 1 (He.ma K (He.ga K "NoSigns") "__init__") ["self", "found"] (spIni (He.ga K "NoSigns") "found"))
    {kws : List (Str × V)} (D : DefMK K (He.ma K (tcls K) "__init__") "__init__" "Term.__init__" s_Term___init__ kws) :
    ∃ fd, FunD K "__init__" "Term.__init__" (defArgs s_Term___init__) (defBody s_Term___init__) (defScope s_Term___init__) [] kws (He.ma K (tcls K) "__init__") fd ∧ FnOk P w K mg base (L2.CX P w) 4 (He.ma K (tcls K) "__init__") fd ["self", "words", "signs", "most"] (spTIni K) := by
  obtain ⟨t_GREATEST, c_GREATEST⟩ := k_GREATEST
  refine methXK_mk D sc_Term___init__ (fun vs H Q E h => ?_) (fun cdv A outer s H vs Q E hr h => ?_)
  · obtain ⟨a, dx, x, y, m, rfl, _⟩ := h
    rfl
  · obtain ⟨a, dx, x, y, m, rfl, ha, h⟩ := h
    refine ⟨_, (pss_cons (ps_expr (pe_pcX p_need_words takesF (hr.mono (by decide)) rfl (pa_cons (pv 1) pa_nil)))
      (pss_cons (ps_if (pt_not (pt_val (pe_pc p_is_whole (hr.mono (by decide)) rfl (pa_cons (pv 3) (pa_cons pe_int (pa_cons (pe_glob (v := .int 9999) rfl c_GREATEST ⟨_, rfl⟩) pa_nil)))))) (pss_one (ps_raise1 x_NoNumber pi_NoNumber rfl takesF (hr.mono (by decide)) rfl g_NoNumber (pv 3))) pss_nil)
      (pss_cons (ps_if (pt_not (pt_val (pe_pc p_are_signs (hr.mono (by decide)) rfl (pa_cons (pv 2) (pa_cons (pv 3) pa_nil))))) (pss_one (ps_raise1 x_NoSigns pi_NoSigns rfl takesF (hr.mono (by decide)) rfl g_NoSigns (pv 2))) pss_nil)
      (pss_cons (ps_set (i := 4) sc_Term___init__.nd rfl (Or.inl rfl) (pe_pcX p_places_of takesF (hr.mono (by decide)) rfl (pa_cons (pv 1) (pa_cons (pv 2) pa_nil))))
      (pss_cons (ps_fld (pv 0) (pv 1) rfl)
      (pss_cons (ps_fld (pv 0) (pe_callTy (T := "tuple") (tupleK (K := K)) (by rfl) bt.tuple_ (by decide +kernel) (pa_cons (pv 2) pa_nil)) rfl)
      (pss_one (ps_fld (pv 0) (pe_callTy (T := "tuple") (tupleK (K := K)) (by rfl) bt.tuple_ (by decide +kernel) (pa_cons (pe_pc p_ends_of (hr.mono (by decide)) rfl (pa_cons (pv 4) pa_nil)) pa_nil)) rfl)))))))), ?_⟩
    rcases h with ⟨d, hd, q⟩ | ⟨wa, rows, d, dm, rfl, hW, hP, hd, hm, hh, q⟩
    · exact ⟨_, rfl, x, rfl, .inr ⟨d, hd, fun G e s1 he ge => q G e s1 he ge⟩⟩
    · refine ⟨_, rfl, _, rfl, .inl ⟨wa, rows, rfl, hW, ?_⟩⟩
      refine ⟨_, rfl, m, dm, 1, 9999, rfl, hm, _, rfl, ?_⟩
      unfold dueD at q
      cases c1 : wholeD 1 9999 dm with
      | false =>
        rw [wholeI_none c1] at q
        exact iteT ⟨_, rfl, fun e he => q _ e (Same.new (Same.refl _) he) he (upd_same ..)⟩
      | true =>
        obtain ⟨mi, rfl, em⟩ := wholeI_some c1
        cases hm
        rw [em] at q
        replace q : dueE K H E y (V.int mi) (∀ (G : Hp) (r : Fs), Fx a H G → r.flat = strsD d → r.wf (plS rows) → r.len = 1 → TermAt K G a wa r.flat (r.ends 0) → Q .non G) (if signsD mi d = true then .out (outS rows (strsD d)) else .signs) := q
        refine iteF ⟨_, rfl, _, rfl, y, d, mi, rfl, hd, hh.few, fun H1 s1 => ⟨_, rfl, ?_⟩⟩
        cases c2 : signsD mi d with
        | false =>
          replace q : Rs K H E "NoSigns" "found" y := by
            rw [c2, if_neg Bool.false_ne_true] at q
            exact q
          exact iteT ⟨_, rfl, fun e he => q _ e (s1.trans (Same.new (Same.refl _) he)) (s1.free he) (upd_same ..)⟩
        | true =>
          obtain ⟨ds, es, e1, e2, e3⟩ := signs_strs c2
          obtain ⟨sa, xs, rfl, hS, hA⟩ := (Dt.same s1 hd).seq es
          have ex : xs = (strsD d).map V.str := dtAll_strs (by rw [← e2]; exact hA)
          subst ex
          have lz : (strsD d).length ≤ 20000 := by rw [e1, List.length_map]; exact hh.few ds es
          have hz : ∀ z ∈ strsD d, z.length ≤ 100000 := fun z hz => hh.short ds es (.str z) (by rw [e2]; exact List.mem_map_of_mem hz) z rfl
          rw [c2, if_pos rfl] at q
          refine iteF ⟨_, rfl, _, rfl, wa, sa, rows, strsD d, rfl, hW.same s1, hP, hS, lz, hz, ?_⟩
          cases ho : outS rows (strsD d) with
          | bad i =>
            rw [ho] at q
            exact fun G e s2 he ge => q G e (s1.trans s2) (s1.free he) ge
          | beyond i =>
            rw [ho] at q
            exact fun G e s2 he ge => q G e (s1.trans s2) (s1.free he) ge
          | unended k =>
            rw [ho] at q
            exact fun G e s2 he ge => q G e (s1.trans s2) (s1.free he) ge
          | ok =>
            rw [ho] at q
            replace q : ∀ (G : Hp) (r : Fs), Fx a H G → r.flat = strsD d → r.wf (plS rows) → r.len = 1 → TermAt K G a wa r.flat (r.ends 0) → Q .non G := q
            obtain ⟨hall, hlk⟩ := out_lacks ho
            obtain ⟨r, hr1, hr2, hr3⟩ := parse _ _ hlk
            intro G2 p s2 hp ep
            have s12 := s1.trans s2
            have na : G2 a = some (.ins (tcls K) dx []) := s12 _ _ ha
            have fx2 : Fx a H G2 := Fx.of s12
            have nt : ∀ fs : List (Str × V), ∀ l, HO.ins (tcls K) dx fs ≠ .tup l := fun _ _ => nofun
            have nf : ∀ fs : List (Str × V), ∀ b u, HO.ins (tcls K) dx fs ≠ .frz b u := fun _ _ _ => nofun
            have nl : ∀ fs : List (Str × V), ∀ l, HO.ins (tcls K) dx fs ≠ .lst l := fun _ _ => nofun
            have wr : ∀ {G : Hp} {o o' : HO}, Fx a H G → Fx a H (L2.upd G a o') := fun f => f.upd
            refine ⟨_, rfl, _, rfl, a, _, dx, _, rfl, na, cl, n1, by decide, ?_⟩
            rw [show putF (("term_words" : Str)) (V.ref wa) [] = [((("term_words" : Str)), V.ref wa)] from rfl]
            have pa : p ≠ a := fun e => by rw [e, s1 _ _ ha] at hp; cases hp
            have e3 : L2.upd G2 a (.ins (tcls K) dx [("term_words", .ref wa)]) a = some (.ins (tcls K) dx [("term_words", .ref wa)]) := upd_same ..
            have ep3 : L2.upd G2 a (.ins (tcls K) dx [("term_words", .ref wa)]) p = some (.lst ((strsD d).map fun z => V.int (plN rows z : Nat))) := (upd_ne pa).trans ep
            have f3 : Fx a H (L2.upd G2 a (.ins (tcls K) dx [("term_words", .ref wa)])) := fx2.upd
            have hS3 : Sq K (L2.upd G2 a (.ins (tcls K) dx [("term_words", .ref wa)])) sa ((strsD d).map V.str) := by
              rcases hS.same s2 with h | h
              · exact .inl (SqL.upd na (nl _) (nf _) h)
              · exact .inr (SqT.upd na (nt _) (nf _) h)
            generalize L2.upd G2 a (.ins (tcls K) dx [("term_words", .ref wa)]) = G3 at e3 ep3 f3 hS3 ⊢
            rcases hS3 with hS3 | hS3
            · refine ⟨_, rfl, sa, _, rfl, .inl ⟨hS3, fun st hst => ?_⟩⟩
              (generalize hG : L2.upd _ st _ = G4; have s4 := same_of hG hst; have hT4 := at_of hG; clear hG)
              have e4 := s4 _ _ e3
              have ep4 := s4 _ _ ep3
              have f4 : Fx a H G4 := f3.trans (Fx.of s4)
              replace hT4 : SqT K G4 st ((strsD d).map V.str) := .inl (.inl hT4)
              refine ⟨_, rfl, a, _, dx, _, rfl, e4, cl, n2, by simp, ?_⟩
              rw [show putF ("all_signs" : Str) (V.ref st) [(("term_words" : Str), V.ref wa)] = [(("term_words" : Str), V.ref wa), (("all_signs" : Str), V.ref st)] from rfl]
              have e5 : L2.upd G4 a (.ins (tcls K) dx [("term_words", .ref wa), ("all_signs", .ref st)]) a = some (.ins (tcls K) dx [("term_words", .ref wa), ("all_signs", .ref st)]) := upd_same ..
              have ep5 : L2.upd G4 a (.ins (tcls K) dx [("term_words", .ref wa), ("all_signs", .ref st)]) p = some (.lst ((strsD d).map fun z => V.int (plN rows z : Nat))) := (upd_ne pa).trans ep4
              have f5 : Fx a H (L2.upd G4 a (.ins (tcls K) dx [("term_words", .ref wa), ("all_signs", .ref st)])) := f4.upd
              have hT5 : SqT K (L2.upd G4 a (.ins (tcls K) dx [("term_words", .ref wa), ("all_signs", .ref st)])) st ((strsD d).map V.str) := SqT.upd e4 (nt _) (nf _) hT4
              generalize L2.upd G4 a (.ins (tcls K) dx [("term_words", .ref wa), ("all_signs", .ref st)]) = G5 at e5 ep5 f5 hT5 ⊢
              refine ⟨_, rfl, p, plS rows, r, rfl, hr2, by rw [← Fs.flat_len, hr1]; exact lz, by rw [hr1]; exact .inl (.inl ep5), fun G6 eq6 s6 hq6 ee6 => ?_⟩
              refine ⟨eq6, _, rfl, .inl ⟨.inl (.inl ee6), fun l hl => ?_⟩⟩
              (generalize hG : L2.upd _ l _ = G7; have s7 := same_of hG hl; have e7 := at_of hG; clear hG)
              refine ⟨_, rfl, a, _, dx, _, rfl, s7 _ _ (s6 _ _ e5), cl, n3, by simp, ?_⟩
              have ha7 := s7 _ _ (s6 _ _ e5)
              refine q _ r (fun b o hb e => (upd_ne hb).trans (s7 _ _ (s6 _ _ (f5 b o hb e)))) hr1 hr2 hr3 ⟨dx, st, l, upd_same .., ?_, ?_⟩
              · rw [hr1]
                exact SqT.upd ha7 (nt _) (nf _) (SqT.same (s6.trans s7) hT5)
              · exact SqT.upd ha7 (nt _) (nf _) (.inl (.inl e7))
            · refine ⟨_, rfl, sa, _, rfl, .inr ⟨hS3, ?_⟩⟩
              obtain ⟨st, est⟩ : ∃ st, st = sa := ⟨_, rfl⟩
              obtain ⟨G4, eG4⟩ : ∃ G4, G4 = G3 := ⟨_, rfl⟩
              rw [← eG4] at e3 ep3 f3 hS3
              rw [← est] at hS3
              rw [← eG4, ← est]
              have e4 := e3
              have ep4 := ep3
              have f4 := f3
              have hT4 := hS3
              refine ⟨_, rfl, a, _, dx, _, rfl, e4, cl, n2, by simp, ?_⟩
              rw [show putF ("all_signs" : Str) (V.ref st) [(("term_words" : Str), V.ref wa)] = [(("term_words" : Str), V.ref wa), (("all_signs" : Str), V.ref st)] from rfl]
              have e5 : L2.upd G4 a (.ins (tcls K) dx [("term_words", .ref wa), ("all_signs", .ref st)]) a = some (.ins (tcls K) dx [("term_words", .ref wa), ("all_signs", .ref st)]) := upd_same ..
              have ep5 : L2.upd G4 a (.ins (tcls K) dx [("term_words", .ref wa), ("all_signs", .ref st)]) p = some (.lst ((strsD d).map fun z => V.int (plN rows z : Nat))) := (upd_ne pa).trans ep4
              have f5 : Fx a H (L2.upd G4 a (.ins (tcls K) dx [("term_words", .ref wa), ("all_signs", .ref st)])) := f4.upd
              have hT5 : SqT K (L2.upd G4 a (.ins (tcls K) dx [("term_words", .ref wa), ("all_signs", .ref st)])) st ((strsD d).map V.str) := SqT.upd e4 (nt _) (nf _) hT4
              generalize L2.upd G4 a (.ins (tcls K) dx [("term_words", .ref wa), ("all_signs", .ref st)]) = G5 at e5 ep5 f5 hT5 ⊢
              refine ⟨_, rfl, p, plS rows, r, rfl, hr2, by rw [← Fs.flat_len, hr1]; exact lz, by rw [hr1]; exact .inl (.inl ep5), fun G6 eq6 s6 hq6 ee6 => ?_⟩
              refine ⟨eq6, _, rfl, .inl ⟨.inl (.inl ee6), fun l hl => ?_⟩⟩
              (generalize hG : L2.upd _ l _ = G7; have s7 := same_of hG hl; have e7 := at_of hG; clear hG)
              refine ⟨_, rfl, a, _, dx, _, rfl, s7 _ _ (s6 _ _ e5), cl, n3, by simp, ?_⟩
              have ha7 := s7 _ _ (s6 _ _ e5)
              refine q _ r (fun b o hb e => (upd_ne hb).trans (s7 _ _ (s6 _ _ (f5 b o hb e)))) hr1 hr2 hr3 ⟨dx, st, l, upd_same .., ?_, ?_⟩
              · rw [hr1]
                exact SqT.upd ha7 (nt _) (nf _) (SqT.same (s6.trans s7) hT5)
              · exact SqT.upd ha7 (nt _) (nf _) (.inl (.inl e7))
end

end TS

namespace TS
open PySem PySem.Spec PyProof.Rows L2 TL
/-! ### rows as a dict -/
def prV (r : Str × Int) : Key × V := (Sum.inr r.1, .int r.2)
theorem merge_new : ∀ {kvs acc : List (Key × V)}, ((acc ++ kvs).map (·.1)).Nodup → mergeK acc kvs = acc ++ kvs
  | [], acc, _ => by rw [List.append_nil]; rfl
  | kv :: r, acc, h => by
    have e : putK acc kv.1 kv.2 = acc ++ [kv] := by
      refine putK_new _ (valV_none fun x hx e => ?_)
      rw [List.map_append, List.nodup_append] at h
      exact h.2.2 x.1 (List.mem_map_of_mem hx) kv.1 (by simp) e
    show mergeK (putK acc kv.1 kv.2) r = _
    rw [e, merge_new (by rw [List.append_assoc]; exact h), List.append_assoc]
    rfl
theorem rows_pairs {K : PySem.W.Frag} {H : Hp} : ∀ {rows : List (Str × Int)} {xs : List V}, DtAll K H xs (rows.map rowPy) → ∃ ps : List Addr, xs = ps.map V.ref ∧ Paired (fun p kv => SqT K H p [kV kv.1, kv.2]) ps (rows.map prV)
  | [], _, h => by cases h; exact ⟨[], rfl, .nil⟩
  | r :: rs, _, h => by
    cases h with
    | cons h0 t =>
      obtain ⟨ps, rfl, hp⟩ := rows_pairs t
      obtain ⟨a, ys, rfl, hT, hA⟩ := h0.tup_inv
      cases hA with
      | cons y0 t1 => cases t1 with
      | cons y1 t2 => cases t2 with
      | nil =>
      cases y0
      cases y1
      exact ⟨a :: ps, rfl, .cons hT hp⟩
theorem pr_val : ∀ (rows : List (Str × Int)) (z : Str), valV (rows.map prV) (Sum.inr z) = if z ∈ rows.map (·.1) then some (.int (plR rows z)) else none
  | [], z => rfl
  | r :: rs, z => by
    unfold valV plR
    rw [List.map_cons, List.find?_cons, List.find?_cons]
    by_cases e : r.1 = z
    · have e1 : decide ((prV r).1 = (Sum.inr z : Key)) = true := decide_eq_true (congrArg Sum.inr e)
      rw [e1, decide_eq_true e, if_pos (by simp [e])]
      rfl
    · have e1 : decide ((prV r).1 = (Sum.inr z : Key)) = false := decide_eq_false fun h => e (Sum.inr.inj h)
      have e2 : (z ∈ (r :: rs).map (·.1)) ↔ z ∈ rs.map (·.1) := by
        rw [List.map_cons, List.mem_cons]
        exact ⟨fun h => h.elim (fun h => absurd h.symm e) id, .inr⟩
      have ih := pr_val rs z
      unfold valV plR at ih
      rw [e1, decide_eq_false e]
      simp only [e2]
      exact ih
theorem name_small {z : Str} (h : nameS z = true) : letterL (tl z) = false := by
  unfold nameS at h
  obtain ⟨h1, h2⟩ := Bool.and_eq_true_iff.mp h
  cases er : tl z with
  | nil => rfl
  | cons c r =>
    have hc := List.all_eq_true.mp h2 c (by show c ∈ tl z; rw [er]; simp)
    obtain ⟨h3, h4⟩ := Bool.and_eq_true_iff.mp hc
    have h3 := of_decide_eq_true h3
    show (capL c && _) = false
    unfold capL
    rw [decide_eq_false (show ¬ c ≤ 90 by omega), Bool.and_false, Bool.false_and]
theorem no_letter {rows : List (Str × Int)} (ro : RowsOk rows) {z : Str} (h : z ∈ rows.map (·.1)) : letterL (tl z) = false := by
  obtain ⟨r, hr, rfl⟩ := List.mem_map.mp h
  exact name_small (ro.names r hr)
theorem plS_none {rows : List (Str × Int)} {z : Str} : (plS rows z).isNone = (!decide (z ∈ rows.map (·.1)) && !letterL (tl z)) := by
  unfold plS
  by_cases hL : letterL (tl z) = true
  · rw [if_pos hL, hL, Bool.not_true, Bool.and_false]; rfl
  · rw [if_neg hL, Bool.eq_false_iff.mpr hL]
    by_cases hm : z ∈ rows.map (·.1)
    · rw [if_pos hm, decide_eq_true hm]; rfl
    · rw [if_neg hm, decide_eq_false hm]; rfl
theorem get_plN {rows : List (Str × Int)} (ro : RowsOk rows) (z : Str) : (valV (rows.map prV) (Sum.inr z)).getD (.int 0) = .int (plN rows z : Nat) := by
  rw [pr_val]
  unfold plN plS
  by_cases hm : z ∈ rows.map (·.1)
  · have := plR_in ⟨ro.lo, ro.hi⟩ z
    rw [if_pos hm, no_letter ro hm, if_neg Bool.false_ne_true, if_pos hm]
    show V.int (plR rows z) = V.int ((plR rows z).toNat : Nat)
    rw [show (((plR rows z).toNat : Nat) : Int) = plR rows z by omega]
  · rw [if_neg hm]
    split
    · rfl
    · rfl

end TS

namespace TS
open PySem PySem.Spec PyProof.Rows L2 TL
/-! ### Words.__eq__ -/
def itemsF (i : Nat) : List (Str × Int) → List PyData
  | [] => []
  | r :: rs => .tuple [.str r.1, .tuple [.int r.2, .int (i : Nat)]] :: itemsF (i + 1) rs
theorem items_eqv : ∀ (a b : List (Str × Int)) (i : Nat), PyData.eqvAll (itemsF i a) (itemsF i b) = decide (a = b)
  | [], [], i => rfl
  | [], b :: r, i => rfl
  | a :: r, [], i => rfl
  | (x, p) :: r, (y, q) :: s, i => by
    show ((x == y && (((p == q) && (((i : Int) == (i : Int)) && true)) && true)) && PyData.eqvAll (itemsF (i + 1) r) (itemsF (i + 1) s)) = _
    rw [items_eqv r s (i + 1)]
    by_cases h1 : x = y
    · by_cases h2 : p = q
      · subst h1 h2
        simp
      · have e : (p == q) = false := by simpa using h2
        rw [e]
        simp [h2]
    · have e : (x == y) = false := by simpa using h1
      rw [e]
      simp [h1]
theorem items_lay : ∀ (rows : List (Str × Int)) (i : Nat), (∀ r ∈ rows, nameS r.1 = true) → ∀ e ∈ itemsF i rows, e.canLay0 = true ∧ e.depth ≤ 30
  | [], i, _, e, he => by cases he
  | r :: rs, i, h, e, he => by
    rcases List.mem_cons.mp he with q | m
    · subst q
      have hz := h r (by simp)
      unfold nameS at hz
      obtain ⟨_, h3⟩ := Bool.and_eq_true_iff.mp hz
      have ok : PySem.PyData.strOk r.1 = true := by
        show r.1.cps.all (· < 0x110000) = true
        rw [← Array.all_toList, List.all_eq_true]
        intro c m
        exact decide_eq_true (Nat.lt_of_le_of_lt (of_decide_eq_true (Bool.and_eq_true_iff.mp (List.all_eq_true.mp h3 c m)).2) (by decide))
      constructor
      · show PyData.canLayAll0 [.str r.1, .tuple [.int r.2, .int (i : Nat)]] = true
        unfold PyData.canLayAll0
        rw [show (PyData.str r.1).canLay0 = true from ok]
        rfl
      · show max 0 (max (max 0 (max 0 0) + 1) 0) + 1 ≤ 30
        decide
    · exact items_lay rs (i + 1) (fun r hr => h r (List.mem_cons_of_mem _ hr)) e m
theorem items_dt {K : PySem.W.Frag} {G : Hp} : ∀ (rows : List (Str × Int)) (kvs : List (Key × V)) (ts : List Addr) (i : Nat), Paired (fun (t : Addr) (q : Key × V) => G t = some (.tup [kV q.1, q.2])) ts kvs →
    kvs.length = rows.length → (∀ (j : Nat) (r : Str × Int), rows[j]? = some r → ∃ t, kvs[j]? = some (Sum.inr r.1, .ref t) ∧ SqT K G t [.int r.2, .int ((i + j : Nat) : Int)]) → DtAll K G (ts.map V.ref) (itemsF i rows)
  | [], _, _, _, .nil, _, _ => .nil
  | [], _, _, _, .cons _ _, h, _ => by simp at h
  | r :: rs, _, _, _, .nil, h, _ => by simp at h
  | r :: rs, _, _, i, .cons h0 t, hl, ha => by
    obtain ⟨tt, h1, h2⟩ := ha 0 r rfl
    simp only [List.getElem?_cons_zero, Option.some.injEq] at h1
    subst h1
    refine .cons (.tup (.inl (.inl h0)) (.cons (.str _) (.cons (.tup h2 (.cons (.int _) (.cons (.int _) .nil))) .nil))) (items_dt rs _ _ (i + 1) t (by simpa using hl) fun j q hq => ?_)
    obtain ⟨t2, h3, h4⟩ := ha (j + 1) q (by simpa using hq)
    exact ⟨t2, by simpa using h3, by rw [show i + 1 + j = i + (j + 1) by omega]; exact h4⟩
/-- x is no instance of C -/
def NotC (K : PySem.W.Frag) (H : Hp) (C : Addr) (x : V) : Prop := ∃ t, TyX K H x t ∧ PySem.W.kitOne K t (.ref C) = some false
def spWEq (K : PySem.W.Frag) : Sp := fun vs H Q _ => ∃ (a : Addr) (y : V) (rows : List (Str × Int)), vs = [.ref a, y] ∧ WordsAt K H a rows ∧ RowsOk rows ∧
  ((∃ b more, y = .ref b ∧ WordsAt K H b more ∧ RowsOk more ∧ ∀ G, Same H G → Q (.bl (decide (rows = more))) G) ∨ (NotC K H (wcls K) y ∧ Q (.bl false) H))
section
variable {P : Program} {w : World} {K : PySem.W.Frag} {mg : Str → Option Value} {base : Heap}
abbrev s_Words___eq__ : Stmt := inClass (top 29) 7
theorem sc_Words___eq__ : FnScope ["self", "other"] ["self", "other"] (defScope s_Words___eq__) := ⟨rfl, rfl, rfl, by decide +kernel, rfl, by decide +kernel, by decide +kernel⟩

set_option maxHeartbeats 800000 in
theorem ok_Words_eq (bt : Bt mg) (T : IsC K (wcls K)) (nb : NoAttr K (wcls K) "by_name") (g_Words : mg "Words" = some (.ref (He.ga K "Words"))) (D : DefM K (He.ma K (wcls K) "__eq__") "__eq__" "Words.__eq__" s_Words___eq__) : PromA CX0 P w K mg base 1 (He.ma K (wcls K) "__eq__") ["self", "other"] (spWEq K) := by
  refine meth_mk D sc_Words___eq__ (fun vs H Q E h => ?_) (fun _ _ _ _ _ _ us hl => match us, hl with | [_, _], _ => rfl) (fun cdv A outer s H vs Q E hr h => ?_)
  · obtain ⟨a, y, rows, rfl, _⟩ := h
    rfl
  · obtain ⟨a, y, rows, rfl, ⟨dx, D1, kvs, e1, e2, e3⟩, ro, h⟩ := h
    refine ⟨_, (pss_cons (ps_if (pt_not (pt_val (pe_callB (id := "isinstance") (isiK (K := K)) (by rfl) bt.isinstance_ (by decide +kernel) (pa_cons (pv 1) (pa_cons (pe_glob (v := .ref (He.ga K "Words")) rfl g_Words rfl) pa_nil))))) (pss_one (ps_ret pe_bl)) pss_nil)
      (pss_one (ps_ret (pe_cmpR (op_eqDK (K := K) hr.units) (LiI.pe_listItems rfl (pe_fld (pv 0) rfl) rfl bt.list_ (by decide +kernel)) (LiI.pe_listItems rfl (pe_fld (pv 1) rfl) rfl bt.list_ (by decide +kernel)) (nomark _))))), ?_⟩
    rcases h with ⟨b, more, rfl, ⟨dy, D2, kvt, f1, f2, f3⟩, mo, q⟩ | ⟨⟨t, ty, no⟩, q⟩
    rotate_left
    · exact ⟨_, rfl, _, _, _, _, false, rfl, .own _, ty, no, _, rfl, iteT q⟩
    refine ⟨_, rfl, _, _, _, _, true, rfl, .own _, T.ty f1, T.yes, _, rfl, iteF ?_⟩
    refine ⟨_, rfl, a, _, dx, _, _, rfl, e1, T.cl, nb, rfl, D1, kvs, rfl, e2, fun G1 p1 t1 s1 hp1 ht1 np1 ep1 pr1 => ?_⟩
    have s1' : Same H G1 := s1
    refine ⟨_, rfl, b, _, dy, _, _, rfl, s1 _ _ f1, T.cl, nb, rfl, D2, kvt, rfl, s1 _ _ f2, fun G2 p2 t2 s2 hp2 ht2 np2 ep2 pr2 => ?_⟩
    have s2' : Same G1 G2 := s2
    have s12 := s1'.trans s2'
    have d1 : DtAll K G2 (t1.map V.ref) (itemsF 0 rows) := DtAll.same s2' (items_dt rows kvs t1 0 pr1 e3.len fun j r hr => let ⟨t, x, y⟩ := e3.at_ j r hr; ⟨t, x, by rw [Nat.zero_add]; exact SqT.same s1' y⟩)
    have d2 : DtAll K G2 (t2.map V.ref) (itemsF 0 more) := items_dt more kvt t2 0 pr2 f3.len fun j r hr => let ⟨t, x, y⟩ := f3.at_ j r hr; ⟨t, x, by rw [Nat.zero_add]; exact SqT.same s12 y⟩
    have l1 := items_lay rows 0 ro.names
    have l2 := items_lay more 0 mo.names
    refine ⟨.list (itemsF 0 rows), .list (itemsF 0 more), Dp.lst (.inl (.inl (s2 _ _ ep1))) (d1.dp (lay_all fun e he => (l1 e he).1)), Dp.lst (.inl (.inl ep2)) (d2.dp (lay_all fun e he => (l2 e he).1)), shaped_list l1, shaped_list l2, ?_⟩
    have e : PyData.eqv (.list (itemsF 0 rows)) (.list (itemsF 0 more)) = decide (rows = more) := by
      unfold PyData.eqv
      exact items_eqv rows more 0
    rw [e]
    exact q G2 s12
end

end TS

namespace TS
open PySem PySem.Spec PyProof.Rows L2 TL
/-! ### Term: words, __eq__, __str__, __repr__ -/
def spTWords (K : PySem.W.Frag) : Sp := fun vs H Q _ => ∃ (a wa : Addr) (zs : List Str) (es : List Nat), vs = [.ref a] ∧ TermAt K H a wa zs es ∧ Q (.ref wa) H
/-- a term of words, all of it -/
def TermOk (K : PySem.W.Frag) (H : Hp) (a : Addr) (rows : List (Str × Int)) (zs : List Str) : Prop := ∃ wa es, TermAt K H a wa zs es ∧ WordsAt K H wa rows ∧ RowsOk rows ∧ Lays zs
theorem TermOk.same {K : PySem.W.Frag} {G G' : Hp} {a : Addr} {rows : List (Str × Int)} {zs : List Str} (h : TermOk K G a rows zs) (e : Same G G') : TermOk K G' a rows zs :=
  let ⟨wa, es, x, y, z⟩ := h; ⟨wa, es, x.same e, y.same e, z⟩
theorem TermOk.ins {K : PySem.W.Frag} {G : Hp} {a : Addr} {rows : List (Str × Int)} {zs : List Str} (h : TermOk K G a rows zs) : ∃ dx fs, G a = some (.ins (tcls K) dx fs) :=
  let ⟨_, _, ⟨dx, _, _, e, _⟩, _⟩ := h; ⟨dx, _, e⟩
def spTEq (K : PySem.W.Frag) : Sp := fun vs H Q _ => ∃ (a : Addr) (y : V) (rows : List (Str × Int)) (zs : List Str), vs = [.ref a, y] ∧ TermOk K H a rows zs ∧
  ((∃ b more ys, y = .ref b ∧ TermOk K H b more ys ∧ ∀ G, Same H G → Q (.bl (decide (rows = more) && decide (zs = ys))) G) ∨ (NotC K H (tcls K) y ∧ Q (.bl false) H))
def spTStr (K : PySem.W.Frag) : Sp := fun vs H Q _ => ∃ (a wa : Addr) (zs : List Str) (es : List Nat), vs = [.ref a] ∧ TermAt K H a wa zs es ∧ (zs.map (·.length)).sum + zs.length * 1 ≤ 100000 ∧ Q (.str (Txt.join " " zs)) H
def spTRepr (K : PySem.W.Frag) : Sp := fun vs H Q _ => ∃ (a wa : Addr) (zs : List Str) (es : List Nat), vs = [.ref a] ∧ TermAt K H a wa zs es ∧ (zs.map (·.length)).sum + zs.length * 1 ≤ 100000 ∧ ∀ z, Q (.str z) H
theorem one_blank : (" " : Str).length = 1 := by decide +kernel
section
variable {P : Program} {w : World} {K : PySem.W.Frag} {mg : Str → Option Value} {base : Heap}
abbrev s_Term_words : Stmt := inClass (top 37) 1
theorem sc_Term_words : FnScope ["self"] ["self"] (defScope s_Term_words) := ⟨rfl, rfl, rfl, by decide +kernel, rfl, by decide +kernel, by decide +kernel⟩

theorem ok_Term_words (cl : Cls K (tcls K)) (nb : NoAttr K (tcls K) "term_words") (D : DefM K (He.ma K (tcls K) "words") "words" "Term.words" s_Term_words) : PromA CX0 P w K mg base 1 (He.ma K (tcls K) "words") ["self"] (spTWords K) := by
  refine meth_mk D sc_Term_words (fun vs H Q E h => ?_) (fun _ _ _ _ _ _ us hl => match us, hl with | [_], _ => rfl) (fun cdv A outer s H vs Q E hr h => ?_)
  · obtain ⟨a, wa, zs, es, rfl, _⟩ := h
    rfl
  · obtain ⟨a, wa, zs, es, rfl, ⟨dx, sa, ea, e1, e2, e3⟩, q⟩ := h
    refine ⟨_, (pss_one (ps_ret (pe_fld (pv 0) rfl))), ?_⟩
    exact ⟨_, rfl, a, _, dx, _, _, rfl, e1, cl, nb, rfl, q⟩
abbrev s_Term___eq__ : Stmt := inClass (top 37) 20
theorem sc_Term___eq__ : FnScope ["self", "other"] ["self", "other"] (defScope s_Term___eq__) := ⟨rfl, rfl, rfl, by decide +kernel, rfl, by decide +kernel, by decide +kernel⟩

set_option maxHeartbeats 800000 in
theorem ok_Term_eq (bt : Bt mg) (T : IsC K (tcls K)) (n1 : NoAttr K (tcls K) "term_words") (g_Term : mg "Term" = some (.ref (He.ga K "Term"))) (cl_Term : Cls K (tcls K)) (mm_Term_words : Meth K (tcls K) "words" (He.ma K (tcls K) "words")) (mm_Term_signs : Meth K (tcls K) "signs" (He.ma K (tcls K) "signs"))
    (mq_Words : Meth K (wcls K) "__eq__" (He.ma K (wcls K) "__eq__")) (ne_Words : NeC K (wcls K)) (p_Words___eq__ : PromA CX0 P w K mg base 1 (He.ma K (wcls K) "__eq__") ["self", "other"] (spWEq K))
    (p_Term_words : PromA CX0 P w K mg base 1 (He.ma K (tcls K) "words") ["self"] (spTWords K)) (p_Term_signs : PromA CX0 P w K mg base 1 (He.ma K (tcls K) "signs") ["self"] (spTSigns K))
    (D : DefM K (He.ma K (tcls K) "__eq__") "__eq__" "Term.__eq__" s_Term___eq__) : PromA CX0 P w K mg base 3 (He.ma K (tcls K) "__eq__") ["self", "other"] (spTEq K) := by
  refine meth_mk D sc_Term___eq__ (fun vs H Q E h => ?_) (fun _ _ _ _ _ _ us hl => match us, hl with | [_, _], _ => rfl) (fun cdv A outer s H vs Q E hr h => ?_)
  · obtain ⟨a, y, rows, zs, rfl, _⟩ := h
    rfl
  · obtain ⟨a, y, rows, zs, rfl, ⟨wa, es, ta, hW, ro, lz⟩, h⟩ := h
    obtain ⟨dx, sa, ea, e1, e2, e3⟩ := id ta
    refine ⟨_, (pss_cons (ps_if (PW.pt (pw_or (pt_not (pt_val (pe_callB (id := "isinstance") (isiK (K := K)) (by rfl) bt.isinstance_ (by decide +kernel) (pa_cons (pv 1) (pa_cons (pe_glob (v := .ref (He.ga K "Term")) rfl g_Term rfl) pa_nil))))) (pw_or1 (pt_cmpR (op_neOwn mq_Words ne_Words p_Words___eq__ (hr.mono (by decide))) (pe_fld (pv 0) rfl) (pe_pm0 cl_Term mm_Term_words p_Term_words (hr.mono (by decide)) (pv 1)) (nomark _))))) (pss_one (ps_ret pe_bl)) pss_nil)
      (pss_one (ps_ret (pe_cmpR (op_eqDK (K := K) hr.units) (pe_pm0 cl_Term mm_Term_signs p_Term_signs (hr.mono (by decide)) (pv 0)) (pe_pm0 cl_Term mm_Term_signs p_Term_signs (hr.mono (by decide)) (pv 1)) (nomark _))))), ?_⟩
    rcases h with ⟨b, more, ys, rfl, ⟨wb, et, tb, hV, mo, ly⟩, q⟩ | ⟨⟨t, ty, no⟩, q⟩
    rotate_left
    · exact ⟨_, rfl, _, _, _, _, false, rfl, .own _, ty, no, _, rfl, iteT (iteT q)⟩
    obtain ⟨dy, sb, eb, f1, f2, f3⟩ := id tb
    refine ⟨_, rfl, _, _, _, _, true, rfl, .own _, T.ty f1, T.yes, _, rfl, iteF ?_⟩
    refine ⟨_, rfl, a, _, dx, _, _, rfl, e1, T.cl, n1, rfl, _, rfl, b, dy, _, rfl, f1, rfl, b, wb, ys, et, rfl, tb, ?_⟩
    obtain ⟨ux, uD, ukv, u1, u2, u3⟩ := id hW
    obtain ⟨vx, vD, vkv, v1, v2, v3⟩ := id hV
    refine ⟨wa, wb, ux, vx, _, _, rfl, rfl, u1, v1, wa, .ref wb, rows, rfl, hW, ro, .inl ⟨wb, more, rfl, hV, mo, fun G sG => ⟨_, rfl, _, rfl, ?_⟩⟩⟩
    by_cases hrm : rows = more
    · rw [decide_eq_true hrm] at q ⊢
      refine iteF ⟨_, rfl, a, dx, _, rfl, sG _ _ e1, rfl, a, wa, zs, es, rfl, ta.same sG, fun l hl => ?_⟩
      (generalize hG : L2.upd _ l _ = G1; have sl := same_of hG hl; have el := at_of hG; clear hG)
      have s1 := sG.trans sl
      refine ⟨_, rfl, b, dy, _, rfl, s1 _ _ f1, rfl, b, wb, ys, et, rfl, tb.same s1, fun m hm => ?_⟩
      (generalize hG : L2.upd _ m _ = G2; have sm := same_of hG hm; have em := at_of hG; clear hG)
      exact strs_eq (.inl (.inl (sm _ _ el))) (.inl (.inl em)) lz ly (q _ (s1.trans sm))
    · rw [decide_eq_false hrm] at q ⊢
      exact iteT (q _ sG)
abbrev s_Term___str__ : Stmt := inClass (top 37) 21
theorem sc_Term___str__ : FnScope ["self"] ["self"] (defScope s_Term___str__) := ⟨rfl, rfl, rfl, by decide +kernel, rfl, by decide +kernel, by decide +kernel⟩

theorem ok_Term_str (bt : Bt mg) (cl : Cls K (tcls K)) (nb : NoAttr K (tcls K) "all_signs") (D : DefM K (He.ma K (tcls K) "__str__") "__str__" "Term.__str__" s_Term___str__) : PromA CX0 P w K mg base 1 (He.ma K (tcls K) "__str__") ["self"] (spTStr K) := by
  refine meth_mk D sc_Term___str__ (fun vs H Q E h => ?_) (fun _ _ _ _ _ _ us hl => match us, hl with | [_], _ => rfl) (fun cdv A outer s H vs Q E hr h => ?_)
  · obtain ⟨a, wa, zs, es, rfl, _⟩ := h
    rfl
  · obtain ⟨a, wa, zs, es, rfl, ⟨dx, sa, ea, e1, e2, e3⟩, hz, q⟩ := h
    refine ⟨_, (pss_one (ps_ret (pe_joinK (K := K) rfl pe_str (pe_fld (pv 0) rfl)))), ?_⟩
    exact ⟨⟨_, rfl⟩, _, rfl, a, _, dx, _, _, rfl, e1, cl, nb, rfl, _, sa, zs, rfl, rfl, .inr e2, (by rw [one_blank]; omega), q⟩
abbrev s_Term___repr__ : Stmt := inClass (top 37) 22
theorem sc_Term___repr__ : FnScope ["self"] ["self"] (defScope s_Term___repr__) := ⟨rfl, rfl, rfl, by decide +kernel, rfl, by decide +kernel, by decide +kernel⟩

theorem ok_Term_repr (bt : Bt mg) (ms_Term : Meth K (tcls K) "__str__" (He.ma K (tcls K) "__str__")) (p_Term___str__ : PromA CX0 P w K mg base 1 (He.ma K (tcls K) "__str__") ["self"] (spTStr K)) (D : DefM K (He.ma K (tcls K) "__repr__") "__repr__" "Term.__repr__" s_Term___repr__) :
    PromA CX0 P w K mg base 4 (He.ma K (tcls K) "__repr__") ["self"] (spTRepr K) := by
  refine meth_mk D sc_Term___repr__ (fun vs H Q E h => ?_) (fun _ _ _ _ _ _ us hl => match us, hl with | [_], _ => rfl) (fun cdv A outer s H vs Q E hr h => ?_)
  · obtain ⟨a, wa, zs, es, rfl, _⟩ := h
    rfl
  · obtain ⟨a, wa, zs, es, rfl, ta, hz, q⟩ := h
    obtain ⟨dx, sa, ea, e1, e2, e3⟩ := id ta
    refine ⟨_, (pss_one (ps_ret (pe_joined (.cons pe_str (.cons (pe_fmt (pe_callTy (T := "str") (str_own ms_Term p_Term___str__ (hr.mono (by decide))) (by rfl) bt.str_ (by decide +kernel) (pa_cons (pv 0) pa_nil))) (.cons pe_str .nil)))))), ?_⟩
    have jl := join_sum " " zs
    rw [one_blank] at jl
    have e0 : (Str.empty ++ ("Term(" : Str)).length = 5 := by decide +kernel
    refine ⟨_, rfl, by rw [e0]; decide, _, rfl, a, dx, _, rfl, e1, a, wa, zs, es, rfl, ta, hz, _, rfl, .inl ⟨_, rfl, sz5 (by omega), _, rfl, ?_, _, rfl, ?_, q _⟩⟩
    · rw [add_len, e0]
      exact Nat.le_trans (show 5 + (Txt.join " " zs).length ≤ 200000 by omega) (by decide)
    · rw [add_len, add_len, e0]
      have : (")" : Str).length = 1 := by decide +kernel
      rw [this]
      exact Nat.le_trans (show 5 + (Txt.join " " zs).length + 1 ≤ 200000 by omega) (by decide)
end

end TS

namespace TS
open PySem PySem.Spec PyProof.Rows L2 TL
/-! ### texts parted -/
/-- what is told of a thing's kind: no text -/
def NoStr (K : PySem.W.Frag) (H : Hp) (x : V) : Prop := ∃ t, TyX K H x t ∧ PySem.W.kitOne K t (.type "str") = some false
def wordsOf (z : Str) : Option (List Str) := if decide (10 ∈ tl z) || inV (.str "") ((Txt.split z " ").map V.str) then none else some (Txt.split z " ")
/-- words of a text: None, or a new list -/
def WordsBack (H : Hp) (Q : VK) : Option (List Str) → Prop
  | none => ∀ H', Same H H' → Q .non H'
  | some ws => ∀ p H', H p = none → Same H H' → H' p = some (.lst (ws.map V.str)) → Q (.ref p) H'
def spWordsIn (K : PySem.W.Frag) : Sp := fun vs H Q _ => ∃ x : V, vs = [x] ∧ ((∃ z, x = .str z ∧ z.length ≤ 100000 ∧ WordsBack H Q (wordsOf z)) ∨ (NoStr K H x ∧ WordsBack H Q none))
theorem all_nl (l : List Nat) : (l.map fun c => !decide (V.str ⟨#[c]⟩ = V.str "\n")).all id = !decide (10 ∈ l) := by
  induction l with
  | nil => rfl
  | cons c r ih =>
    rw [List.map_cons, List.all_cons, ih]
    have e : decide (V.str ⟨#[c]⟩ = V.str "\n") = decide (c = 10) := by
      have h : ("\n" : Str) = ⟨#[10]⟩ := by decide +kernel
      rw [h]
      simp
    rw [e]
    by_cases h : c = 10
    · subst h; simp
    · have h' : ¬ 10 = c := fun z => h z.symm
      simp [h, h']
section
variable {P : Program} {w : World} {K : PySem.W.Frag} {mg : Str → Option Value} {base : Heap}
abbrev s_words_in : Stmt := top 23
theorem sc_words_in : FnScope ["thing", "words", "sign"] ["thing"] (defScope s_words_in) := ⟨rfl, rfl, rfl, by decide +kernel, rfl, by decide +kernel, by decide +kernel⟩

theorem ok_words_in (bt : Bt mg) (D : Def K mg "words_in" s_words_in) : Prom P w K mg base 1 "words_in" ["thing"] (spWordsIn K) := by
  refine prom_mk D sc_words_in (fun vs H Q E h => ?_) (fun _ _ _ _ _ _ us hl => match us, hl with | [_], _ => rfl) (fun f cdv A outer s H vs Q E hr h => ?_)
  · obtain ⟨x, rfl, _⟩ := h
    rfl
  · obtain ⟨x, rfl, h⟩ := h
    refine ⟨_, (pss_cons (ps_if (pt_not (pt_val (pe_callB (id := "isinstance") (isiK (K := K)) (by rfl) bt.isinstance_ (by decide +kernel) (pa_cons (pv 0) (pa_cons (pe_bltn (v := .ty "str") rfl bt.str_ (by decide +kernel) rfl) pa_nil))))) (pss_one (ps_ret pe_non)) pss_nil)
      (pss_cons (ps_set (i := 1) sc_words_in.nd rfl (Or.inl rfl) (pe_split (pv 0) pe_str))
      (pss_cons (ps_if (PW.pt (pw_or (pt_cmpR (op_inK (K := K)) pe_str (pv 1) rfl) (pw_or1 (pt_not (pt_val (pe_callB (id := "all") (allK (K := K) rfl) (by rfl) bt.all_ (by decide +kernel) (pa_cons (pe_lc (own := [("sign", 2)]) (g := gName 2) rfl sc_words_in.nd (pi_str (pv 0)) (blkOk_by (N := ["thing", "words", "sign"]) (sc := defScope s_words_in) (by decide +kernel)) (fun _ _ _ _ _ => (pg_name (i := 2) sc_words_in.nd rfl (Or.inl rfl))) (fun _ _ _ _ _ => pts_nil) (fun _ _ _ _ _ => (pe_cmpR op_ne (pv 2) pe_str (nomark _)))) pa_nil))))))) (pss_one (ps_ret pe_non)) pss_nil)
      (pss_one (ps_ret (pv 1)))))), ?_⟩
    rcases h with ⟨z, rfl, hz, q⟩ | ⟨⟨t, ht, hk⟩, q⟩
    · refine ⟨_, rfl, _, _, _, _, true, rfl, .ty "str", .base (.str z), kit_ty (by decide +kernel), _, rfl, iteF ?_⟩
      refine ⟨_, rfl, ⟨_, rfl⟩, _, _, rfl, rfl, by decide +kernel, (Nat.le_trans (Nat.add_le_add_right hz 2) (by decide)), fun p hp => ?_⟩
      have sp := Same.new (o := .lst ((Txt.split z " ").map V.str)) (Same.refl H) hp
      refine ⟨_, rfl, p, _, rfl, .inl (.inl (.inl upd_same)), rfl, ?_, _, rfl, ?_⟩
      · rw [List.all_eq_true]
        intro v hv
        obtain ⟨y, _, rfl⟩ := List.mem_map.mp hv
        rfl
      · unfold wordsOf at q
        refine ite2 (fun c => ?_) (fun c => ?_)
        · have c0 : inV (.str "") ((Txt.split z " ").map V.str) = true := c
          rw [c0, Bool.or_true, if_pos rfl] at q
          exact iteT (q _ sp)
        · refine ⟨_, rfl, z, rfl, fun L hL => ?_⟩
          refine lc_signs (fun c => V.bl (!decide (V.str ⟨#[c]⟩ = V.str "\n"))) hz (fun c H' C q => ⟨rfl, _, rfl, rfl, q⟩) ?_ gName_mono
          refine ⟨L, (tl z).map fun c => !decide (V.str ⟨#[c]⟩ = V.str "\n"), rfl, .inl (.inl (by rw [upd_same, List.map_map]; rfl)), _, rfl, ?_⟩
          rw [all_nl]
          have sL := Same.new (o := .lst ((tl z).map fun c => V.bl (!decide (V.str ⟨#[c]⟩ = V.str "\n")))) (Same.refl _) hL
          have c' : inV (.str "") ((Txt.split z " ").map V.str) = false := by
            cases e : inV (.str "") ((Txt.split z " ").map V.str) with
            | false => rfl
            | true => exact absurd e c
          rw [c', Bool.or_false] at q
          by_cases hn : 10 ∈ tl z
          · rw [decide_eq_true hn] at q ⊢
            exact iteT (q _ (sp.trans sL))
          · rw [decide_eq_false hn] at q ⊢
            refine iteF ⟨_, rfl, ?_⟩
            exact q p _ hp (sp.trans sL) (sL _ _ upd_same)
    · refine ⟨_, rfl, _, _, _, _, false, rfl, .ty "str", ht, hk, _, rfl, iteT ?_⟩
      exact q _ (Same.refl _)
end

end TS

namespace TS
open PySem PySem.Spec PyProof.Rows L2 TL
/-! ### term_of -/
def lineD : PyData → Option (List Str)
  | .str z => match wordsOf z with
    | some ws => if ws.length ≤ 100 then some ws else none
    | none => none
  | _ => none
theorem words_split {z : Str} {ws : List Str} (h : wordsOf z = some ws) : ws = Txt.split z " " ∧ 10 ∉ tl z ∧ inV (.str "") (ws.map V.str) = false := by
  unfold wordsOf at h
  split at h
  · cases h
  · rename_i c
    cases h
    have c' := Bool.eq_false_iff.mpr c
    obtain ⟨c1, c2⟩ := Bool.or_eq_false_iff.mp c'
    exact ⟨rfl, of_decide_eq_false c1, c2⟩
theorem strs_all (ws : List Str) : (ws.map PyData.str).all isStrD = true := by
  rw [List.all_eq_true]
  intro e he
  obtain ⟨z, _, rfl⟩ := List.mem_map.mp he
  rfl
theorem due_strs {rows : List (Str × Int)} {ws : List Str} (h1 : 1 ≤ ws.length) (h2 : ws.length ≤ 100) : dueD rows (.list (ws.map .str)) (.int 100) = .out (outS rows ws) := by
  have e1 : wholeI (.int 100) = some 100 := rfl
  have e2 : signsD 100 (.list (ws.map .str)) = true := by
    show (decide (1 ≤ (ws.map PyData.str).length) && decide (((ws.map PyData.str).length : Int) ≤ 100) && (ws.map PyData.str).all isStrD) = true
    rw [strs_all, List.length_map, decide_eq_true h1, decide_eq_true (show (ws.length : Int) ≤ 100 by omega)]
    rfl
  have e3 : strsD (.list (ws.map .str)) = ws := by
    show ((ws.map PyData.str).map strOf) = ws
    rw [List.map_map]
    exact List.map_id' ws
  unfold dueD
  rw [e1]
  show (if signsD 100 (.list (ws.map .str)) = true then Due.out (outS rows (strsD (.list (ws.map .str)))) else Due.signs) = _
  rw [e2, if_pos rfl, e3]
def lineE (K : PySem.W.Frag) (H : Hp) (E : XK) (y : V) (rows : List (Str × Int)) (wa : Addr) (C : Addr → Hp → Prop) : Option (List Str) → Prop
  | none => Rs K H E "NoSigns" "found" y
  | some ws => outE K H E (∀ (G : Hp) (a : Addr) (es : List Nat), Same H G → H a = none → TermAt K G a wa ws es → C a G) (outS rows ws)
def spTermOf (K : PySem.W.Frag) : Sp := fun vs H Q E => ∃ x y : V, vs = [x, y] ∧ ((∃ d, Dt K H x d ∧ Rs K H E "NoWords" "found" x) ∨
  (∃ (wa : Addr) (rows : List (Str × Int)) (d : PyData), x = .ref wa ∧ WordsAt K H wa rows ∧ RowsP rows ∧ Dt K H y d ∧ (∀ z, d = .str z → z.length ≤ 100000) ∧
    lineE K H E y rows wa (fun a G => Q (.ref a) G) (lineD d)))
section
variable {P : Program} {w : World} {K : PySem.W.Frag} {mg : Str → Option Value} {base : Heap}
abbrev s_term_of : Stmt := top 38
theorem sc_term_of : FnScope ["words", "text", "signs"] ["words", "text"] (defScope s_term_of) := ⟨rfl, rfl, rfl, by decide +kernel, rfl, by decide +kernel, by decide +kernel⟩

set_option maxHeartbeats 800000 in
theorem ok_term_of (bt : Bt mg) (k_MOST_SIGNS_terms : ∃ t, mg "MOST_SIGNS_terms" = some (.int 100 t)) (p_need_words : PromX P w K mg base 3 "need_words" ["words"] (spNeed K)) (p_words_in : Prom P w K mg base 1 "words_in" ["thing"] (spWordsIn K))
    (m_Term : Mk K (tcls K) (He.ma K (tcls K) "__init__")) (g_Term : mg "Term" = some (.ref (tcls K))) (p_Term0 : PromAK P w K mg base 4 (He.ma K (tcls K) "__init__") ["self", "words", "signs", "most"] (spTIni K) 3 [] (fun vs zs => vs ++ ([V.int 100] ++ zs)))
    (g_NoSigns : mg "NoSigns" = some (.ref (He.ga K "NoSigns"))) (x_NoSigns : OwnV K (He.ga K "NoSigns") "found") (pi_NoSigns : PromA CX0 P w K mg base 1 (He.ma K (He.ga K "NoSigns") "__init__") ["self", "found"] (spIni (He.ga K "NoSigns") "found"))
    (D : Def K mg "term_of" s_term_of) : FnX P w K mg base 6 "term_of" s_term_of ["words", "text"] (spTermOf K) := by
  obtain ⟨t_MOST_SIGNS_terms, c_MOST_SIGNS_terms⟩ := k_MOST_SIGNS_terms
  refine fnX_mk D sc_term_of (fun vs H Q E h => ?_) (fun f cdv A outer s H vs Q E hr h => ?_)
  · obtain ⟨x, y, rfl, _⟩ := h
    rfl
  · obtain ⟨x, y, rfl, h⟩ := h
    refine ⟨_, (pss_cons (ps_expr (pe_pcX p_need_words takesF (hr.mono (by decide)) rfl (pa_cons (pv 0) pa_nil)))
      (pss_cons (ps_set (i := 2) sc_term_of.nd rfl (Or.inl rfl) (pe_pc p_words_in (hr.mono (by decide)) rfl (pa_cons (pv 1) pa_nil)))
      (pss_cons (ps_if (PW.pt (pw_or (pt_cmpR op_isN (pv 2) pe_non (nomark _)) (pw_or1 (pt_cmpR op_gt (pe_callB (id := "len") (lenK (K := K)) (by rfl) bt.len_ (by decide +kernel) (pa_cons (pv 2) pa_nil)) (pe_glob (v := .int 100) rfl c_MOST_SIGNS_terms ⟨_, rfl⟩) (nomark _))))) (pss_one (ps_raise1 x_NoSigns pi_NoSigns rfl takesF (hr.mono (by decide)) rfl g_NoSigns (pv 1))) pss_nil)
      (pss_one (ps_ret (pe_makeSK m_Term p_Term0 takesF (hr.mono (by decide)) rfl g_Term (pa_cons (pv 0) (pa_cons (pv 2) pa_nil)) pk_nil)))))), ?_⟩
    rcases h with ⟨d, hd, q⟩ | ⟨wa, rows, d, rfl, hW, hP, hd, hz, q⟩
    · exact ⟨_, rfl, x, rfl, .inr ⟨d, hd, fun G e s1 he ge => q G e s1 he ge⟩⟩
    refine ⟨_, rfl, _, rfl, .inl ⟨wa, rows, rfl, hW, ?_⟩⟩
    have bad : lineD d = none → ∀ G, Same H G → ∀ e, G e = none → E (.ref (He.ga K "NoSigns")) (some e) (L2.upd G e (.xd [("found", y)])) := fun el G sG e he => by
      rw [el] at q
      exact q _ e (sG.trans (Same.new (Same.refl _) he)) (sG.free he) (upd_same ..)
    cases c : isD "str" d with
    | false =>
      have el : lineD d = none := by cases d <;> first | rfl | (rw [isD_strs] at c; cases c)
      refine ⟨_, rfl, y, rfl, .inr ⟨⟨_, hd.ty, by rw [isi_str, c]⟩, fun G sG => ?_⟩⟩
      exact ⟨_, rfl, rfl, _, rfl, iteT (iteT ⟨_, rfl, fun e he => bad el G sG e he⟩)⟩
    | true =>
      obtain ⟨z, rfl⟩ := isD_str c
      cases hd
      have hzl := hz z rfl
      refine ⟨_, rfl, _, rfl, .inl ⟨z, rfl, hzl, ?_⟩⟩
      cases ew : wordsOf z with
      | none =>
        have el : lineD (.str z) = none := by show (match wordsOf z with | some ws => _ | none => none) = none; rw [ew]
        intro G sG
        exact ⟨_, rfl, rfl, _, rfl, iteT (iteT ⟨_, rfl, fun e he => bad el G sG e he⟩)⟩
      | some ws =>
        have e0 : lineD (.str z) = if ws.length ≤ 100 then some ws else none := by show (match wordsOf z with | some ws => _ | none => none) = _; rw [ew]
        intro p G hp sG ep
        obtain ⟨es, _, _⟩ := words_split ew
        have sp := splits z
        rw [← es] at sp
        refine ⟨_, rfl, rfl, _, rfl, iteF ⟨_, rfl, _, _, rfl, .inl ⟨_, .inl (.inl ep), rfl⟩, _, _, rfl, rfl, _, rfl, ?_⟩⟩
        rw [List.length_map]
        by_cases hl : ws.length ≤ 100
        rotate_left
        · rw [if_neg hl] at e0
          rw [decide_eq_true (show ((ws.length : Nat) : Int) > 100 by omega)]
          exact iteT ⟨_, rfl, fun e he => bad e0 G sG e he⟩
        rw [if_pos hl] at e0
        rw [e0] at q
        rw [decide_eq_false (show ¬ ((ws.length : Nat) : Int) > 100 by omega)]
        refine iteF ⟨_, rfl, _, rfl, rfl, rfl, fun a dx ha hdx ne => ?_⟩
        have s1 : Same G (L2.upd (L2.upd G dx (.own a)) a (.ins (tcls K) dx [])) := fun b o e => by
          rw [upd_ne (ne_of_none e ha), upd_ne (ne_of_none e hdx)]
          exact e
        have ea : L2.upd (L2.upd G dx (.own a)) a (.ins (tcls K) dx []) a = some (.ins (tcls K) dx []) := upd_same ..
        generalize L2.upd (L2.upd G dx (.own a)) a (.ins (tcls K) dx []) = G1 at s1 ea ⊢
        have sH := sG.trans s1
        refine ⟨a, dx, _, _, _, rfl, ea, .inr ⟨wa, rows, .list (ws.map .str), .int 100, rfl, hW.same sH, hP, .lst (.inl (.inl (s1 _ _ ep))) (dt_strs ws), .int 100, ⟨fun ds e => ?_, fun ds e x hx y ey => ?_⟩, ?_⟩⟩
        · cases e
          rw [List.length_map]
          omega
        · cases e
          obtain ⟨t, ht, rfl⟩ := List.mem_map.mp hx
          cases ey
          exact Nat.le_trans (sp.le ht) hzl
        · rw [due_strs sp.some_ hl]
          show outE K G1 _ _ (outS rows ws)
          replace q : outE K H E (∀ (G : Hp) (a : Addr) (es : List Nat), Same H G → H a = none → TermAt K G a wa ws es → Q (.ref a) G) (outS rows ws) := q
          cases ho : outS rows ws with
          | bad i =>
            rw [ho] at q
            exact fun G2 e s2 he ge => q G2 e (sH.trans s2) (sH.free he) ge
          | beyond i =>
            rw [ho] at q
            exact fun G2 e s2 he ge => q G2 e (sH.trans s2) (sH.free he) ge
          | unended i =>
            rw [ho] at q
            exact fun G2 e s2 he ge => q G2 e (sH.trans s2) (sH.free he) ge
          | ok =>
            rw [ho] at q
            replace q : ∀ (G : Hp) (a : Addr) (es : List Nat), Same H G → H a = none → TermAt K G a wa ws es → Q (.ref a) G := q
            intro G2 r fx er _ _ ta
            have e3 : strsD (.list (ws.map .str)) = ws := by
              show ((ws.map PyData.str).map strOf) = ws
              rw [List.map_map]
              exact List.map_id' ws
            rw [er, e3] at ta
            exact ⟨rfl, q G2 a _ (fun b o e => fx b o (ne_of_none (sG _ _ e) ha) (sH _ _ e)) (sG.free ha) ta⟩
end

end TS

namespace TS
open PySem PySem.Spec PyProof.Rows L2 TL
/-! ### the law's own look at letters -/
theorem val_ge : ∀ (r : List Nat) (a : Nat), a * 10 ^ r.length ≤ r.foldl (fun acc c => acc * 10 + (c - 48)) a
  | [], a => by simp
  | c :: r, a => by
    have h := val_ge r (a * 10 + (c - 48))
    rw [List.foldl_cons, List.length_cons, Nat.pow_succ]
    refine Nat.le_trans ?_ h
    rw [show a * (10 ^ r.length * 10) = (a * 10) * 10 ^ r.length by rw [Nat.mul_comm (10 ^ r.length) 10, Nat.mul_assoc]]
    exact Nat.mul_le_mul_right _ (by omega)
/-- three figures or more that begin with no nought are no number below a hundred -/
theorem plain_big {r : List Nat} (h : plainL r = true) (h3 : 3 ≤ r.length) : ¬ NumText.digitsVal r ≤ 99 := by
  unfold plainL at h
  obtain ⟨_, h2⟩ := Bool.and_eq_true_iff.mp h
  obtain ⟨h4, h5⟩ := Bool.and_eq_true_iff.mp h2
  match r, h3 with
  | c :: d :: e :: r, _ =>
    have hc := List.all_eq_true.mp h4 c (by simp)
    have h48 : c ≠ 48 := fun e => by subst e; simp at h5
    unfold digit at hc
    obtain ⟨x1, x2⟩ := Bool.and_eq_true_iff.mp hc
    have x1 := of_decide_eq_true x1
    have q := val_ge (d :: e :: r) (0 * 10 + (c - 48))
    have e2 : NumText.digitsVal (c :: d :: e :: r) = (d :: e :: r).foldl (fun acc c => acc * 10 + (c - 48)) (0 * 10 + (c - 48)) := rfl
    rw [e2]
    intro hh
    have p : 10 ^ (d :: e :: r).length ≥ 100 := by
      rw [List.length_cons, List.length_cons, Nat.pow_succ, Nat.pow_succ]
      have := Nat.one_le_pow r.length 10 (by decide)
      omega
    have : (0 * 10 + (c - 48)) * 10 ^ (d :: e :: r).length ≥ 1 * 10 ^ (d :: e :: r).length := Nat.mul_le_mul_right _ (by omega)
    omega
def strI (k : Nat) : Str := toString ((0 : Int) + (k : Int))
def tails : List (List Nat) := (List.range 100).map fun k => tl (strI k)
theorem tails_plain : ∀ r ∈ tails, (plainL r && decide (NumText.digitsVal r ≤ 99)) = true := by decide +kernel
theorem plain_tails {r : List Nat} (h : plainL r = true) (h3 : r.length < 3) : r ∈ tails := by
  unfold plainL at h
  obtain ⟨h1, h2⟩ := Bool.and_eq_true_iff.mp h
  obtain ⟨h4, h5⟩ := Bool.and_eq_true_iff.mp h2
  have h6 := of_decide_eq_true (Bool.and_eq_true_iff.mp h1).1
  have dg : ∀ c ∈ r, ∃ k, k < 10 ∧ c = 48 + k := fun c hc => by
    have := List.all_eq_true.mp h4 c hc
    unfold digit at this
    obtain ⟨x1, x2⟩ := Bool.and_eq_true_iff.mp this
    have := of_decide_eq_true x1
    have := of_decide_eq_true x2
    exact ⟨c - 48, by omega, by omega⟩
  match r, h6, h3 with
  | [c], _, _ =>
    obtain ⟨k, hk, rfl⟩ := dg c (by simp)
    exact (by decide +kernel : ∀ k < 10, [48 + k] ∈ tails) k hk
  | [c, d], _, _ =>
    obtain ⟨k, hk, rfl⟩ := dg c (by simp)
    obtain ⟨j, hj, rfl⟩ := dg d (by simp)
    have hk0 : k ≠ 0 := fun e => by subst e; simp at h5
    exact (by decide +kernel : ∀ k < 10, ∀ j < 10, k ≠ 0 → [48 + k, 48 + j] ∈ tails) k hk j hj hk0
theorem cap_cmp (c : Nat) : (!decide ([c] < [65])) = true ∧ (!decide ([90] < [c])) = true ↔ capL c = true := by
  unfold capL
  simp only [Bool.not_eq_true', decide_eq_false_iff_not, Bool.and_eq_true, decide_eq_true_eq, List.cons_lt_cons_iff, List.lt_irrefl, and_false, or_false]
  omega
theorem inV_strs {z : Str} {l : List Str} : inV (.str z) (l.map V.str) = decide (z ∈ l) := by
  unfold inV
  rw [List.any_map]
  induction l with
  | nil => rfl
  | cons y r ih =>
    rw [List.any_cons, ih]
    show ((y == z) || decide (z ∈ r)) = _
    by_cases h : y = z
    · subst h; simp
    · have h' : ¬ z = y := fun e => h e.symm
      have e : (y == z) = false := by simpa using h
      rw [e]
      simp [h']
def spLLetter : Sp := fun vs H Q _ => ∃ z : Str, vs = [.str z] ∧ z.length ≤ 100000 ∧ ∀ H', Same H H' → Q (.bl (letterL (tl z))) H'
section
variable {P : Program} {w : World} {K : PySem.W.Frag} {mg : Str → Option Value} {base : Heap}
abbrev s__law_is_letter : Stmt := top 48
theorem sc__law_is_letter : FnScope ["_law_sign", "_law_tail", "_law_k"] ["_law_sign"] (defScope s__law_is_letter) := ⟨rfl, rfl, rfl, by decide +kernel, rfl, by decide +kernel, by decide +kernel⟩

set_option maxHeartbeats 800000 in
theorem ok_law_is_letter (bt : Bt mg) (D : Def K mg "_law_is_letter" s__law_is_letter) : Prom P w K mg base 1 "_law_is_letter" ["_law_sign"] spLLetter := by
  refine prom_mk D sc__law_is_letter (fun vs H Q E h => ?_) (fun _ _ _ _ _ _ us hl => match us, hl with | [_], _ => rfl) (fun f cdv A outer s H vs Q E hr h => ?_)
  · obtain ⟨z, rfl, _⟩ := h
    rfl
  · obtain ⟨z, rfl, hz, q⟩ := h
    refine ⟨_, (pss_cons (ps_if (pt_not (pt_chain op_le_str op_le_str pe_str (pe_slice sl_str (pv 0) po_none (po_some pe_int)) pe_str)) (pss_one (ps_ret pe_bl)) pss_nil)
      (pss_cons (ps_set (i := 1) sc__law_is_letter.nd rfl (Or.inl rfl) (pe_slice sl_str (pv 0) (po_some pe_int) po_none))
      (pss_one (ps_ret (pe_or (pe_cmpR op_eq (pv 1) pe_str (nomark _)) (pe_one (pe_and (pe_cmpR op_lt (pe_callB (id := "len") (lenK (K := K)) (by rfl) bt.len_ (by decide +kernel) (pa_cons (pv 1) pa_nil)) pe_int (nomark _)) (pe_one (pe_cmpR (op_inK (K := K)) (pv 1) (pe_lc (own := [("_law_k", 2)]) (g := gName 2) rfl sc__law_is_letter.nd (pi_range1 rfl bt.range_ (pa_cons pe_int pa_nil)) (blkOk_by (N := ["_law_sign", "_law_tail", "_law_k"]) (sc := defScope s__law_is_letter) (by decide +kernel)) (fun _ _ _ _ _ => (pg_name (i := 2) sc__law_is_letter.nd rfl (Or.inl rfl))) (fun _ _ _ _ _ => pts_nil) (fun _ _ _ _ _ => (pe_callTy (T := "str") call_str_int (by rfl) bt.str_ (by decide +kernel) (pa_cons (pv 2) pa_nil)))) rfl))))))))), ?_⟩
    have len0 : (tl z).length = z.length := (len_tl z).symm
    have e1 : tl (cutS z none (some 1)) = (tl z).take 1 := by
      show ((tl z).drop (HT.sIx z.length 0 none)).take (HT.sIx z.length z.length (some ((1 : Nat) : Int)) - HT.sIx z.length 0 none) = _
      rw [HT.sIx_nat, HT.sIx_none]
      show (tl z).take (min 1 z.length - 0) = _
      rw [Nat.sub_zero, ← len0]
      by_cases h : 1 ≤ (tl z).length
      · rw [Nat.min_eq_left h]
      · rw [List.take_of_length_le (by omega), List.take_of_length_le (by omega)]
    have e2 : tl (cutS z (some 1) none) = (tl z).drop 1 := by
      show ((tl z).drop (HT.sIx z.length 0 (some ((1 : Nat) : Int)))).take (HT.sIx z.length z.length none - HT.sIx z.length 0 (some ((1 : Nat) : Int))) = _
      rw [HT.sIx_nat, HT.sIx_none]
      rw [List.take_of_length_le (by rw [List.length_drop]; omega)]
      by_cases h : 1 ≤ z.length
      · rw [Nat.min_eq_left h]
      · rw [List.drop_eq_nil_of_le (by omega), List.drop_eq_nil_of_le (by omega)]
    refine ⟨_, rfl, _, rfl, z, rfl, sz5 hz, _, _, rfl, rfl, _, rfl, ?_⟩
    have eA : ("A" : Str).cps.toList = [65] := by decide +kernel
    have eZ : ("Z" : Str).cps.toList = [90] := by decide +kernel
    have e1' : (cutS z none (some 1)).cps.toList = (tl z).take 1 := e1
    rw [eA, e1']
    cases er : tl z with
    | nil =>
      rw [er] at q
      exact iteF' (by decide) ⟨_, rfl, iteT (q _ (Same.refl _))⟩
    | cons c r =>
      have el : letterL (tl z) = (capL c && (decide (r = []) || (plainL r && decide (NumText.digitsVal r ≤ 99)))) := by rw [er]; rfl
      rw [el] at q
      have no : capL c = false → Q (.bl false) H := fun h => by
        have := q H (Same.refl _)
        rw [h] at this
        exact this
      show if (!decide ([c] < [65])) = true then _ else _
      by_cases h1 : (!decide ([c] < [65])) = true
      · rw [if_pos h1]
        refine ⟨_, _, rfl, rfl, _, rfl, ?_⟩
        rw [eZ, e1', er]
        show if (!(!decide ([90] < [c]))) = true then _ else _
        by_cases h2 : (!decide ([90] < [c])) = true
        · have hc : capL c = true := (cap_cmp c).mp ⟨h1, h2⟩
          rw [h2]
          refine iteF ⟨_, rfl, _, rfl, z, rfl, sz5 hz, ?_⟩
          rw [hc, Bool.true_and] at q
          have e3 : tl (cutS z (some 1) none) = r := by rw [e2, er]; rfl
          have l3 : (cutS z (some 1) none).length = r.length := by rw [len_tl, e3]
          have l4 : r.length ≤ 100000 := by
            have := len0
            rw [er, List.length_cons] at this
            omega
          generalize cutS z (some 1) none = zt at e3 l3 ⊢
          refine ⟨_, rfl, rfl, _, rfl, ?_⟩
          by_cases h0 : r = []
          · have ez : zt = "" := ext_tl (by rw [e3, h0]; decide +kernel)
            rw [decide_eq_true h0] at q
            refine iteT' (decide_eq_true (congrArg V.str ez)) ?_
            exact q _ (Same.refl _)
          · have nz : ¬ V.str zt = V.str "" := fun e => h0 (by
              rw [V.str.inj e] at e3
              rw [← e3]
              decide +kernel)
            rw [decide_eq_false h0, Bool.false_or] at q
            refine iteF' (decide_eq_false nz) ⟨_, rfl, _, _, rfl, ⟨sz5 (by omega), rfl⟩, _, _, rfl, rfl, _, rfl, ?_⟩
            by_cases hl : r.length < 3
            · refine iteT' (decide_eq_true (by omega)) ⟨_, rfl, _, rfl, by decide, by decide, fun L hL => lc_sameF walk_range (fun _ _ => trivial) (by decide) hL (fun i => .str (strI i)) (fun _ => rfl) ?_ ?_⟩
              · intro i H2 C hi s2 k
                exact ⟨_, rfl, _, rfl, by
                  have hi' : i < 100 := hi
                  exact (by decide +kernel : ∀ i : Nat, i < 100 → ((0 : Int) + (i : Int)).natAbs.log2 < 1920) i hi', k _ (Same.refl _)⟩
              · intro H2 s2 eL
                refine ⟨L, _, rfl, .inl (.inl (.inl eL)), rfl, ?_, ?_⟩
                · rw [List.all_eq_true]
                  intro v hv
                  obtain ⟨y, _, rfl⟩ := List.mem_map.mp hv
                  rfl
                · have em : (List.range ((100 : Int)).toNat).map (fun i => V.str (strI i)) = ((List.range 100).map strI).map V.str := by rw [List.map_map]; rfl
                  have ei : inV (.str zt) ((List.range ((100 : Int)).toNat).map (fun i => V.str (strI i))) = (plainL r && decide (NumText.digitsVal r ≤ 99)) := by
                    rw [em, inV_strs]
                    cases hp : (plainL r && decide (NumText.digitsVal r ≤ 99)) with
                    | true =>
                      have hm := plain_tails (Bool.and_eq_true_iff.mp hp).1 hl
                      obtain ⟨k, hk, ek⟩ := List.mem_map.mp hm
                      exact decide_eq_true (List.mem_map.mpr ⟨k, hk, ext_tl (by rw [e3]; exact ek)⟩)
                    | false =>
                      refine decide_eq_false fun hm => ?_
                      obtain ⟨k, hk, ek⟩ := List.mem_map.mp hm
                      have := tails_plain r (List.mem_map.mpr ⟨k, hk, by rw [ek, e3]⟩)
                      rw [hp] at this
                      cases this
                  have := q H2 s2
                  rw [← ei] at this
                  exact this
            · refine iteF' (decide_eq_false (by omega)) ?_
              have e4 : (plainL r && decide (NumText.digitsVal r ≤ 99)) = false := by
                cases hp : plainL r with
                | false => rfl
                | true => rw [decide_eq_false (plain_big hp (by omega))]; rfl
              rw [e4] at q
              exact q _ (Same.refl _)
        · refine iteT' (by simpa using h2) (no ?_)
          cases hc : capL c with
          | false => rfl
          | true => exact absurd ((cap_cmp c).mpr hc).2 h2
      · rw [if_neg h1]
        refine ⟨_, rfl, iteT (no ?_)⟩
        cases hc : capL c with
        | false => rfl
        | true => exact absurd ((cap_cmp c).mpr hc).1 h1
end

end TS

namespace TS
open PySem PySem.Spec PyProof.Rows L2 TL
/-! ### caught -/
def exs : List Str := ["NoWords", "NoSigns", "NoSign", "Beyond", "Unended"]
def exF : List Str := ["found", "found", "at", "at", "many"]
def exK : List Str := ["words", "signs", "sign", "beyond", "unended"]
def dueL (rows : List (Str × Int)) (d : PyData) : Option Out := (lineD d).map (outS rows)
/-- what is told: p is the pair of its kind and the thing -/
def ResL (G : Hp) (p : Addr) (y : V) (zs : List Str) : Option Out → Prop
  | none => G p = some (.tup [.str "signs", y])
  | some (.bad i) => G p = some (.tup [.str "sign", .int i])
  | some (.beyond i) => G p = some (.tup [.str "beyond", .int i])
  | some (.unended i) => G p = some (.tup [.str "unended", .int i])
  | some .ok => ∃ l, G p = some (.tup [.str "told", .ref l]) ∧ G l = some (.lst (zs.map V.str))
def CaughtH (K : PySem.W.Frag) (x y : V) (H : Hp) (Q : VK) : Prop := (∃ e, Dt K H x e ∧ ∀ G p, Same H G → H p = none → G p = some (.tup [.str "words", x]) → Q (.ref p) G) ∨
  (∃ (wa : Addr) (rows : List (Str × Int)) (d : PyData), x = .ref wa ∧ WordsAt K H wa rows ∧ RowsP rows ∧ Dt K H y d ∧ (∀ z, d = .str z → z.length ≤ 100000) ∧ ∀ G p, Same H G → H p = none → ResL G p y ((lineD d).getD []) (dueL rows d) → Q (.ref p) G)
theorem caughtL_of {K : PySem.W.Frag} {H : Hp} {x y : V} {C : Addr → Hp → Prop} {Q : VK} {E : XK}
    (hE : ∀ i, i < 5 → ∀ G e v, Same H G → G e = some (.xd [(exF.getD i "", v)]) → (∀ p, G p = none → Q (.ref p) (L2.upd G p (.tup [.str (exK.getD i ""), v]))) → E (.ref (He.ga K (exs.getD i ""))) (some e) G)
    (ok : ∀ (G : Hp) (a wa : Addr) (zs : List Str) (es : List Nat), Same H G → TermAt K G a wa zs es → (∀ G' p l, Same G G' → G p = none → G' p = some (.tup [.str "told", .ref l]) → G' l = some (.lst (zs.map V.str)) → Q (.ref p) G') → C a G)
    (h : CaughtH K x y H Q) : (∃ d, Dt K H x d ∧ Rs K H E "NoWords" "found" x) ∨ (∃ (wa : Addr) (rows : List (Str × Int)) (d : PyData), x = .ref wa ∧ WordsAt K H wa rows ∧ RowsP rows ∧ Dt K H y d ∧ (∀ z, d = .str z → z.length ≤ 100000) ∧ lineE K H E y rows wa C (lineD d)) := by
  have rs : ∀ i, i < 5 → ∀ v, (∀ G p, Same H G → H p = none → G p = some (.tup [.str (exK.getD i ""), v]) → Q (.ref p) G) → Rs K H E (exs.getD i "") (exF.getD i "") v := fun i hi v k G e s2 he ge =>
    hE i hi G e v s2 ge fun p hp => k _ p (s2.trans (Same.new (Same.refl _) hp)) (s2.free hp) (upd_same ..)
  rcases h with ⟨d, hd, q⟩ | ⟨wa, rows, d, rfl, hW, hP, hd, hz, q⟩
  · exact .inl ⟨d, hd, rs 0 (by decide) x q⟩
  · refine .inr ⟨wa, rows, d, rfl, hW, hP, hd, hz, ?_⟩
    unfold dueL at q
    cases el : lineD d with
    | none =>
      rw [el] at q
      exact rs 1 (by decide) y q
    | some ws =>
      rw [el] at q
      show outE K H E _ (outS rows ws)
      replace q : ∀ G p, Same H G → H p = none → ResL G p y ws (some (outS rows ws)) → Q (.ref p) G := q
      cases ho : outS rows ws with
      | bad i => rw [ho] at q; exact rs 2 (by decide) _ q
      | beyond i => rw [ho] at q; exact rs 3 (by decide) _ q
      | unended i => rw [ho] at q; exact rs 4 (by decide) _ q
      | ok =>
        rw [ho] at q
        exact fun G a es sG ha ta => ok G a wa ws es sG ta fun G' p l s2 hp ep el => q G' p (sG.trans s2) (sG.free hp) ⟨l, ep, el⟩
def spCaughtL (K : PySem.W.Frag) : Sp := fun vs H Q _ => ∃ x y : V, vs = [x, y] ∧ CaughtH K x y H Q
section
variable {P : Program} {w : World} {K : PySem.W.Frag} {mg : Str → Option Value} {base : Heap}
abbrev s__law_caught : Stmt := top 50
theorem sc__law_caught : FnScope ["_law_known", "_law_line", "e"] ["_law_known", "_law_line"] (defScope s__law_caught) := ⟨rfl, rfl, rfl, by decide +kernel, rfl, by decide +kernel, by decide +kernel⟩

set_option maxHeartbeats 800000 in
theorem ok_caughtL (bt : Bt mg) (cl_Term : Cls K (tcls K)) (mm_Term_signs : Meth K (tcls K) "signs" (He.ma K (tcls K) "signs"))
    (hx : ∀ i, i < 5 → ∀ j, j < 5 → PySem.W.exmOne K (.ref (He.ga K (exs.getD i ""))) (.ref (He.ga K (exs.getD j ""))) = some (decide (i = j)))
    (g_NoWords : mg "NoWords" = some (.ref (He.ga K "NoWords"))) (g_NoSigns : mg "NoSigns" = some (.ref (He.ga K "NoSigns"))) (g_NoSign : mg "NoSign" = some (.ref (He.ga K "NoSign"))) (g_Beyond : mg "Beyond" = some (.ref (He.ga K "Beyond"))) (g_Unended : mg "Unended" = some (.ref (He.ga K "Unended")))
    (x_NoWords : OwnV K (He.ga K "NoWords") "found") (x_NoSigns : OwnV K (He.ga K "NoSigns") "found") (x_NoSign : OwnV K (He.ga K "NoSign") "at") (x_Beyond : OwnV K (He.ga K "Beyond") "at") (x_Unended : OwnV K (He.ga K "Unended") "many")
    (p_term_of : PromX P w K mg base 6 "term_of" ["words", "text"] (spTermOf K)) (p_Term_signs : PromA CX0 P w K mg base 1 (He.ma K (tcls K) "signs") ["self"] (spTSigns K)) (D : Def K mg "_law_caught" s__law_caught) : Prom P w K mg base 7 "_law_caught" ["_law_known", "_law_line"] (spCaughtL K) := by
  refine prom_mk D sc__law_caught (fun vs H Q E h => ?_) (fun _ _ _ _ _ _ us hl => match us, hl with | [_, _], _ => rfl) (fun f cdv A outer s H vs Q E hr h => ?_)
  · obtain ⟨x, y, rfl, _⟩ := h
    rfl
  · obtain ⟨x, y, rfl, h⟩ := h
    refine ⟨_, (pss_one (ps_try rfl rfl sc__law_caught.nd (fun W pn xe tk po => (pss_one (ps_ret (pe_tup (pa_cons pe_str (pa_cons (pe_pm0 cl_Term mm_Term_signs p_Term_signs (hr.mono (by decide)) (pe_pcX p_term_of tk (hr.mono (by decide)) rfl (pa_cons (pv 0) (pa_cons (pv 1) pa_nil)))) pa_nil)))))) (ClausesOk.as_ (i := 2) rfl rfl ⟨rfl, by decide, .inl g_NoWords⟩ (fun a oe cls d pn zc hfl => (pss_one (ps_ret (pe_tup (pa_cons pe_str (pa_cons (pe_xf x_NoWords.xf x_NoWords.no zc hfl (pv 2)) pa_nil)))))) (ClausesOk.as_ (i := 2) rfl rfl ⟨rfl, by decide, .inl g_NoSigns⟩ (fun a oe cls d pn zc hfl => (pss_one (ps_ret (pe_tup (pa_cons pe_str (pa_cons (pe_xf x_NoSigns.xf x_NoSigns.no zc hfl (pv 2)) pa_nil)))))) (ClausesOk.as_ (i := 2) rfl rfl ⟨rfl, by decide, .inl g_NoSign⟩ (fun a oe cls d pn zc hfl => (pss_one (ps_ret (pe_tup (pa_cons pe_str (pa_cons (pe_xf x_NoSign.xf x_NoSign.no zc hfl (pv 2)) pa_nil)))))) (ClausesOk.as_ (i := 2) rfl rfl ⟨rfl, by decide, .inl g_Beyond⟩ (fun a oe cls d pn zc hfl => (pss_one (ps_ret (pe_tup (pa_cons pe_str (pa_cons (pe_xf x_Beyond.xf x_Beyond.no zc hfl (pv 2)) pa_nil)))))) (ClausesOk.as_ (i := 2) rfl rfl ⟨rfl, by decide, .inl g_Unended⟩ (fun a oe cls d pn zc hfl => (pss_one (ps_ret (pe_tup (pa_cons pe_str (pa_cons (pe_xf x_Unended.xf x_Unended.no zc hfl (pv 2)) pa_nil)))))) ClausesOk.stop))))))), ?_⟩
    refine ⟨_, rfl, _, rfl, x, y, rfl, caughtL_of (Q := Q) ?_ ?_ h⟩
    · intro i hi G e v sG ge k
      have two : (2 : Nat) ≤ sizeLine := by decide
      match i, hi with
      | 0, _ => exact ⟨true, hx 0 (by decide) 0 (by decide), fun _ o ho => ⟨_, rfl, rfl, rfl, e, _, _, rfl, ge, rfl, two, fun p hp => k p hp⟩, fun z => (by cases z)⟩
      | 1, _ => exact ⟨false, hx 1 (by decide) 0 (by decide), fun z => (by cases z), fun _ => ⟨true, hx 1 (by decide) 1 (by decide), fun _ o ho => ⟨_, rfl, rfl, rfl, e, _, _, rfl, ge, rfl, two, fun p hp => k p hp⟩, fun z => (by cases z)⟩⟩
      | 2, _ => exact ⟨false, hx 2 (by decide) 0 (by decide), fun z => (by cases z), fun _ => ⟨false, hx 2 (by decide) 1 (by decide), fun z => (by cases z), fun _ => ⟨true, hx 2 (by decide) 2 (by decide), fun _ o ho => ⟨_, rfl, rfl, rfl, e, _, _, rfl, ge, rfl, two, fun p hp => k p hp⟩, fun z => (by cases z)⟩⟩⟩
      | 3, _ => exact ⟨false, hx 3 (by decide) 0 (by decide), fun z => (by cases z), fun _ => ⟨false, hx 3 (by decide) 1 (by decide), fun z => (by cases z), fun _ => ⟨false, hx 3 (by decide) 2 (by decide), fun z => (by cases z), fun _ => ⟨true, hx 3 (by decide) 3 (by decide), fun _ o ho => ⟨_, rfl, rfl, rfl, e, _, _, rfl, ge, rfl, two, fun p hp => k p hp⟩, fun z => (by cases z)⟩⟩⟩⟩
      | 4, _ => exact ⟨false, hx 4 (by decide) 0 (by decide), fun z => (by cases z), fun _ => ⟨false, hx 4 (by decide) 1 (by decide), fun z => (by cases z), fun _ => ⟨false, hx 4 (by decide) 2 (by decide), fun z => (by cases z), fun _ => ⟨false, hx 4 (by decide) 3 (by decide), fun z => (by cases z), fun _ => ⟨true, hx 4 (by decide) 4 (by decide), fun _ o ho => ⟨_, rfl, rfl, rfl, e, _, _, rfl, ge, rfl, two, fun p hp => k p hp⟩, fun z => (by cases z)⟩⟩⟩⟩⟩
    · intro G a wa zs es sG ta k
      obtain ⟨dx2, s2, e2, e1, _, _⟩ := id ta
      refine ⟨a, dx2, _, rfl, e1, rfl, a, wa, zs, es, rfl, ta, fun l hl => ⟨(by show 2 ≤ sizeLine; decide), fun p hp => ?_⟩⟩
      have sl : Same G (L2.upd G l (.lst (zs.map V.str))) := Same.new (Same.refl _) hl
      exact k _ p l (sl.trans (Same.new (Same.refl _) hp)) (sl.free hp) (upd_same ..) (Same.new (Same.refl _) hp _ _ (upd_same ..))
end

end TS

namespace TS
open PySem PySem.Spec PyProof.Rows L2 TL
/-! ### what is due -/
def spDueL (K : PySem.W.Frag) : Sp := fun vs H Q _ => ∃ (rw_ : Addr) (y : V) (rows : List (Str × Int)) (d : PyData), vs = [.ref rw_, y] ∧ RowsOk rows ∧ Dt K H (.ref rw_) (.list (rows.map rowPy)) ∧ Dt K H y d ∧ (∀ z, d = .str z → z.length ≤ 100000) ∧
  ∀ G p, Same H G → H p = none → ResL G p y ((lineD d).getD []) (dueL rows d) → Q (.ref p) G
theorem feed_is : ("\n" : Str) = ⟨#[10]⟩ := by decide +kernel
theorem in_feed (z : Str) : decide (10 ∈ z.cps.toList) = decide (10 ∈ tl z) := rfl
section
variable {P : Program} {w : World} {K : PySem.W.Frag} {mg : Str → Option Value} {base : Heap}
abbrev s__law_due : Stmt := top 49
theorem sc__law_due : FnScope ["_law_rows_here", "_law_line", "_law_signs_here", "_law_places", "_law_at", "_law_sign", "_law_lacking"] ["_law_rows_here", "_law_line"] (defScope s__law_due) := ⟨rfl, rfl, rfl, by decide +kernel, rfl, by decide +kernel, by decide +kernel⟩

set_option maxHeartbeats 800000 in
theorem ok_dueL (bt : Bt mg) (p__law_is_letter : Prom P w K mg base 1 "_law_is_letter" ["_law_sign"] spLLetter) (D : Def K mg "_law_due" s__law_due) : Prom P w K mg base 2 "_law_due" ["_law_rows_here", "_law_line"] (spDueL K) := by
  refine prom_mk D sc__law_due (fun vs H Q E h => ?_) (fun _ _ _ _ _ _ us hl => match us, hl with | [_, _], _ => rfl) (fun f cdv A outer s H vs Q E hr h => ?_)
  · obtain ⟨rw_, y, rows, d, rfl, _⟩ := h
    rfl
  · obtain ⟨rw_, y, rows, d, rfl, ro, hrw, hd, hz, q⟩ := h
    refine ⟨_, (pss_cons (ps_if (PW.pt (pw_or (pt_not (pt_val (pe_callB (id := "isinstance") (isiK (K := K)) (by rfl) bt.isinstance_ (by decide +kernel) (pa_cons (pv 1) (pa_cons (pe_bltn (v := .ty "str") rfl bt.str_ (by decide +kernel) rfl) pa_nil))))) (pw_or1 (pt_cmpR op_in_sign pe_str (pv 1) rfl)))) (pss_one (ps_ret (pe_tup (pa_cons pe_str (pa_cons (pv 1) pa_nil))))) pss_nil)
      (pss_cons (ps_set (i := 2) sc__law_due.nd rfl (Or.inl rfl) (pe_split (pv 1) pe_str))
      (pss_cons (ps_if (PW.pt (pw_or (pt_cmpR (op_inK (K := K)) pe_str (pv 2) rfl) (pw_or1 (pt_cmpR op_gt (pe_callB (id := "len") (lenK (K := K)) (by rfl) bt.len_ (by decide +kernel) (pa_cons (pv 2) pa_nil)) pe_int (nomark _))))) (pss_one (ps_ret (pe_tup (pa_cons pe_str (pa_cons (pv 1) pa_nil))))) pss_nil)
      (pss_cons (ps_set (i := 3) sc__law_due.nd rfl (Or.inl rfl) (pe_callTy (T := "dict") (call_dictP rfl) (by rfl) bt.dict_ (by decide +kernel) (pa_cons (pv 0) pa_nil)))
      (pss_cons (ps_for PassesOwn.never rfl (pi_enumK (K := K) rfl rfl bt.enumerate_ (pa_cons (pv 2) pa_nil)) (pg_tupK (K := K) (n := 2) rfl rfl (pgs_cons (pg_name (i := 4) sc__law_due.nd rfl (Or.inl rfl)) (pgs_cons (pg_name (i := 5) sc__law_due.nd rfl (Or.inl rfl)) pgs_nil))) (pss_one (ps_if (PW.pt (pw_and (pt_cmp (pc_dnotin (units1 hr) (pv 5) (pv 3))) (pw_and1 (pt_not (pt_val (pe_pc p__law_is_letter (hr.mono (by decide)) rfl (pa_cons (pv 5) pa_nil))))))) (pss_one (ps_ret (pe_tup (pa_cons pe_str (pa_cons (pv 4) pa_nil))))) pss_nil)))
      (pss_cons (ps_set (i := 6) sc__law_due.nd rfl (Or.inl rfl) pe_int)
      (pss_cons (ps_for PassesOwn.never rfl (pi_enumK (K := K) rfl rfl bt.enumerate_ (pa_cons (pv 2) pa_nil)) (pg_tupK (K := K) (n := 2) rfl rfl (pgs_cons (pg_name (i := 4) sc__law_due.nd rfl (Or.inl rfl)) (pgs_cons (pg_name (i := 5) sc__law_due.nd rfl (Or.inl rfl)) pgs_nil))) (pss_cons (ps_if (pt_cmpR op_eq (pv 6) pe_int (nomark _)) (pss_one (ps_ret (pe_tup (pa_cons pe_str (pa_cons (pv 4) pa_nil))))) pss_nil)
      (pss_one (ps_set (i := 6) sc__law_due.nd rfl (Or.inl rfl) (pe_op op_add (pe_op op_sub (pv 6) pe_int) (pe_dget2 (units1 hr) (pv 3) (pv 5) pe_int ⟨rfl, rfl, rfl, rfl⟩))))))
      (pss_one (ps_ret (pe_ifExp (pt_cmpR op_eq (pv 6) pe_int (nomark _)) (pe_tup (pa_cons pe_str (pa_cons (pv 2) pa_nil))) (pe_tup (pa_cons pe_str (pa_cons (pv 6) pa_nil))))))))))))), ?_⟩
    have two : (2 : Nat) ≤ sizeLine := by decide
    have sig : lineD d = none → ∀ G p, Same H G → G p = none → Q (.ref p) (L2.upd G p (.tup [.str "signs", y])) := fun el G p sG hp => q _ p (sG.trans (Same.new (Same.refl _) hp)) (sG.free hp) (by
      unfold dueL
      rw [el]
      exact upd_same ..)
    refine ⟨_, rfl, _, _, _, _, isD "str" d, rfl, .ty "str", hd.ty, isi_str, _, rfl, ?_⟩
    cases c : isD "str" d with
    | false =>
      have el : lineD d = none := by cases d <;> first | rfl | (rw [isD_strs] at c; cases c)
      exact iteT (iteT ⟨_, rfl, two, fun p hp => sig el _ p (Same.refl _) hp⟩)
    | true =>
      obtain ⟨z, rfl⟩ := isD_str c
      cases hd
      have hzl := hz z rfl
      have e0 : lineD (.str z) = (match wordsOf z with | some ws => if ws.length ≤ 100 then some ws else none | none => none) := rfl
      refine iteF ⟨_, rfl, 10, z, congrArg V.str feed_is, rfl, _, rfl, ?_⟩
      rw [in_feed]
      by_cases hn : 10 ∈ tl z
      · rw [decide_eq_true hn]
        have ew : wordsOf z = none := by unfold wordsOf; rw [decide_eq_true hn]; rfl
        rw [ew] at e0
        exact iteT ⟨_, rfl, two, fun p hp => sig e0 _ p (Same.refl _) hp⟩
      rw [decide_eq_false hn]
      refine iteF ⟨_, rfl, ⟨_, rfl⟩, _, _, rfl, rfl, by decide +kernel, Nat.le_trans (Nat.add_le_add_right hzl 2) (by decide), fun L hL => ?_⟩
      have sp := splits z
      obtain ⟨ws, ews⟩ : ∃ ws, ws = Txt.split z " " := ⟨_, rfl⟩
      rw [← ews] at sp ⊢
      (generalize hG : L2.upd _ L _ = H1; have sL := same_of hG hL; have eL := at_of hG; clear hG)
      refine ⟨_, rfl, L, _, rfl, .inl (.inl (.inl eL)), rfl, ?_, _, rfl, ?_⟩
      · rw [List.all_eq_true]
        intro v hv
        obtain ⟨y, _, rfl⟩ := List.mem_map.mp hv
        rfl
      show if inV (.str "") (ws.map V.str) = true then _ else _
      cases hi : inV (.str "") (ws.map V.str) with
      | true =>
        have ew : wordsOf z = none := by unfold wordsOf; rw [← ews, hi, Bool.or_true]; rfl
        rw [ew] at e0
        exact iteT (iteT ⟨_, rfl, two, fun p hp => sig e0 _ p sL hp⟩)
      | false =>
        have ew : wordsOf z = some ws := by unfold wordsOf; rw [← ews, hi, Bool.or_false, decide_eq_false hn]; rfl
        rw [ew] at e0
        refine iteF ⟨_, rfl, _, _, rfl, .inl ⟨_, .inl (.inl eL), rfl⟩, _, _, rfl, rfl, _, rfl, ?_⟩
        rw [List.length_map]
        by_cases hl : ws.length ≤ 100
        rotate_left
        · replace e0 : lineD (.str z) = none := e0.trans (if_neg hl)
          rw [decide_eq_true (show ((ws.length : Nat) : Int) > 100 by omega)]
          exact iteT ⟨_, rfl, two, fun p hp => sig e0 _ p sL hp⟩
        replace e0 : lineD (.str z) = some ws := e0.trans (if_pos hl)
        unfold dueL at q
        rw [e0] at q
        replace q : ∀ G p, Same H G → H p = none → ResL G p (.str z) ws (some (outS rows ws)) → Q (.ref p) G := q
        rw [decide_eq_false (show ¬ ((ws.length : Nat) : Int) > 100 by omega)]
        have hzs : ∀ t ∈ ws, t.length ≤ 100000 := fun t ht => Nat.le_trans (sp.le ht) hzl
        obtain ⟨_, xr, er, hrL, hrA⟩ := (Dt.same sL hrw).list_inv
        cases er
        obtain ⟨ps, eps, hps⟩ := rows_pairs hrA
        refine iteF ⟨_, rfl, rw_, ps, _, rfl, by rw [← eps]; exact hrL, hps, fun PD hPD => ?_⟩
        rw [merge_new (acc := []) (by
          rw [List.nil_append, List.map_map]
          exact List.pairwise_map.mpr ((List.pairwise_map.mp ro.nd).imp fun z e => z (Sum.inr.inj e))), List.nil_append]
        (generalize hG : L2.upd _ PD _ = H5; have sP := same_of hG hPD; have eP := at_of hG; clear hG)
        have sH5 := sL.trans sP
        have hS5 : SqL K H5 L (ws.map V.str) := .inl (.inl (sP _ _ eL))
        have lm : (ws.map V.str).length = ws.length := List.length_map ..
        have at_z : ∀ {i : Nat} {x : V}, (ws.map V.str)[i]? = some x → ∃ z, ws[i]? = some z ∧ x = .str z := fun {i x} hx => by
          rw [List.getElem?_map] at hx
          cases hq : ws[i]? with
          | none => rw [hq] at hx; cases hx
          | some z => rw [hq] at hx; cases hx; exact ⟨z, rfl, rfl⟩
        refine ⟨_, rfl, L, _, rfl, hS5, for_it walk_enum (fun i τ G' => (∃ x4 x5 x6, τ = [some (.ref rw_), some (.str z), some (.ref L), some (.ref PD), x4, x5, x6]) ∧ Same H5 G' ∧ ∀ z ∈ ws.take i, (plS rows z).isNone = false)
          ⟨⟨_, _, _, rfl⟩, Same.refl _, by simp⟩ (fun i τ G' _ p => p.2.1.seq hS5) ?_ ?_⟩
        · rintro i v τ G1 G2 hi ⟨⟨x4, x5, x6, rfl⟩, s5, al⟩ ⟨T2, y2, x, rfl, hT2, rfl, ey, hx⟩
          cases ey
          obtain ⟨t, hzi, rfl⟩ := at_z hx
          (generalize hG : L2.upd _ T2 _ = G3; have sT2 := same_of hG hT2; have eT2 := at_of hG; clear hG)
          have s6 := s5.trans sT2
          have hzl := hzs t (List.mem_of_getElem? hzi)
          refine ⟨T2, _, rfl, .inl (.inl eT2), rfl, _, _, rfl, _, _, rfl, rfl, ?_⟩
          refine ⟨_, rfl, _, rfl, PD, _, rfl, DGet.k (k := Sum.inr t) (s6 _ _ eP), _, rfl, ?_⟩
          rw [pr_val]
          have nx : (plS rows t).isNone = false → ∀ y ∈ ws.take (i + 1), (plS rows y).isNone = false := fun h y hy => by
            rw [List.take_succ, hzi] at hy
            rcases List.mem_append.mp hy with m | m
            · exact al y m
            · rw [List.mem_singleton.mp m]; exact h
          by_cases hm : t ∈ rows.map (·.1)
          · rw [if_pos hm]
            exact iteF (iteF ⟨⟨_, _, _, rfl⟩, s6, nx (by rw [plS_none, decide_eq_true hm]; rfl)⟩)
          · rw [if_neg hm]
            refine iteT ⟨_, rfl, t, rfl, hzl, fun G4 s4 => ⟨_, rfl, ?_⟩⟩
            cases hL : letterL (tl t) with
            | true => exact iteF ⟨⟨_, _, _, rfl⟩, s6.trans s4, nx (by rw [plS_none, hL, Bool.not_true, Bool.and_false])⟩
            | false =>
              have sH7 := (sH5.trans s6).trans s4
              refine iteT ⟨_, rfl, two, fun p hp => q _ p (sH7.trans (Same.new (Same.refl _) hp)) (sH7.free hp) ?_⟩
              unfold outS
              rw [findIdx_at hzi (by rw [plS_none, hL, decide_eq_false hm]; rfl) al]
              exact upd_same ..
        · rintro τ G1 ⟨⟨x4, x5, x6, rfl⟩, s5, al⟩
          rw [lm, List.take_length] at al
          have eo : outS rows ws = scan 1 0 (ws.map (plN rows)) := by
            unfold outS
            rw [findIdx_no al]
          rw [eo] at q
          refine ⟨_, rfl, L, _, rfl, s5.seq hS5, for_it walk_enum (fun i τ G' => (∃ (k : Nat), (∃ x4 x5, τ = [some (.ref rw_), some (.str z), some (.ref L), some (.ref PD), x4, x5, some (.int k)]) ∧ scan k i ((ws.map (plN rows)).drop i) = scan 1 0 (ws.map (plN rows))) ∧ Same G1 G')
            ⟨⟨1, ⟨_, _, rfl⟩, rfl⟩, Same.refl _⟩ (fun i τ G' _ p => (s5.trans p.2).seq hS5) ?_ ?_⟩
          · rintro i v τ G2 G3 hi ⟨⟨k, ⟨y1, y2, rfl⟩, hk⟩, s2'⟩ ⟨T2, y2, x, rfl, hT2, rfl, ey, hx⟩
            cases ey
            obtain ⟨t, hzi, rfl⟩ := at_z hx
            (generalize hG : L2.upd _ T2 _ = G4; have sT2 := same_of hG hT2; have eT2 := at_of hG; clear hG)
            have s4 := s2'.trans sT2
            have sH4 := (sH5.trans s5).trans s4
            have ed : (ws.map (plN rows)).drop i = plN rows t :: (ws.map (plN rows)).drop (i + 1) := List.drop_eq_getElem?_toList_append .. ▸ (by rw [List.getElem?_map, hzi]; rfl)
            refine ⟨T2, _, rfl, .inl (.inl eT2), rfl, _, _, rfl, _, _, rfl, rfl, ?_⟩
            refine ⟨_, rfl, rfl, _, rfl, ?_⟩
            rw [ed] at hk
            cases k with
            | zero =>
              have hk' : scan 1 0 (ws.map (plN rows)) = .beyond i := hk.symm
              rw [hk'] at q
              exact iteT ⟨_, rfl, two, fun p hp => q _ p (sH4.trans (Same.new (Same.refl _) hp)) (sH4.free hp) (upd_same ..)⟩
            | succ k =>
              refine iteF' (by simp; omega) ?_
              replace hk : scan (k + plN rows t) (i + 1) ((ws.map (plN rows)).drop (i + 1)) = _ := hk
              have eP4 := s4 _ _ (s5 _ _ eP)
              refine ⟨_, rfl, _, _, rfl, rfl, _, rfl, PD, rfl, .inl ⟨_, .inl eP4⟩, _, rfl, _, DGet.k (k := Sum.inr t) eP4, ?_⟩
              rw [get_plN ro]
              have eI : ((k + 1 : Nat) : Int) - 1 + ((plN rows t : Nat) : Int) = ((k + plN rows t : Nat) : Int) := by omega
              exact ⟨_, _, rfl, rfl, ⟨k + plN rows t, ⟨_, _, by rw [← eI]; rfl⟩, hk⟩, s4⟩
          · rintro τ G2 ⟨⟨k, ⟨y1, y2, rfl⟩, hk⟩, s2'⟩
            have sH4 := (sH5.trans s5).trans s2'
            rw [lm, List.drop_eq_nil_of_le (by rw [List.length_map]; exact Nat.le_refl _)] at hk
            refine ⟨_, rfl, rfl, _, rfl, ?_⟩
            rw [← hk] at q
            cases k with
            | zero => exact iteT ⟨_, rfl, two, fun p hp => q _ p (sH4.trans (Same.new (Same.refl _) hp)) (sH4.free hp) ⟨L, upd_same .., Same.new (Same.refl _) hp _ _ (s2' _ _ (s5 _ _ (sP _ _ eL)))⟩⟩
            | succ k =>
              exact iteF' (by simp; omega) ⟨_, rfl, two, fun p hp => q _ p (sH4.trans (Same.new (Same.refl _) hp)) (sH4.free hp) (upd_same ..)⟩
end

end TS

namespace TS
open PySem PySem.Spec PyProof.Rows L2 TL
/-! ### spoilt lines -/
def spSpoilt : Sp := fun vs H Q _ => ∃ (b : Addr) (z : Str) (n : Nat), vs = [.ref b, .str z] ∧ z.length ≤ 20000 ∧ Plain z ∧ (∃ o, H b = some o ∧ Bag (n + 4) o) ∧ ∀ H' y, Dr b n H H' → y.length ≤ 5 * z.length + 10 → Plain y → Q (.str y) H'
def every1 : Str := " !\"#$&'()*+,-./0123456789:;<=>?@ABCDEFGHIJKLMNOPQRSTUVWXYZ[\\]^_`"
def every2 : Str := "abcdefghijklmnopqrstuvwxyz{|}~\n"
theorem every_len : every1.length + every2.length = 95 := by decide +kernel
theorem every_plain : ∀ c ∈ (every1 ++ every2).cps.toList, c < 256 := by decide +kernel
theorem every_size : (every1 ++ every2).cps.toList.length = 95 := by decide +kernel
theorem cutV_sub {xs : List V} {lo hi : Option Int} {v : V} (h : v ∈ cutV xs lo hi) : v ∈ xs := List.mem_of_mem_drop (List.mem_of_mem_take (show v ∈ ((xs).drop _).take _ from h))
theorem cutV_strs (ws : List Str) (lo hi : Option Int) : ∃ a k, cutV (ws.map V.str) lo hi = ((ws.drop a).take k).map V.str := ⟨_, _, by
  show ((ws.map V.str).drop _).take _ = _
  rw [← List.map_drop, ← List.map_take]⟩
theorem sub_sum : ∀ (l : List Nat) (a k : Nat), ((l.drop a).take k).sum ≤ l.sum
  | [], a, k => by simp
  | x :: r, 0, 0 => by simp
  | x :: r, 0, k + 1 => by
    have := sub_sum r 0 k
    simp only [List.drop_zero, List.take_succ_cons, List.sum_cons] at this ⊢
    omega
  | x :: r, a + 1, k => by
    have := sub_sum r a k
    simp only [List.drop_succ_cons, List.sum_cons]
    omega
theorem sub_lens (ws : List Str) (a k : Nat) : (((ws.drop a).take k).map (fun x : Str => x.length)).sum ≤ (ws.map (fun x : Str => x.length)).sum := by
  rw [List.map_take, List.map_drop]
  exact sub_sum _ a k
theorem sub_len (ws : List Str) (a k : Nat) : ((ws.drop a).take k).length ≤ ws.length := by
  rw [List.length_take, List.length_drop]
  omega
theorem sub_mem {ws : List Str} {a k : Nat} {z : Str} (h : z ∈ (ws.drop a).take k) : z ∈ ws := List.mem_of_mem_drop (List.mem_of_mem_take h)
section
variable {P : Program} {w : World} {K : PySem.W.Frag} {mg : Str → Option Value} {base : Heap}
abbrev s__law_spoilt : Stmt := top 51
theorem sc__law_spoilt : FnScope ["_law_box_here", "_law_line", "_law_every", "_law_way", "_law_at", "_law_sign", "_law_signs_here", "_law_place", "_law_front"] ["_law_box_here", "_law_line"] (defScope s__law_spoilt) := ⟨rfl, rfl, rfl, by decide +kernel, rfl, by decide +kernel, by decide +kernel⟩

set_option maxHeartbeats 800000 in
theorem ok_spoilt (bt : Bt mg) (p__law_take : Prom P w K mg base 1 "_law_take" ["_law_box_here", "_law_many"] spTake) (D : Def K mg "_law_spoilt" s__law_spoilt) : Prom P w K mg base 2 "_law_spoilt" ["_law_box_here", "_law_line"] spSpoilt := by
  refine prom_mk D sc__law_spoilt (fun vs H Q E h => ?_) (fun _ _ _ _ _ _ us hl => match us, hl with | [_, _], _ => rfl) (fun f cdv A outer s H vs Q E hr h => ?_)
  · obtain ⟨b, z, n, rfl, _⟩ := h
    rfl
  · obtain ⟨b, z, n, rfl, hz, pz, hb, q⟩ := h
    refine ⟨_, (pss_cons (ps_set (i := 2) sc__law_spoilt.nd rfl (Or.inl rfl) pe_str)
      (pss_cons (ps_set (i := 2) sc__law_spoilt.nd rfl (Or.inl rfl) (pe_op op_add_str (pv 2) pe_str))
      (pss_cons (ps_set (i := 3) sc__law_spoilt.nd rfl (Or.inl rfl) (pe_pc p__law_take (hr.mono (by decide)) rfl (pa_cons (pv 0) (pa_cons pe_int pa_nil))))
      (pss_cons (ps_set (i := 4) sc__law_spoilt.nd rfl (Or.inl rfl) (pe_pc p__law_take (hr.mono (by decide)) rfl (pa_cons (pv 0) (pa_cons (pe_op op_add (pe_callB (id := "len") (lenK (K := K)) (by rfl) bt.len_ (by decide +kernel) (pa_cons (pv 1) pa_nil)) pe_int) pa_nil))))
      (pss_cons (ps_set (i := 5) sc__law_spoilt.nd rfl (Or.inl rfl) (pe_ix ix_str (pv 2) (pe_pc p__law_take (hr.mono (by decide)) rfl (pa_cons (pv 0) (pa_cons pe_int pa_nil))) (fun _ _ => rfl)))
      (pss_cons (ps_if (pt_cmpR op_eq (pv 3) pe_int (nomark _)) (pss_one (ps_ret (pe_op op_add_str (pe_op op_add_str (pe_slice sl_str (pv 1) po_none (po_some (pv 4))) (pv 5)) (pe_slice sl_str (pv 1) (po_some (pv 4)) po_none)))) pss_nil)
      (pss_cons (ps_if (pt_cmpR op_eq (pv 3) pe_int (nomark _)) (pss_one (ps_ret (pe_op op_add_str (pe_slice sl_str (pv 1) po_none (po_some (pv 4))) (pe_slice sl_str (pv 1) (po_some (pe_op op_add (pv 4) pe_int)) po_none)))) pss_nil)
      (pss_cons (ps_if (pt_cmpR op_eq (pv 3) pe_int (nomark _)) (pss_one (ps_ret (pe_op op_add_str (pe_op op_add_str (pe_slice sl_str (pv 1) po_none (po_some (pv 4))) (pv 5)) (pe_slice sl_str (pv 1) (po_some (pe_op op_add (pv 4) pe_int)) po_none)))) pss_nil)
      (pss_cons (ps_if (pt_cmpR op_eq (pv 3) pe_int (nomark _)) (pss_one (ps_ret (pe_op op_add_str (pe_op op_add_str (pe_slice sl_str (pv 1) po_none (po_some (pv 4))) pe_str) (pe_slice sl_str (pv 1) (po_some (pv 4)) po_none)))) pss_nil)
      (pss_cons (ps_set (i := 6) sc__law_spoilt.nd rfl (Or.inl rfl) (pe_split (pv 1) pe_str))
      (pss_cons (ps_set (i := 7) sc__law_spoilt.nd rfl (Or.inl rfl) (pe_pc p__law_take (hr.mono (by decide)) rfl (pa_cons (pv 0) (pa_cons (pe_callB (id := "len") (lenK (K := K)) (by rfl) bt.len_ (by decide +kernel) (pa_cons (pv 6) pa_nil)) pa_nil))))
      (pss_cons (ps_if (pt_cmpR op_eq (pv 3) pe_int (nomark _)) (pss_cons (ps_set (i := 8) sc__law_spoilt.nd rfl (Or.inl rfl) (pe_slice (sl_listK (K := K)) (pv 6) po_none (po_some (pv 7))))
      (pss_one (ps_ret (pe_joinK (K := K) rfl pe_str (pe_op op_cat (pe_op op_cat (pv 8) (pe_lst (pa_cons (pe_ix (ix_listK (K := K)) (pv 6) (pv 7) (fun _ _ => rfl)) pa_nil))) (pe_slice (sl_listK (K := K)) (pv 6) (po_some (pv 7)) po_none)))))) pss_nil)
      (pss_one (ps_ret (pe_joinK (K := K) rfl pe_str (pe_op op_cat (pe_slice (sl_listK (K := K)) (pv 6) po_none (po_some (pv 7))) (pe_slice (sl_listK (K := K)) (pv 6) (po_some (pe_op op_add (pv 7) pe_int)) po_none))))))))))))))))), ?_⟩
    refine ⟨_, rfl, every1, every2, rfl, rfl, by rw [every_len]; decide, ?_⟩
    refine ⟨_, rfl, b, _, n + 3, 6, rfl, hb.choose_spec.1, hb.choose_spec.2, by decide, by decide +kernel, fun way o1 w0 w6 g1 => ?_⟩
    (generalize hG : L2.upd _ b _ = H1; have d1 := dr_of hG g1; clear hG)
    have p200 : (1000000 : Int) < 2 ^ 200 := by decide +kernel
    refine ⟨_, rfl, _, rfl, _, _, rfl, ⟨sz5 (by omega), rfl⟩, _, _, rfl, rfl, b, _, n + 2, _, rfl, d1.bag.choose_spec.1, d1.bag.choose_spec.2, by omega, Int.lt_trans (by omega) p200, fun at_ o2 a0 a1 g2 => ?_⟩
    (generalize hG : L2.upd _ b _ = H2; have d2 := dr_of hG g2; clear hG)
    refine ⟨_, rfl, _, rfl, b, _, n + 1, 95, rfl, d2.bag.choose_spec.1, d2.bag.choose_spec.2, by decide, by decide +kernel, fun x o3 x0 x1 g3 => ?_⟩
    (generalize hG : L2.upd _ b _ = H3; have d3 := dr_of hG g3; clear hG)
    obtain ⟨c, hc, hcm⟩ := atI_in (xs := (every1 ++ every2).cps.toList) x0 (by rw [every_size]; exact x1)
    have D3 := (d1.trans d2).trans d3
    have pc : Plain ⟨#[c]⟩ := fun e he => by
      rw [show tl (⟨#[c]⟩ : Str) = [c] from rfl] at he
      rw [List.mem_singleton.mp he]
      exact every_plain c hcm
    have l1 : (⟨#[c]⟩ : Str).length = 1 := rfl
    have lb : (" " : Str).length = 1 := by decide +kernel
    have pb : Plain " " := plainB (by decide +kernel)
    have szz : ∀ {n : Nat}, n ≤ 90000 → n ≤ sizeLine := fun h => sz5 (by omega)
    have cl : ∀ lo hi, (cutS z lo hi).length ≤ 20000 := fun lo hi => cut_le hz
    refine ⟨_, _, c, rfl, rfl, by decide +kernel, hc, ?_⟩
    have fin : ∀ y : Str, y.length ≤ 5 * z.length + 10 → Plain y → Q (.str y) H3 := fun y hy py => q H3 y (D3.mono (by omega)) hy py
    have cle : ∀ lo hi, (cutS z lo hi).length ≤ z.length := fun lo hi => cutS_length z lo hi
    refine ⟨_, rfl, rfl, _, rfl, ite2 (fun c0 => ?_) (fun c0 => ?_)⟩
    · refine ⟨_, rfl, _, rfl, _, rfl, z, rfl, szz (by omega), _, rfl, _, _, rfl, rfl, ?_, _, rfl, _, rfl, _, rfl, z, rfl, szz (by omega), _, _, rfl, rfl, ?_, ?_⟩
      · have := cl none (some at_); rw [l1]; exact szz (by omega)
      · rw [add_len, l1]; have := cl none (some at_); have := cl (some at_) none; exact szz (by omega)
      · refine fin _ ?_ (((pz.cut _ _).app pc).app (pz.cut _ _))
        rw [add_len, add_len, l1]
        have := cle none (some at_); have := cle (some at_) none
        omega
    refine ⟨_, rfl, rfl, _, rfl, ite2 (fun c1 => ?_) (fun c1 => ?_)⟩
    · refine ⟨_, rfl, _, rfl, _, rfl, z, rfl, szz (by omega), _, rfl, _, rfl, _, _, rfl, rfl, _, rfl, z, rfl, szz (by omega), _, _, rfl, rfl, ?_, ?_⟩
      · have := cl none (some at_); have := cl (some (at_ + 1)) none; exact szz (by omega)
      · refine fin _ ?_ ((pz.cut _ _).app (pz.cut _ _))
        rw [add_len]
        have := cle none (some at_); have := cle (some (at_ + 1)) none
        omega
    refine ⟨_, rfl, rfl, _, rfl, ite2 (fun c2 => ?_) (fun c2 => ?_)⟩
    · refine ⟨_, rfl, _, rfl, _, rfl, z, rfl, szz (by omega), _, rfl, _, _, rfl, rfl, ?_, _, rfl, _, rfl, _, _, rfl, rfl, _, rfl, z, rfl, szz (by omega), _, _, rfl, rfl, ?_, ?_⟩
      · have := cl none (some at_); rw [l1]; exact szz (by omega)
      · rw [add_len, l1]; have := cl none (some at_); have := cl (some (at_ + 1)) none; exact szz (by omega)
      · refine fin _ ?_ (((pz.cut _ _).app pc).app (pz.cut _ _))
        rw [add_len, add_len, l1]
        have := cle none (some at_); have := cle (some (at_ + 1)) none
        omega
    refine ⟨_, rfl, rfl, _, rfl, ite2 (fun c3 => ?_) (fun c3 => ?_)⟩
    · refine ⟨_, rfl, _, rfl, _, rfl, z, rfl, szz (by omega), _, _, rfl, rfl, ?_, _, rfl, _, rfl, _, rfl, z, rfl, szz (by omega), _, _, rfl, rfl, ?_, ?_⟩
      · have := cl none (some at_); rw [lb]; exact szz (by omega)
      · rw [add_len, lb]; have := cl none (some at_); have := cl (some at_) none; exact szz (by omega)
      · refine fin _ ?_ (((pz.cut _ _).app pb).app (pz.cut _ _))
        rw [add_len, add_len, lb]
        have := cle none (some at_); have := cle (some at_) none
        omega
    refine ⟨_, rfl, ⟨_, rfl⟩, _, _, rfl, rfl, by decide +kernel, Nat.le_trans (Nat.add_le_add_right hz 2) (by decide), fun L hL => ?_⟩
    have sp := splits z
    obtain ⟨ws, ews⟩ : ∃ ws, ws = Txt.split z " " := ⟨_, rfl⟩
    rw [← ews] at sp ⊢
    have nL := D3.ne hL
    (generalize hG : L2.upd _ L _ = H4; have sL := same_of hG hL; have eL := at_of hG; clear hG)
    have b4 : ∃ o, H4 b = some o ∧ Bag (n + 1) o := let ⟨o, e, g⟩ := D3.bag; ⟨o, sL _ _ e, g⟩
    have sum := sp.sum
    have few := sp.few
    have some1 := sp.some_
    refine ⟨_, rfl, _, rfl, _, _, rfl, .inl ⟨_, .inl (.inl eL), rfl⟩, b, _, n, _, rfl, b4.choose_spec.1, b4.choose_spec.2, ?_, ?_, fun pl o5 p0 p1 g5 => ?_⟩
    · rw [List.length_map]; omega
    · rw [List.length_map]; exact Int.lt_trans (by omega) p200
    rw [List.length_map] at p1
    (generalize hG : L2.upd _ b _ = H5; have d5 := dr_of hG g5; clear hG)
    have D5 : Dr b n H H5 := (D3.trans (Dr.same sL D3.bag)).trans d5
    have eL5 : H5 L = some (.lst (ws.map V.str)) := d5.at nL eL
    have fin5 : ∀ (G : Hp) (us : List Str), Same H5 G → (us.map (fun x : Str => x.length)).sum + us.length ≤ 5 * z.length + 10 → (∀ y ∈ us, y ∈ ws) → Q (.str (Txt.join " " us)) G := fun G us sG hu hm => by
      refine q G _ (D5.trans (Dr.same sG D5.bag)) ?_ (Plain.join pb fun y hy => sp.plain pz (hm y hy))
      have := join_sum " " us
      rw [lb] at this
      omega
    have szJ : ∀ us : List Str, (us.map (fun x : Str => x.length)).sum + us.length ≤ 5 * z.length + 10 → (us.map (fun x : Str => x.length)).sum + us.length * (" " : Str).length ≤ 16777216 := fun us h => by rw [lb]; omega
    obtain ⟨a1, k1, e1⟩ := cutV_strs ws none (some pl)
    have c1l := sub_len ws a1 k1
    have c1s := sub_lens ws a1 k1
    obtain ⟨w1, ew1⟩ : ∃ w1, w1 = (ws.drop a1).take k1 := ⟨_, rfl⟩
    rw [← ew1] at e1 c1l c1s
    have m1 : ∀ y ∈ w1, y ∈ ws := fun y hy => by rw [ew1] at hy; exact sub_mem hy
    refine ⟨_, rfl, rfl, _, rfl, ite2 (fun c4 => ?_) (fun c4 => ?_)⟩
    · obtain ⟨v, hv, hvm⟩ := atI_in (xs := ws.map V.str) p0 (by rw [List.length_map]; exact p1)
      obtain ⟨t, ht, rfl⟩ := List.mem_map.mp hvm
      obtain ⟨a2, k2, e2⟩ := cutV_strs ws (some pl) none
      have c2l := sub_len ws a2 k2
      have c2s := sub_lens ws a2 k2
      obtain ⟨w2, ew2⟩ : ∃ w2, w2 = (ws.drop a2).take k2 := ⟨_, rfl⟩
      rw [← ew2] at e2 c2l c2s
      have m2 : ∀ y ∈ w2, y ∈ ws := fun y hy => by rw [ew2] at hy; exact sub_mem hy
      have htl := sp.le ht
      refine ⟨_, rfl, _, rfl, _, rfl, L, _, rfl, .inl (.inl eL5), fun F hF => ?_⟩
      rw [e1]
      (generalize hG : L2.upd _ F _ = H6; have sF := same_of hG hF; have eF := at_of hG; clear hG)
      have eL6 := sF _ _ eL5
      refine ⟨⟨_, rfl⟩, _, rfl, _, rfl, _, rfl, L, _, _, _, rfl, rfl, .inl (.inl eL6), hv, (by show 1 ≤ sizeLine; decide), fun B hB => ?_⟩
      (generalize hG : L2.upd _ B _ = H7; have sB := same_of hG hB; have eB := at_of hG; clear hG)
      refine ⟨F, B, _, _, rfl, rfl, sB _ _ eF, eB, ?_, fun C hC => ?_⟩
      · rw [List.length_map]; exact szz (by simp; omega)
      (generalize hG : L2.upd _ C _ = H8; have sC := same_of hG hC; have eC := at_of hG; clear hG)
      have eL8 := sC _ _ (sB _ _ eL6)
      refine ⟨_, rfl, _, rfl, _, rfl, L, _, rfl, .inl (.inl eL8), fun R hR => ?_⟩
      rw [e2]
      (generalize hG : L2.upd _ R _ = H9; have sR := same_of hG hR; have eR := at_of hG; clear hG)
      refine ⟨C, R, _, _, rfl, rfl, sR _ _ eC, eR, ?_, fun J hJ => ?_⟩
      · rw [List.length_append, List.length_map, List.length_map]; exact szz (by simp; omega)
      (generalize hG : L2.upd _ J _ = H10; have sJ := same_of hG hJ; have eJ := at_of hG; clear hG)
      have sm : ((w1 ++ [t] ++ w2).map (fun x : Str => x.length)).sum + (w1 ++ [t] ++ w2).length ≤ 5 * z.length + 10 := by
        simp only [List.map_append, List.sum_append, List.length_append, List.map_cons, List.map_nil, List.sum_cons, List.sum_nil, List.length_cons, List.length_nil]
        omega
      refine ⟨_, J, w1 ++ [t] ++ w2, rfl, rfl, .inl (.inl (.inl (by rw [eJ]; simp))), szJ _ sm, fin5 _ _ ((((sF.trans sB).trans sC).trans sR).trans sJ) sm fun y hy => ?_⟩
      rcases List.mem_append.mp hy with hy | hy
      · rcases List.mem_append.mp hy with hy | hy
        · exact m1 y hy
        · rw [List.mem_singleton.mp hy]; exact ht
      · exact m2 y hy
    · obtain ⟨a2, k2, e2⟩ := cutV_strs ws (some (pl + 1)) none
      have c2l := sub_len ws a2 k2
      have c2s := sub_lens ws a2 k2
      obtain ⟨w2, ew2⟩ : ∃ w2, w2 = (ws.drop a2).take k2 := ⟨_, rfl⟩
      rw [← ew2] at e2 c2l c2s
      have m2 : ∀ y ∈ w2, y ∈ ws := fun y hy => by rw [ew2] at hy; exact sub_mem hy
      refine ⟨⟨_, rfl⟩, _, rfl, _, rfl, _, rfl, L, _, rfl, .inl (.inl eL5), fun F hF => ?_⟩
      rw [e1]
      (generalize hG : L2.upd _ F _ = H6; have sF := same_of hG hF; have eF := at_of hG; clear hG)
      have eL6 := sF _ _ eL5
      refine ⟨_, rfl, _, rfl, _, _, rfl, rfl, _, rfl, L, _, rfl, .inl (.inl eL6), fun R hR => ?_⟩
      rw [e2]
      (generalize hG : L2.upd _ R _ = H7; have sR := same_of hG hR; have eR := at_of hG; clear hG)
      refine ⟨F, R, _, _, rfl, rfl, sR _ _ eF, eR, ?_, fun J hJ => ?_⟩
      · rw [List.length_map, List.length_map]; exact szz (by omega)
      (generalize hG : L2.upd _ J _ = H8; have sJ := same_of hG hJ; have eJ := at_of hG; clear hG)
      have sm : ((w1 ++ w2).map (fun x : Str => x.length)).sum + (w1 ++ w2).length ≤ 5 * z.length + 10 := by
        simp only [List.map_append, List.sum_append, List.length_append]
        omega
      refine ⟨_, J, w1 ++ w2, rfl, rfl, .inl (.inl (.inl (by rw [eJ]; simp))), szJ _ sm, fin5 _ _ ((sF.trans sR).trans sJ) sm fun y hy => ?_⟩
      rcases List.mem_append.mp hy with hy | hy
      · exact m1 y hy
      · exact m2 y hy
end

end TS

namespace TS
open PySem PySem.Spec PyProof.Rows L2 TL
/-! ### read right -/
theorem Sm.nat {i k : Nat} (h : i ≤ 2000) : Sm k 20 (.int (i : Int)) := by
  have all : ∀ j ∈ List.range 2001, smB 0 20 (.int (j : Int)) = true := by decide +kernel
  exact Sm.mono (k := 0) (all i (List.mem_range.mpr (by omega))) (Nat.zero_le _) (Nat.le_refl _)
theorem scan_small : ∀ (ps : List Nat) (k i : Nat), (∀ p ∈ ps, p ≤ 4) → (∀ j, scan k i ps = .beyond j → j < i + ps.length) ∧ (∀ m, scan k i ps = .unended m → m ≤ k + 4 * ps.length) ∧ ∀ j, scan k i ps ≠ .bad j
  | [], 0, i, _ => ⟨fun j h => (by cases h), fun m h => (by cases h), fun j h => (by cases h)⟩
  | [], k + 1, i, _ => ⟨fun j h => (by cases h), fun m h => (by cases h; simp), fun j h => (by cases h)⟩
  | p :: r, 0, i, _ => ⟨fun j h => (by cases h; simp), fun m h => (by cases h), fun j h => (by cases h)⟩
  | p :: r, k + 1, i, hp => by
    obtain ⟨a, b, c⟩ := scan_small r (k + p) (i + 1) fun q hq => hp q (List.mem_cons_of_mem _ hq)
    have h4 := hp p (by simp)
    refine ⟨fun j h => ?_, fun m h => ?_, fun j h => c j h⟩
    · have := a j h
      rw [List.length_cons]
      omega
    · have := b m h
      rw [List.length_cons]
      omega
theorem sm_pair {d e : PyData} {k n : Nat} (h : Sm k n d) (g : Sm k n e) : Sm (k + 1) (2 * (n + 1)) (.tuple [d, e]) := Sm.tuple (fun x hx => by
  simp only [List.mem_cons, List.not_mem_nil, or_false] at hx
  rcases hx with rfl | rfl
  · exact h
  · exact g) (by simp)
theorem weight_strs : ∀ ws : List Str, PyData.weightAll (ws.map PyData.str) = (ws.map (fun x : Str => x.length)).sum + ws.length
  | [] => by show PyData.weightAll [] = _; unfold PyData.weightAll; rfl
  | z :: r => by
    show PyData.weightAll (.str z :: r.map PyData.str) = _
    unfold PyData.weightAll
    rw [weight_strs r]
    rw [show (PyData.str z).weight = z.length from by unfold PyData.weight; rfl]
    simp only [List.map_cons, List.sum_cons, List.length_cons]
    omega
theorem Sm.plain {z : Str} {k n : Nat} (h : Plain z) (l : z.length ≤ n) : Sm k n (.str z) := Sm.str (fun c hc => Nat.lt_of_lt_of_le (h c hc) (by decide)) l
theorem Sm.strs {ws : List Str} {n : Nat} (h : ∀ z ∈ ws, Plain z) (l : (ws.map (fun x : Str => x.length)).sum + ws.length ≤ n) : Sm 1 n (.list (ws.map .str)) := by
  have one : ∀ d ∈ ws.map PyData.str, Sm 0 n d := fun d hd => by
    obtain ⟨z, hz, rfl⟩ := List.mem_map.mp hd
    refine Sm.plain (h z hz) ?_
    have : z.length ≤ (ws.map (fun x : Str => x.length)).sum := mem_sum (List.mem_map_of_mem hz)
    omega
  refine .of ?_ ?_ ?_ ?_
  · unfold PyData.showable; exact all_show fun d m => (one d m).to.1
  · unfold PyData.depth; have := all_deep fun d m => (one d m).to.2.1; omega
  · unfold PyData.leavesShort; exact all_short fun d m => (one d m).to.2.2.1
  · unfold PyData.weight
    rw [weight_strs]
    exact l
def kindL : Option Out → Str
  | none => "signs"
  | some (.bad _) => "sign"
  | some (.beyond _) => "beyond"
  | some (.unended _) => "unended"
  | some .ok => "told"
def valL (d : PyData) (zs : List Str) : Option Out → PyData
  | none => d
  | some (.bad i) => .int i
  | some (.beyond i) => .int i
  | some (.unended i) => .int i
  | some .ok => .list (zs.map .str)
theorem ResL.val {K : PySem.W.Frag} {G : Hp} {p : Addr} {y : V} {d : PyData} {zs : List Str} {x : Option Out} (h : ResL G p y zs x) (hy : Dt K G y d) :
    ∃ v, G p = some (.tup [.str (kindL x), v]) ∧ Dt K G v (valL d zs x) ∧ (x = none → v = y) := by
  match x, h with
  | none, h => exact ⟨y, h, hy, fun _ => rfl⟩
  | some (.bad i), h => exact ⟨_, h, .int _, nofun⟩
  | some (.beyond i), h => exact ⟨_, h, .int _, nofun⟩
  | some (.unended i), h => exact ⟨_, h, .int _, nofun⟩
  | some .ok, h =>
    obtain ⟨l, e1, e2⟩ := h
    exact ⟨_, e1, .lst (.inl (.inl e2)) (dt_strs zs), nofun⟩
theorem kindL_small (x : Option Out) : Sm 5 100000 (.str (kindL x)) := by
  match x with
  | none => exact (by decide +kernel : smB 5 100000 (.str "signs") = true)
  | some (.bad i) => exact (by decide +kernel : smB 5 100000 (.str "sign") = true)
  | some (.beyond i) => exact (by decide +kernel : smB 5 100000 (.str "beyond") = true)
  | some (.unended i) => exact (by decide +kernel : smB 5 100000 (.str "unended") = true)
  | some .ok => exact (by decide +kernel : smB 5 100000 (.str "told") = true)
/-- a line that may be handed in -/
structure LineOk (d : PyData) : Prop where
  sm : Sm 5 100000 d
  str : ∀ z, d = .str z → Plain z ∧ z.length ≤ 90000
theorem line_words {d : PyData} {ws : List Str} (h : lineD d = some ws) : ∃ z, d = .str z ∧ ws = Txt.split z " " ∧ ws.length ≤ 100 := by
  cases d with
  | str z =>
    have e0 : lineD (.str z) = (match wordsOf z with | some ws => if ws.length ≤ 100 then some ws else none | none => none) := rfl
    rw [e0] at h
    cases ew : wordsOf z with
    | none => rw [ew] at h; cases h
    | some us =>
      rw [ew] at h
      replace h : (if us.length ≤ 100 then some us else none) = some ws := h
      by_cases hl : us.length ≤ 100
      · rw [if_pos hl] at h
        cases h
        exact ⟨z, rfl, (words_split ew).1, hl⟩
      · rw [if_neg hl] at h
        cases h
  | _ => cases h
theorem valL_small {rows : List (Str × Int)} {d : PyData} (hP : RowsP rows) (h : LineOk d) : Sm 5 100000 (valL d ((lineD d).getD []) (dueL rows d)) := by
  unfold dueL
  cases el : lineD d with
  | none => exact h.sm
  | some ws =>
    obtain ⟨z, rfl, ews, hl⟩ := line_words el
    obtain ⟨pz, lz⟩ := h.str z rfl
    have sp := splits z
    rw [← ews] at sp
    show Sm 5 100000 (valL (.str z) ws (some (outS rows ws)))
    have sc := scan_small (ws.map (plN rows)) 1 0 fun p hp => by
      obtain ⟨z, _, rfl⟩ := List.mem_map.mp hp
      exact plN_le hP z
    rw [List.length_map] at sc
    cases ho : outS rows ws with
    | bad i =>
      refine (Sm.nat (k := 0) ?_).mono (by decide) (by decide)
      unfold outS at ho
      split at ho
      · rename_i j hj
        cases ho
        have := (List.findIdx?_eq_some_iff_getElem.mp hj).1
        omega
      · exact absurd ho (sc.2.2 i)
    | beyond i =>
      refine (Sm.nat (k := 0) ?_).mono (by decide) (by decide)
      unfold outS at ho
      split at ho
      · cases ho
      · have := sc.1 i ho
        omega
    | unended i =>
      refine (Sm.nat (k := 0) ?_).mono (by decide) (by decide)
      unfold outS at ho
      split at ho
      · cases ho
      · have := sc.2.1 i ho
        omega
    | ok =>
      have := sp.sum
      exact (Sm.strs (n := 100000) (fun y hy => sp.plain pz hy) (by omega)).mono (by decide) (by decide)
def spReadR (K : PySem.W.Frag) : Sp := fun vs H Q _ => ∃ (rw_ wa : Addr) (y : V) (rows : List (Str × Int)) (d : PyData) (H0 : Hp), vs = [.ref rw_, .ref wa, y] ∧ RowsOk rows ∧ Same H0 H ∧ Dt K H0 (.ref rw_) (.list (rows.map rowPy)) ∧ WordsAt K H0 wa rows ∧
  ((isD "list" d = false ∧ Dt K H0 y d ∧ LineOk d) ∨ (∃ (a : Addr) (zs : List Str), y = .ref a ∧ d = .list (zs.map .str) ∧ H0 a = none ∧ H a = some (.lst (zs.map V.str)) ∧ zs.length ≤ 100 ∧ ∀ z ∈ zs, Sm 2 30 (.str z))) ∧
  ∀ H', Same H0 H' → (∀ a o, H a = some o → y ≠ .ref a → H' a = some o) → Q (.bl true) H'
theorem eqTrue {z : Str} : V.bl (decide (V.str z = V.str z)) = V.bl true := by simp
def numsD (j : Nat) : List PyData := (List.range j).map fun i => PyData.int (i : Nat)
def numsV (j : Nat) : List V := (List.range j).map fun i => V.int (i : Nat)
theorem nums_dt {K : PySem.W.Frag} {G : Hp} (j : Nat) : DtAll K G (numsV j) (numsD j) := by
  induction j with
  | zero => exact .nil
  | succ j ih =>
    unfold numsV numsD
    rw [List.range_succ, List.map_append, List.map_append]
    exact DtAll.append ih (.cons (.int _) .nil)
section
variable {P : Program} {w : World} {K : PySem.W.Frag} {mg : Str → Option Value} {base : Heap}
abbrev s__law_read_right : Stmt := top 52
theorem sc__law_read_right : FnScope ["_law_rows_here", "_law_known", "_law_line", "_law_due_here", "_law_kept", "_law_turn", "_law_found"] ["_law_rows_here", "_law_known", "_law_line"] (defScope s__law_read_right) := ⟨rfl, rfl, rfl, by decide +kernel, rfl, by decide +kernel, by decide +kernel⟩

set_option maxHeartbeats 800000 in
theorem ok_read_right (Y : Sys K) (bt : Bt mg) (p__law_due : Prom P w K mg base 2 "_law_due" ["_law_rows_here", "_law_line"] (spDueL K)) (p__law_caught : Prom P w K mg base 7 "_law_caught" ["_law_known", "_law_line"] (spCaughtL K)) (D : Def K mg "_law_read_right" s__law_read_right) :
    PromG P w K mg base 8 "_law_read_right" ["_law_rows_here", "_law_known", "_law_line"] (spReadR K) := by
  refine promG_mk D sc__law_read_right (fun vs H Q E h => ?_) (fun _ _ _ _ _ _ us hl => match us, hl with | [_, _, _], _ => rfl) (fun f cdv A outer s H vs Q E hgd hr h => ?_)
  · obtain ⟨rw_, wa, y, rows, d, H0, rfl, _⟩ := h
    rfl
  · obtain ⟨rw_, wa, y, rows, d, H0, rfl, ro, s0, hrw, hW, hy, q⟩ := h
    have hP : RowsP rows := ⟨ro.lo, ro.hi⟩
    refine ⟨_, (pss_cons (ps_set (i := 3) sc__law_read_right.nd rfl (Or.inl rfl) (pe_pc p__law_due (hr.mono (by decide)) rfl (pa_cons (pv 0) (pa_cons (pv 2) pa_nil))))
      (pss_cons (ps_set (i := 4) sc__law_read_right.nd rfl (Or.inl rfl) (pe_callB (id := "repr") (reprK (K := K) Y hgd hr.units) (by rfl) bt.repr_ (by decide +kernel) (pa_cons (pv 2) pa_nil)))
      (pss_cons (ps_for PassesOwn.never rfl (pi_range1 rfl bt.range_ (pa_cons pe_int pa_nil)) (pg_name (i := 5) sc__law_read_right.nd rfl (Or.inl rfl)) (pss_cons (ps_set (i := 6) sc__law_read_right.nd rfl (Or.inl rfl) (pe_pc p__law_caught (hr.mono (by decide)) rfl (pa_cons (pv 1) (pa_cons (pv 2) pa_nil))))
      (pss_cons (ps_if (pt_val (pe_callB (id := "isinstance") (isiK (K := K)) (by rfl) bt.isinstance_ (by decide +kernel) (pa_cons (pv 2) (pa_cons (pe_bltn (v := .ty "list") rfl bt.list_ (by decide +kernel) rfl) pa_nil)))) (pss_one (ps_expr (pe_appendK (K := K) rfl (pv 2) (pv 5)))) pss_nil)
      (pss_one (ps_if (pt_cmpR op_ne (pe_callB (id := "repr") (reprK (K := K) Y hgd hr.units) (by rfl) bt.repr_ (by decide +kernel) (pa_cons (pv 6) pa_nil)) (pe_callB (id := "repr") (reprK (K := K) Y hgd hr.units) (by rfl) bt.repr_ (by decide +kernel) (pa_cons (pv 3) pa_nil)) (nomark _)) (pss_one (ps_ret pe_bl)) pss_nil)))))
      (pss_one (ps_ret (pe_or (pe_callB (id := "isinstance") (isiK (K := K)) (by rfl) bt.isinstance_ (by decide +kernel) (pa_cons (pv 2) (pa_cons (pe_bltn (v := .ty "list") rfl bt.list_ (by decide +kernel) rfl) pa_nil))) (pe_one (pe_cmpR op_eq (pe_callB (id := "repr") (reprK (K := K) Y hgd hr.units) (by rfl) bt.repr_ (by decide +kernel) (pa_cons (pv 2) pa_nil)) (pv 4) (nomark _))))))))), ?_⟩
    rcases hy with ⟨nl, hd, lo⟩ | ⟨a, zs, rfl, rfl, ha0, ea, lz, hz⟩
    · have dH := Dt.same s0 hd
      have hzl : ∀ z, d = .str z → z.length ≤ 100000 := fun z e => Nat.le_trans (lo.str z e).2 (by decide)
      have sh := lo.sm.shows
      refine ⟨_, rfl, _, rfl, rw_, y, rows, d, rfl, ro, Dt.same s0 hrw, dH, hzl, fun G1 p1 s1 hp1 res1 => ?_⟩
      have d1 := Dt.same s1 dH
      refine ⟨_, rfl, y, d, rfl, d1, sh.ok, sh.deep, sh.size, ?_⟩
      obtain ⟨v1, ep1, dv1, _⟩ := res1.val d1
      have smv := sm_pair (kindL_small (dueL rows d)) (valL_small hP lo)
      obtain ⟨vd, evd⟩ : ∃ vd, vd = valL d ((lineD d).getD []) (dueL rows d) := ⟨_, rfl⟩
      obtain ⟨kd, ekd⟩ : ∃ kd, kd = kindL (dueL rows d) := ⟨_, rfl⟩
      rw [← evd, ← ekd] at smv
      rw [← evd] at dv1
      rw [← ekd] at ep1
      have shv := smv.shows
      refine ⟨_, rfl, by decide, by decide, for_it walk_range (fun j σ G => (∃ x5 x6, σ = [some (.ref rw_), some (.ref wa), some y, some (.ref p1), some (.str d.shown), x5, x6]) ∧ Same G1 G) ⟨⟨_, _, rfl⟩, Same.refl _⟩ (fun _ _ _ _ _ => trivial) ?_ ?_⟩
      · rintro j x σ GG G hj ⟨⟨x5, x6, rfl⟩, sG⟩ ⟨rfl, rfl⟩
        have s2 := s1.trans sG
        have d2 := Dt.same s2 dH
        refine ⟨_, rfl, _, rfl, .ref wa, y, rfl, .inr ⟨wa, rows, d, rfl, hW.same (s0.trans s2), hP, d2, hzl, fun G3 p2 s3 hp2 res2 => ?_⟩⟩
        have d3 := Dt.same s3 d2
        obtain ⟨v2, ep2, dv2, _⟩ := res2.val d3
        rw [← evd] at dv2
        rw [← ekd] at ep2
        refine ⟨_, rfl, _, _, _, _, isD "list" d, rfl, .ty "list", d3.ty, isi_list, _, rfl, iteF' nl ?_⟩
        have s13 := sG.trans s3
        refine ⟨_, rfl, .ref p2, _, rfl, .tup (.inl (.inl ep2)) (.cons (.str _) (.cons dv2 .nil)), shv.ok, shv.deep, shv.size, ?_⟩
        refine ⟨_, rfl, .ref p1, _, rfl, .tup (.inl (.inl (s13 _ _ ep1))) (.cons (.str _) (.cons (Dt.same s13 dv1) .nil)), shv.ok, shv.deep, shv.size, rfl, _, rfl, iteF' (by simp) ?_⟩
        exact ⟨⟨_, _, rfl⟩, s13⟩
      · rintro σ G ⟨⟨x5, x6, rfl⟩, sG⟩
        have s2 := s1.trans sG
        have d2 := Dt.same s2 dH
        refine ⟨_, rfl, _, _, _, _, isD "list" d, rfl, .ty "list", d2.ty, isi_list, _, rfl, iteF' nl ?_⟩
        refine ⟨_, rfl, y, d, rfl, d2, sh.ok, sh.deep, sh.size, _, rfl, rfl, ?_⟩
        rw [eqTrue]
        exact q G (s0.trans s2) fun b o e _ => s2 _ _ e
    · have dH : Dt K H (.ref a) (.list (zs.map .str)) := .lst (.inl (.inl ea)) (dt_strs zs)
      have one : ∀ j, j ≤ 2 → ∀ e ∈ zs.map PyData.str ++ numsD j, Sm 2 30 e := fun j hj e he => by
        rcases List.mem_append.mp he with m | m
        · obtain ⟨z, hz', rfl⟩ := List.mem_map.mp m
          exact hz z hz'
        · obtain ⟨i, hi, rfl⟩ := List.mem_map.mp m
          have := List.mem_range.mp hi
          exact (Sm.nat (k := 0) (by omega)).mono (by decide) (by decide)
      have sml : ∀ j, j ≤ 2 → Sm 5 100000 (.list (zs.map PyData.str ++ numsD j)) := fun j hj => (Sm.list (m := 103) (k := 2) (n := 30) (one j hj) (by
        rw [List.length_append, List.length_map]
        unfold numsD
        rw [List.length_map, List.length_range]
        omega)).mono (by decide) (by decide)
      have sh0 : Shows (.list (zs.map PyData.str)) := by
        have := sml 0 (by decide)
        unfold numsD at this
        rw [List.range_zero, List.map_nil, List.append_nil] at this
        exact this.shows
      have el : lineD (.list (zs.map .str)) = none := rfl
      refine ⟨_, rfl, _, rfl, rw_, .ref a, rows, _, rfl, ro, Dt.same s0 hrw, dH, fun z e => (by cases e), fun G1 p1 s1 hp1 res1 => ?_⟩
      have ep1 : G1 p1 = some (.tup [.str "signs", .ref a]) := res1
      have np1 : p1 ≠ a := fun e => by rw [e, ea] at hp1; cases hp1
      refine ⟨_, rfl, .ref a, _, rfl, Dt.same s1 dH, sh0.ok, sh0.deep, sh0.size, ?_⟩
      generalize PyData.shown (.list (zs.map PyData.str)) = kept
      refine ⟨_, rfl, by decide, by decide, for_it walk_range (fun j σ G => (∃ x5 x6, σ = [some (.ref rw_), some (.ref wa), some (.ref a), some (.ref p1), some (.str kept), x5, x6]) ∧ (∀ b o, b ≠ a → G1 b = some o → G b = some o) ∧ G a = some (.lst (zs.map V.str ++ numsV j)))
        ⟨⟨_, _, rfl⟩, fun _ _ _ e => e, by unfold numsV; rw [List.range_zero, List.map_nil, List.append_nil]; exact s1 _ _ ea⟩ (fun _ _ _ _ _ => trivial) ?_ ?_⟩
      · rintro j x σ GG G hj ⟨⟨x5, x6, rfl⟩, sG, eG⟩ ⟨rfl, rfl⟩
        have hj2 : j < 2 := hj
        have s0G : Same H0 G := fun b o e => sG b o (fun z => by rw [z, ha0] at e; cases e) (s1 _ _ (s0 _ _ e))
        have dG : Dt K G (.ref a) (.list (zs.map .str ++ numsD j)) := .lst (.inl (.inl eG)) (DtAll.append (dt_strs zs) (nums_dt j))
        refine ⟨_, rfl, _, rfl, .ref wa, .ref a, rfl, .inr ⟨wa, rows, _, rfl, hW.same s0G, hP, dG, fun z e => (by cases e), fun G3 p2 s3 hp2 res2 => ?_⟩⟩
        have ep2 : G3 p2 = some (.tup [.str "signs", .ref a]) := res2
        have np2 : p2 ≠ a := fun e => by rw [e, eG] at hp2; cases hp2
        have eG3 := s3 _ _ eG
        refine ⟨_, rfl, _, _, _, _, isD "list" (.list (zs.map .str ++ numsD j)), rfl, .ty "list", (Dt.same s3 dG).ty, isi_list, _, rfl, iteT' (isD_lists _) ?_⟩
        refine ⟨_, rfl, .inl ⟨rfl, _, .inl (.inl eG3)⟩, _, rfl, a, _, _, rfl, rfl, eG3, ?_, ?_⟩
        · rw [List.length_append, List.length_map]
          unfold numsV
          rw [List.length_map, List.length_range]
          exact sz5' (by omega)
        have mt : L2.upd G3 a (.lst (zs.map V.str ++ numsV j ++ [.int (0 + (j : Int))])) a = some (.lst (zs.map V.str ++ numsV (j + 1))) := by
          rw [upd_same]
          unfold numsV
          rw [List.range_succ, List.map_append, Int.zero_add, List.append_assoc]
          rfl
        have mo : ∀ b : Addr, b ≠ a → L2.upd G3 a (.lst (zs.map V.str ++ numsV j ++ [.int (0 + (j : Int))])) b = G3 b := fun b h => upd_ne h
        generalize L2.upd G3 a (.lst (zs.map V.str ++ numsV j ++ [.int (0 + (j : Int))])) = G4 at mt mo ⊢
        have d4 : Dt K G4 (.ref a) (.list (zs.map .str ++ numsD (j + 1))) := .lst (.inl (.inl mt)) (DtAll.append (dt_strs zs) (nums_dt (j + 1)))
        have smv := sm_pair (kindL_small none) (sml (j + 1) (by omega))
        obtain ⟨d5, ed5⟩ : ∃ d5, d5 = PyData.list (zs.map .str ++ numsD (j + 1)) := ⟨_, rfl⟩
        rw [← ed5] at d4 smv
        have shv := smv.shows
        have s14 : ∀ b o, b ≠ a → G1 b = some o → G4 b = some o := fun b o hb e => (mo b hb).trans (s3 _ _ (sG b o hb e))
        refine ⟨_, rfl, .ref p2, _, rfl, .tup (.inl (.inl ((mo p2 np2).trans ep2))) (.cons (.str _) (.cons d4 .nil)), shv.ok, shv.deep, shv.size, ?_⟩
        refine ⟨_, rfl, .ref p1, _, rfl, .tup (.inl (.inl (s14 p1 _ np1 ep1))) (.cons (.str _) (.cons d4 .nil)), shv.ok, shv.deep, shv.size, rfl, _, rfl, iteF' (by simp) ?_⟩
        exact ⟨⟨_, _, rfl⟩, s14, mt⟩
      · rintro σ G ⟨⟨x5, x6, rfl⟩, sG, eG⟩
        have dG : Dt K G (.ref a) (.list (zs.map .str ++ numsD 2)) := .lst (.inl (.inl eG)) (DtAll.append (dt_strs zs) (nums_dt 2))
        refine ⟨_, rfl, _, _, _, _, isD "list" (.list (zs.map .str ++ numsD 2)), rfl, .ty "list", dG.ty, isi_list, _, rfl, iteT' (isD_lists _) ?_⟩
        exact q G (fun b o e => sG b o (fun z => by rw [z, ha0] at e; cases e) (s1 _ _ (s0 _ _ e))) fun b o e hb => sG b o (fun z => hb (by rw [z])) (s1 _ _ e)
end

end TS

namespace TS
open PySem PySem.Spec PyProof.Rows L2 TL
/-! ### words and terms that are made -/
theorem rowsL_true {ds : List PyData} (h1 : 1 ≤ ds.length) (h2 : ds.length ≤ 12) (a : ∀ d ∈ ds, rowD d = true) (nd : (ds.map nmOf).Nodup) : rowsL ds = true := by
  unfold rowsL
  rw [decide_eq_true h1, decide_eq_true h2, List.all_eq_true.mpr a, decide_eq_true nd]
  rfl
theorem rows_L {rows : List (Str × Int)} (ro : RowsOk rows) : rowsL (rows.map rowPy) = true := by
  refine rowsL_true (by rw [List.length_map]; exact ro.some_) (by rw [List.length_map]; exact ro.few) (fun d hd => ?_) (by rw [List.map_map]; exact ro.nd)
  obtain ⟨r, hr, rfl⟩ := List.mem_map.mp hd
  show (nameS r.1 && (decide (0 ≤ r.2) && decide (r.2 ≤ 4))) = true
  rw [ro.names r hr, decide_eq_true (ro.lo r hr), decide_eq_true (ro.hi r hr)]
  rfl
theorem rows_back (rows : List (Str × Int)) : (rows.map rowPy).map rowOf = rows := by
  rw [List.map_map]
  exact List.map_id rows
theorem sm_rows {rows : List (Str × Int)} (ro : RowsOk rows) : Sm 2 276 (.list (rows.map rowPy)) := by
  refine Sm.list (m := 12) (k := 1) (n := 22) (fun d hd => ?_) (by rw [List.length_map]; exact ro.few)
  obtain ⟨r, hr, rfl⟩ := List.mem_map.mp hd
  have h1 := ro.lo r hr
  have h2 := ro.hi r hr
  refine Sm.tuple (m := 2) (k := 0) (n := 10) (fun e he => ?_) (by simp)
  simp only [List.mem_cons, List.not_mem_nil, or_false] at he
  rcases he with rfl | rfl
  · have h := ro.names r hr
    unfold nameS at h
    obtain ⟨h1, h3⟩ := Bool.and_eq_true_iff.mp h
    obtain ⟨_, h2⟩ := Bool.and_eq_true_iff.mp h1
    exact Sm.str (fun c m => Nat.lt_of_le_of_lt (of_decide_eq_true (Bool.and_eq_true_iff.mp (List.all_eq_true.mp h3 c m)).2) (by decide)) (Nat.le_trans (of_decide_eq_true h2) (by decide))
  · exact Sm.int (by omega) (by omega)
/-- Words(rows), rows being what they must be -/
theorem words_of {K : PySem.W.Frag} {H : Hp} {a dx : Addr} {x : V} {d : PyData} {rows : List (Str × Int)} {C : Hp → Prop} {E : XK} (ro : RowsOk rows) (ha : H a = none) (hdx : H dx = none) (ne : dx ≠ a) (h : Dt K H x d) (hs : d = .list (rows.map rowPy) ∨ d = .tuple (rows.map rowPy))
    (k : ∀ G, Same H G → WordsAt K G a rows → C G) : spWIni K [.ref a, x] (L2.upd (L2.upd H dx (.own a)) a (.ins (wcls K) dx [])) (fun v G => v = .non ∧ C G) E := by
  have s1 : Same H (L2.upd (L2.upd H dx (.own a)) a (.ins (wcls K) dx [])) := fun b o e => by
    rw [upd_ne (ne_of_none e ha), upd_ne (ne_of_none e hdx)]
    exact e
  have rl := rows_L ro
  have es : seqD d = some (rows.map rowPy) := by rcases hs with rfl | rfl <;> rfl
  have wd : d.weight ≤ 100000 := by
    have := (sm_rows ro).to.2.2.2
    rcases hs with rfl | rfl
    · exact Nat.le_trans this (by decide)
    · unfold PyData.weight at this ⊢
      exact Nat.le_trans this (by decide)
  refine ⟨a, dx, _, d, rfl, upd_same .., Dt.same s1 h, wd, fun ds e => ?_, fun ds e _ G fx wa => ⟨rfl, ?_⟩, fun c => ?_⟩
  · rw [es] at e
    cases e
    rw [List.length_map]
    exact Nat.le_trans ro.few (by decide)
  · rw [es] at e
    cases e
    rw [rows_back] at wa
    exact k G (fun b o e => fx b o (ne_of_none e ha) (s1 _ _ e)) wa
  · have : rowsD d = true := by unfold rowsD; rw [es]; exact rl
    rw [this] at c
    cases c
theorem SqT.hide {K : PySem.W.Frag} {G : Hp} {b t : Addr} {l xs : List V} (hb : G b = some (.lst l)) (h : SqT K G t xs) : SqT K (hide G b) t xs := by
  rcases h with (h | ⟨q, h⟩) | h
  · exact .inl (.inl (by rw [hide_ne fun e => by rw [e, hb] at h; cases h]; exact h))
  · exact .inl (.inr ⟨q, by rw [hide_ne fun e => by rw [e, hb] at h; cases h]; exact h⟩)
  · exact .inr h
theorem WordsAt.hide {K : PySem.W.Frag} {G : Hp} {b a : Addr} {l : List V} {rows : List (Str × Int)} (hb : G b = some (.lst l)) (h : WordsAt K G a rows) : WordsAt K (hide G b) a rows := by
  obtain ⟨dx, D, kvs, e1, e2, e3⟩ := h
  exact ⟨dx, D, kvs, by rw [hide_ne fun e => by rw [e, hb] at e1; cases e1]; exact e1, by rw [hide_ne fun e => by rw [e, hb] at e2; cases e2]; exact e2, e3.len, fun i r q => let ⟨t, x, y⟩ := e3.at_ i r q; ⟨t, x, SqT.hide hb y⟩⟩
theorem lacks_out {rows : List (Str × Int)} : ∀ (zs : List Str) (k i : Nat), lacks (plS rows) k zs = some 0 → (∀ z ∈ zs, (plS rows z).isNone = false) ∧ scan k i (zs.map (plN rows)) = .ok
  | [], k, i, h => by
    have e : k = 0 := by simpa [lacks] using h
    subst e
    exact ⟨by simp, rfl⟩
  | z :: r, 0, i, h => by simp [lacks] at h
  | z :: r, k + 1, i, h => by
    cases hp : plS rows z with
    | none => simp [lacks, hp] at h
    | some p =>
      have h' : lacks (plS rows) (k + p) r = some 0 := by simpa [lacks, hp] using h
      obtain ⟨a, b⟩ := lacks_out r (k + p) (i + 1) h'
      refine ⟨fun y hy => (List.mem_cons.mp hy).elim (fun e => by rw [e, hp]; rfl) (a y), ?_⟩
      rw [List.map_cons, show plN rows z = p by unfold plN; rw [hp]; rfl]
      exact b
/-- signs that are a term of these rows -/
structure Good (rows : List (Str × Int)) (zs : List Str) : Prop where
  some_ : 1 ≤ zs.length
  few : zs.length ≤ 100
  lk : lacks (plS rows) 1 zs = some 0
  sm : ∀ z ∈ zs, Sm 2 30 (.str z)
  pl : ∀ z ∈ zs, Plain z
theorem Good.len {rows : List (Str × Int)} {zs : List Str} (h : Good rows zs) {z : Str} (m : z ∈ zs) : z.length ≤ 30 := (h.sm z m).to.2.2.2
theorem Good.lays {rows : List (Str × Int)} {zs : List Str} (h : Good rows zs) : Lays zs := Lays.of_plain h.pl
theorem Good.out {rows : List (Str × Int)} {zs : List Str} (h : Good rows zs) : outS rows zs = .ok := by
  obtain ⟨a, b⟩ := lacks_out zs 1 0 h.lk
  unfold outS
  rw [findIdx_no a]
  exact b
/-- Term(words, signs), signs being a list -/
theorem made_of {K : PySem.W.Frag} {H : Hp} {a dx wa sa : Addr} {rows : List (Str × Int)} {zs : List Str} {C : Hp → Prop} {E : XK} (ha : H a = none) (hdx : H dx = none) (ne : dx ≠ a) (hW : WordsAt K H wa rows) (ro : RowsOk rows) (g : Good rows zs) (hS : SqL K H sa (zs.map V.str))
    (k : ∀ G, Same H G → TermOk K G a rows zs → C G) : spTIni K [.ref a, .ref wa, .ref sa, .int 100] (L2.upd (L2.upd H dx (.own a)) a (.ins (tcls K) dx [])) (fun v G => v = .non ∧ C G) E := by
  have s1 : Same H (L2.upd (L2.upd H dx (.own a)) a (.ins (tcls K) dx [])) := fun b o e => by
    rw [upd_ne (ne_of_none e ha), upd_ne (ne_of_none e hdx)]
    exact e
  refine ⟨a, dx, _, _, _, rfl, upd_same .., .inr ⟨wa, rows, .list (zs.map .str), .int 100, rfl, hW.same s1, ⟨ro.lo, ro.hi⟩, .lst (s1.seq hS) (dt_strs zs), .int 100, ⟨fun ds e => ?_, fun ds e x hx y ey => ?_⟩, ?_⟩⟩
  · cases e
    rw [List.length_map]
    have := g.few
    omega
  · cases e
    obtain ⟨t, ht, rfl⟩ := List.mem_map.mp hx
    cases ey
    exact Nat.le_trans (g.len ht) (by decide)
  · rw [due_strs g.some_ g.few, g.out]
    intro G r fx er _ _ ta
    have e3 : strsD (.list (zs.map .str)) = zs := by
      show ((zs.map PyData.str).map strOf) = zs
      rw [List.map_map]
      exact List.map_id' zs
    rw [er, e3] at ta
    have sG : Same H G := fun b o e => fx b o (ne_of_none e ha) (s1 _ _ e)
    exact ⟨rfl, k G sG ⟨wa, _, ta, hW.same sG, ro, g.lays⟩⟩

end TS

namespace TS
open PySem PySem.Spec PyProof.Rows L2 TL
/-! ### a spare name -/
def spare13 : List Str := ["spare", "other", "more", "extra", "z", "zz", "a", "b", "bb", "cc", "dd", "qqqqqqqq", "zzzzzzzz"]
theorem nodup_le {α : Type} [DecidableEq α] : ∀ {l m : List α}, l.Nodup → (∀ x ∈ l, x ∈ m) → l.length ≤ m.length
  | [], m, _, _ => Nat.zero_le _
  | x :: r, m, h, hm => by
    obtain ⟨h1, h2⟩ := List.nodup_cons.mp h
    have e := nodup_le (l := r) (m := m.erase x) h2 fun y hy => (List.mem_erase_of_ne (fun e => h1 (by rw [← e]; exact hy))).mpr (hm y (List.mem_cons_of_mem _ hy))
    have hx := hm x (by simp)
    rw [List.length_erase_of_mem hx] at e
    have : 1 ≤ m.length := List.length_pos_of_mem hx
    rw [List.length_cons]
    omega
theorem spare_some {ns : List Str} (h : ns.length ≤ 12) : spare13.filter (fun z => !decide (z ∈ ns)) ≠ [] := fun e => by
  have := nodup_le (l := spare13) (m := ns) (by decide +kernel) fun x hx => by
    have := List.filter_eq_nil_iff.mp e x hx
    simpa using this
  have l13 : spare13.length = 13 := rfl
  omega
theorem spare_names : ∀ z ∈ spare13, nameS z = true := by decide +kernel
def spSpare (K : PySem.W.Frag) : Sp := fun vs H Q _ => ∃ (rw_ : Addr) (rows : List (Str × Int)), vs = [.ref rw_] ∧ RowsOk rows ∧ Dt K H (.ref rw_) (.list (rows.map rowPy)) ∧ ∀ H' z, Same H H' → nameS z = true → z ∉ rows.map (·.1) → Q (.str z) H'
theorem row_at {K : PySem.W.Frag} {H : Hp} {xs : List V} {rows : List (Str × Int)} {i : Nat} {x : V} (h : DtAll K H xs (rows.map rowPy)) (hx : xs[i]? = some x) : ∃ r p, rows[i]? = some r ∧ x = .ref p ∧ SqT K H p [.str r.1, .int r.2] := by
  obtain ⟨d, hd, h2⟩ := h.get hx
  rw [List.getElem?_map] at hd
  cases hq : rows[i]? with
  | none => rw [hq] at hd; cases hd
  | some r =>
    rw [hq] at hd
    cases hd
    obtain ⟨p, ys, rfl, hT, hA⟩ := h2.tup_inv
    cases hA with
    | cons y0 t1 => cases t1 with
    | cons y1 t2 => cases t2 with
    | nil =>
    cases y0
    cases y1
    exact ⟨r, p, rfl, rfl, hT⟩
section
variable {P : Program} {w : World} {K : PySem.W.Frag} {mg : Str → Option Value} {base : Heap}
abbrev s__law_spare : Stmt := top 45
theorem sc__law_spare : FnScope ["_law_rows_here", "_law_names_here", "_law_some", "_law_name", "_law_places"] ["_law_rows_here"] (defScope s__law_spare) := ⟨rfl, rfl, rfl, by decide +kernel, rfl, by decide +kernel, by decide +kernel⟩

set_option maxHeartbeats 800000 in
theorem ok_spare (bt : Bt mg) (D : Def K mg "_law_spare" s__law_spare) : Prom P w K mg base 1 "_law_spare" ["_law_rows_here"] (spSpare K) := by
  refine prom_mk D sc__law_spare (fun vs H Q E h => ?_) (fun _ _ _ _ _ _ us hl => match us, hl with | [_], _ => rfl) (fun f cdv A outer s H vs Q E hr h => ?_)
  · obtain ⟨rw_, rows, rfl, _⟩ := h
    rfl
  · obtain ⟨rw_, rows, rfl, ro, hrw, q⟩ := h
    refine ⟨_, (pss_cons (ps_set (i := 1) sc__law_spare.nd rfl (Or.inr rfl) (pe_lc (own := [("_law_name", 3), ("_law_places", 4)]) rfl sc__law_spare.nd (pi_listK (K := K) rfl (pv 0)) (blkOk_by (N := ["_law_rows_here", "_law_names_here", "_law_some", "_law_name", "_law_places"]) (sc := defScope s__law_spare) (by decide +kernel)) (fun _ _ _ _ _ => (pg_tupK (K := K) (n := 2) rfl rfl (pgs_cons (pg_name (i := 3) sc__law_spare.nd rfl (Or.inl rfl)) (pgs_cons (pg_name (i := 4) sc__law_spare.nd rfl (Or.inl rfl)) pgs_nil)))) (fun _ _ _ _ _ => pts_nil) (fun _ _ _ _ _ => (pv 3))))
      (pss_cons (ps_set (i := 2) sc__law_spare.nd rfl (Or.inl rfl) (pe_split pe_str pe_str))
      (pss_one (ps_ret (pe_ix (ix_listK (K := K)) (pe_lc (own := [("_law_name", 3)]) (g := gName 3) rfl sc__law_spare.nd (pi_listK (K := K) rfl (pv 2)) (blkOk_by (N := ["_law_rows_here", "_law_names_here", "_law_some", "_law_name", "_law_places"]) (sc := defScope s__law_spare) (by decide +kernel)) (fun _ _ _ _ _ => (pg_name (i := 3) sc__law_spare.nd rfl (Or.inl rfl))) (fun _ _ _ _ _ => (pts_one (pt_cmpR (op_notInK (K := K)) (pv 3) (pv 1) rfl))) (fun _ _ _ _ _ => (pv 3))) pe_int (fun _ _ => rfl)))))), ?_⟩
    obtain ⟨_, xr, er, hrL, hrA⟩ := hrw.list_inv
    cases er
    have lr : xr.length = rows.length := by rw [hrA.length, List.length_map]
    have few := ro.few
    refine ⟨_, rfl, rw_, rfl, ⟨_, hrL⟩, fun L hL => ?_⟩
    refine lc_it walk_list (fun i G => Same H G ∧ G L = some (.lst ((rows.take i).map fun r => V.str r.1))) ⟨Same.new (Same.refl _) hL, upd_same ..⟩ (fun i G _ p => p.1.seq hrL) ?_ ?_
    · rintro i x G1 G2 hi ⟨sG, eG⟩ ⟨rfl, hx⟩
      obtain ⟨r, p, hri, rfl, hT⟩ := row_at hrA hx
      refine ⟨p, _, rfl, SqT.same sG hT, rfl, _, _, rfl, _, _, rfl, rfl, rfl, yes (iteT ⟨_, rfl, _, eG, ?_, Same.keep sG hL, ?_⟩)⟩
      · rw [List.length_map, List.length_take]
        exact sz5' (by omega)
      · rw [upd_same, take_map _ hri]
    · rintro G ⟨sG, eG⟩
      rw [lr, List.take_length] at eG
      refine ⟨⟨_, rfl⟩, _, _, rfl, rfl, by decide +kernel, by decide +kernel, fun W hW => ?_⟩
      have ew : Txt.split "spare other more extra z zz a b bb cc dd qqqqqqqq zzzzzzzz" " " = spare13 := by decide +kernel
      rw [ew]
      (generalize hG : L2.upd _ W _ = G1; have sW := same_of hG hW; have eW := at_of hG; clear hG)
      have eL1 := sW _ _ eG
      refine ⟨_, rfl, W, rfl, ⟨_, .inl (.inl eW)⟩, fun M hM => ?_⟩
      refine lc_it walk_list (fun i G => Same G1 G ∧ G M = some (.lst (((spare13.take i).filter fun z => !decide (z ∈ rows.map (·.1))).map V.str))) ⟨Same.new (Same.refl _) hM, upd_same ..⟩ (fun i G _ p => p.1.seq (.inl (.inl eW))) ?_ ?_
      · rintro i x G2 G3 hi ⟨s2, e2⟩ ⟨rfl, hx⟩
        rw [List.getElem?_map] at hx
        cases hq : spare13[i]? with
        | none => rw [hq] at hx; cases hx
        | some z =>
          rw [hq] at hx
          cases hx
          refine ⟨rfl, _, rfl, _, rfl, L, _, rfl, .inl (.inl (.inl (s2 _ _ eL1))), rfl, ?_, _, rfl, ?_⟩
          · rw [List.all_eq_true]
            intro v hv
            obtain ⟨y, _, rfl⟩ := List.mem_map.mp hv
            rfl
          have ei : inV (.str z) (rows.map fun r => V.str r.1) = decide (z ∈ rows.map (·.1)) := by
            have := inV_strs (z := z) (l := rows.map (·.1))
            rw [List.map_map] at this
            exact this
          show if (if true = true then !inV (.str z) (rows.map fun r => V.str r.1) else _) = true then _ else _
          rw [if_pos rfl, ei]
          have et : (spare13.take (i + 1)).filter (fun z => !decide (z ∈ rows.map (·.1))) = (spare13.take i).filter (fun z => !decide (z ∈ rows.map (·.1))) ++ (if z ∈ rows.map (·.1) then [] else [z]) := by
            rw [List.take_add_one, hq, List.filter_append]
            by_cases hm : z ∈ rows.map (·.1)
            · rw [if_pos hm]; simp only [Option.toList_some, List.filter_cons, List.filter_nil, decide_eq_true hm]; rfl
            · rw [if_neg hm]; simp only [Option.toList_some, List.filter_cons, List.filter_nil, decide_eq_false hm]; rfl
          by_cases hm : z ∈ rows.map (·.1)
          · rw [if_pos hm, List.append_nil] at et
            rw [decide_eq_true hm]
            exact iteF ⟨s2, by rw [et]; exact e2⟩
          · rw [if_neg hm] at et
            rw [decide_eq_false hm]
            refine iteT ⟨_, rfl, _, e2, ?_, Same.keep s2 hM, by rw [upd_same, et, List.map_append]; rfl⟩
            rw [List.length_map]
            refine sz5' (Nat.le_trans (List.length_filter_le _ _) ?_)
            rw [List.length_take]
            exact Nat.le_trans (Nat.min_le_right _ _) (by decide)
      · rintro G2 ⟨s2, e2⟩
        have e13 : spare13.take (spare13.map V.str).length = spare13 := List.take_of_length_le (by rw [List.length_map]; exact Nat.le_refl _)
        rw [e13] at e2
        have ns := spare_some (ns := rows.map (·.1)) (by rw [List.length_map]; exact few)
        obtain ⟨z, r, ez⟩ := List.exists_cons_of_ne_nil ns
        rw [ez] at e2
        have mz : z ∈ spare13.filter (fun z => !decide (z ∈ rows.map (·.1))) := by rw [ez]; simp
        obtain ⟨m1, m2⟩ := List.mem_filter.mp mz
        refine ⟨M, _, _, .str z, rfl, rfl, .inl (.inl e2), atI_nat (j := 0) rfl, ?_⟩
        exact q _ z (sG.trans (sW.trans s2)) (spare_names z m1) (by simpa using m2)
end

end TS

namespace TS
open PySem PySem.Spec PyProof.Rows L2 TL
/-! ### equal right -/
theorem rows_eqv : ∀ a b : List (Str × Int), PyData.eqvAll (a.map rowPy) (b.map rowPy) = decide (a = b)
  | [], [] => rfl
  | [], b :: r => rfl
  | a :: r, [] => rfl
  | (x, p) :: r, (y, q) :: s => by
    show ((x == y && (p == q && true)) && PyData.eqvAll (r.map rowPy) (s.map rowPy)) = _
    rw [rows_eqv r s]
    by_cases h1 : x = y
    · by_cases h2 : p = q
      · subst h1 h2
        simp
      · have e : (p == q) = false := by simpa using h2
        rw [e]
        simp [h2]
    · have e : (x == y) = false := by simpa using h1
      rw [e]
      simp [h1]
theorem name_lay {z : Str} (h : nameS z = true) : (PyData.str z).canLay0 = true := by
  unfold nameS at h
  obtain ⟨_, h3⟩ := Bool.and_eq_true_iff.mp h
  show z.cps.all (· < 0x110000) = true
  rw [← Array.all_toList, List.all_eq_true]
  intro c m
  exact decide_eq_true (Nat.lt_of_le_of_lt (of_decide_eq_true (Bool.and_eq_true_iff.mp (List.all_eq_true.mp h3 c m)).2) (by decide))
theorem rows_lay {rows : List (Str × Int)} (ro : RowsOk rows) : ∀ e ∈ rows.map rowPy, e.canLay0 = true ∧ e.depth ≤ 30 := fun e he => by
  obtain ⟨r, hr, rfl⟩ := List.mem_map.mp he
  constructor
  · show PyData.canLayAll0 [.str r.1, .int r.2] = true
    unfold PyData.canLayAll0
    rw [name_lay (ro.names r hr)]
    rfl
  · show max 0 (max 0 0) + 1 ≤ 30
    decide
theorem rows_eqD {K : PySem.W.Frag} {G : Hp} {x y : V} {a b : List (Str × Int)} {Q : VK} (ha : Dt K G x (.list (a.map rowPy))) (hb : Dt K G y (.list (b.map rowPy))) (ra : RowsOk a) (rb : RowsOk b) (q : Q (.bl (decide (a = b))) G) : rEqD K x y G Q := by
  have l1 := rows_lay ra
  have l2 := rows_lay rb
  refine ⟨.list (a.map rowPy), .list (b.map rowPy), ha.dp (by unfold PyData.canLay0; exact lay_all fun e he => (l1 e he).1), hb.dp (by unfold PyData.canLay0; exact lay_all fun e he => (l2 e he).1), shaped_list l1, shaped_list l2, ?_⟩
  have e : PyData.eqv (.list (a.map rowPy)) (.list (b.map rowPy)) = decide (a = b) := by
    unfold PyData.eqv
    exact rows_eqv a b
  rw [e]
  exact q
def spEqR (K : PySem.W.Frag) : Sp := fun vs H Q _ => ∃ (rw_ wa sa oa ma : Addr) (rows others : List (Str × Int)) (zs ys : List Str), vs = [.ref rw_, .ref wa, .ref sa, .ref oa, .ref ma] ∧ RowsOk rows ∧ RowsOk others ∧ Good rows zs ∧ Good others ys ∧
  Dt K H (.ref rw_) (.list (rows.map rowPy)) ∧ WordsAt K H wa rows ∧ SqL K H sa (zs.map V.str) ∧ Dt K H (.ref oa) (.list (others.map rowPy)) ∧ SqL K H ma (ys.map V.str) ∧ ∀ H', Same H H' → Q (.bl true) H'
theorem show3 (b : Bool) : Shows (.list [.bool b, .bool b, .bool !b]) := Sm.shows (k := 2) (n := 100) (show smB 2 100 _ = true by cases b <;> decide +kernel)
theorem show2 (b : Bool) : Shows (.list [.bool b, .bool b]) := Sm.shows (k := 2) (n := 100) (show smB 2 100 _ = true by cases b <;> decide +kernel)
theorem Good.sum {rows : List (Str × Int)} {zs : List Str} (h : Good rows zs) : (zs.map (fun x : Str => x.length)).sum + zs.length ≤ 3100 := by
  have : ∀ l : List Str, (∀ z ∈ l, z.length ≤ 30) → (l.map (fun x : Str => x.length)).sum ≤ l.length * 30 := fun l => by
    induction l with
    | nil => intro _; simp
    | cons z r ih =>
      intro hl
      have a := hl z (by simp)
      have b := ih fun y hy => hl y (List.mem_cons_of_mem _ hy)
      simp only [List.map_cons, List.sum_cons, List.length_cons, Nat.succ_mul]
      omega
  have t := this zs fun z hz => h.len hz
  have f := h.few
  omega
section
variable {P : Program} {w : World} {K : PySem.W.Frag} {mg : Str → Option Value} {base : Heap}
abbrev s__law_equal_right : Stmt := top 53
theorem sc__law_equal_right : FnScope ["_law_rows_here", "_law_known", "_law_signs_here", "_law_other", "_law_more", "_law_one", "_law_two", "_law_due_here", "_law_odd", "_law_thing"] ["_law_rows_here", "_law_known", "_law_signs_here", "_law_other", "_law_more"] (defScope s__law_equal_right) := ⟨rfl, rfl, rfl, by decide +kernel, rfl, by decide +kernel, by decide +kernel⟩

set_option maxHeartbeats 1600000 in
theorem ok_equal_right (Y : Sys K) (bt : Bt mg) (T : IsC K (tcls K)) (TW : IsC K (wcls K)) (mq_Term : Meth K (tcls K) "__eq__" (He.ma K (tcls K) "__eq__")) (ne_Term : NeC K (tcls K)) (ap_Term : ApK K (tcls K)) (mq_Words : Meth K (wcls K) "__eq__" (He.ma K (wcls K) "__eq__")) (ap_Words : ApK K (wcls K))
    (k1 : PySem.W.kitOne K (.ref (wcls K)) (.ref (tcls K)) = some false) (k2 : PySem.W.kitOne K (.ref (tcls K)) (.ref (wcls K)) = some false) (b1 : PySem.W.subIn K (.ref (wcls K)) (.ref (tcls K)) = some false) (b2 : PySem.W.subIn K (.ref (tcls K)) (.ref (wcls K)) = some false)
    (g_Words : mg "Words" = some (.ref (wcls K))) (m_Words : Mk K (wcls K) (He.ma K (wcls K) "__init__")) (p_Words___init__ : PromA (L2.CX P w) P w K mg base 4 (He.ma K (wcls K) "__init__") ["self", "rows"] (spWIni K))
    (m_Term : Mk K (tcls K) (He.ma K (tcls K) "__init__")) (g_Term : mg "Term" = some (.ref (tcls K))) (p_Term0 : PromAK P w K mg base 4 (He.ma K (tcls K) "__init__") ["self", "words", "signs", "most"] (spTIni K) 3 [] (fun vs zs => vs ++ ([V.int 100] ++ zs)))
    (p_Term___eq__ : PromA CX0 P w K mg base 3 (He.ma K (tcls K) "__eq__") ["self", "other"] (spTEq K)) (p_Words___eq__ : PromA CX0 P w K mg base 1 (He.ma K (wcls K) "__eq__") ["self", "other"] (spWEq K))
    (D : Def K mg "_law_equal_right" s__law_equal_right) : PromG P w K mg base 6 "_law_equal_right" ["_law_rows_here", "_law_known", "_law_signs_here", "_law_other", "_law_more"] (spEqR K) := by
  refine promG_mk D sc__law_equal_right (fun vs H Q E h => ?_) (fun _ _ _ _ _ _ us hl => match us, hl with | [_, _, _, _, _], _ => rfl) (fun f cdv A outer s H vs Q E hgd hr h => ?_)
  · obtain ⟨rw_, wa, sa, oa, ma, rows, others, zs, ys, rfl, _⟩ := h
    rfl
  · obtain ⟨rw_, wa, sa, oa, ma, rows, others, zs, ys, rfl, ro, oo, gz, gy, hrw, hW, hS, hO, hM, q⟩ := h
    refine ⟨_, (pss_cons (ps_set (i := 5) sc__law_equal_right.nd rfl (Or.inr rfl) (pe_makeSK m_Term p_Term0 takes0 (hr.mono (by decide)) rfl g_Term (pa_cons (pv 1) (pa_cons (pv 2) pa_nil)) pk_nil))
      (pss_cons (ps_set (i := 6) sc__law_equal_right.nd rfl (Or.inl rfl) (pe_makeSK m_Term p_Term0 takes0 (hr.mono (by decide)) rfl g_Term (pa_cons (pe_makeS m_Words p_Words___init__ takes0 (hr.mono (by decide)) rfl g_Words (pa_cons (pe_callTy (T := "tuple") (tupleK (K := K)) (by rfl) bt.tuple_ (by decide +kernel) (pa_cons (pv 3) pa_nil)) pa_nil)) (pa_cons (pv 4) pa_nil)) pk_nil))
      (pss_cons (ps_set (i := 7) sc__law_equal_right.nd rfl (Or.inl rfl) (pe_and (pe_cmpR (op_eqDK (K := K) hr.units) (pv 0) (pv 3) (nomark _)) (pe_one (pe_cmpR (op_eqDK (K := K) hr.units) (pv 2) (pv 4) (nomark _)))))
      (pss_cons (ps_if (pt_cmpR op_ne (pe_callB (id := "repr") (reprK (K := K) Y hgd hr.units) (by rfl) bt.repr_ (by decide +kernel) (pa_cons (pe_lst (pa_cons (pe_cmpR (op_eqLR (K := K) mq_Term ap_Term p_Term___eq__ (hr.mono (by decide))) (pv 5) (pv 6) (nomark _)) (pa_cons (pe_cmpR (op_eqLR (K := K) mq_Term ap_Term p_Term___eq__ (hr.mono (by decide))) (pv 6) (pv 5) (nomark _)) (pa_cons (pe_cmpR (op_neLK (K := K) mq_Term ne_Term ap_Term p_Term___eq__ (hr.mono (by decide))) (pv 5) (pv 6) (nomark _)) pa_nil)))) pa_nil)) (pe_callB (id := "repr") (reprK (K := K) Y hgd hr.units) (by rfl) bt.repr_ (by decide +kernel) (pa_cons (pe_lst (pa_cons (pv 7) (pa_cons (pv 7) (pa_cons (pe_not (pv 7)) pa_nil)))) pa_nil)) (nomark _)) (pss_one (ps_ret pe_bl)) pss_nil)
      (pss_cons (ps_if (pt_cmpR op_ne (pe_callB (id := "repr") (reprK (K := K) Y hgd hr.units) (by rfl) bt.repr_ (by decide +kernel) (pa_cons (pe_lst (pa_cons (pe_cmpR (op_inLR (K := K) mq_Term ap_Term p_Term___eq__ (hr.mono (by decide))) (pv 5) (pe_lst (pa_cons pe_non (pa_cons (pv 6) pa_nil))) rfl) (pa_cons (pe_cmpR (op_inLR (K := K) mq_Term ap_Term p_Term___eq__ (hr.mono (by decide))) (pv 6) (pe_lst (pa_cons pe_int (pa_cons (pv 5) (pa_cons pe_str pa_nil)))) rfl) pa_nil))) pa_nil)) (pe_callB (id := "repr") (reprK (K := K) Y hgd hr.units) (by rfl) bt.repr_ (by decide +kernel) (pa_cons (pe_lst (pa_cons (pv 7) (pa_cons (pv 7) pa_nil))) pa_nil)) (nomark _)) (pss_one (ps_ret pe_bl)) pss_nil)
      (pss_cons (ps_set (i := 8) sc__law_equal_right.nd rfl (Or.inl rfl) (pe_lst (pa_cons pe_non (pa_cons (pv 2) (pa_cons (pe_callTy (T := "tuple") (tupleK (K := K)) (by rfl) bt.tuple_ (by decide +kernel) (pa_cons (pv 2) pa_nil)) (pa_cons (pe_joinK (K := K) rfl pe_str (pv 2)) (pa_cons (pv 1) (pa_cons pe_int (pa_cons pe_dnewK (pa_cons pe_bl pa_nil))))))))))
      (pss_one (ps_ret (pe_cmpR (op_eqDK (K := K) hr.units) (pe_lc (own := [("_law_thing", 9)]) (g := gName 9) rfl sc__law_equal_right.nd (pi_listK (K := K) rfl (pv 8)) (blkOk_by (N := ["_law_rows_here", "_law_known", "_law_signs_here", "_law_other", "_law_more", "_law_one", "_law_two", "_law_due_here", "_law_odd", "_law_thing"]) (sc := defScope s__law_equal_right) (by decide +kernel)) (fun _ _ _ _ _ => (pg_name (i := 9) sc__law_equal_right.nd rfl (Or.inl rfl))) (fun _ _ _ _ _ => (pts_one (PW.pt (pw_or (pt_cmpR (op_eqLR (K := K) mq_Term ap_Term p_Term___eq__ (hr.mono (by decide))) (pv 5) (pv 9) (nomark _)) (pw_or (pt_cmpR (op_eqRW (K := K) mq_Term ap_Term p_Term___eq__ (hr.mono (by decide)) mq_Words ap_Words p_Words___eq__ (hr.mono (by decide))) (pv 9) (pv 5) (nomark _)) (pw_or1 (pt_not (pt_cmpR (op_neLK (K := K) mq_Term ne_Term ap_Term p_Term___eq__ (hr.mono (by decide))) (pv 5) (pv 9) (nomark _))))))))) (fun _ _ _ _ _ => (pv 9))) (pe_lst pa_nil) (nomark _)))))))))), ?_⟩
    refine ⟨_, rfl, _, rfl, rfl, rfl, fun a1 dx1 ha1 hdx1 ne1 => made_of ha1 hdx1 ne1 hW ro gz hS fun G1 s1 t1 => ?_⟩
    obtain ⟨_, xo, er, hoL, hoA⟩ := (Dt.same s1 hO).list_inv
    cases er
    refine ⟨_, rfl, oa, _, rfl, .inl ⟨hoL, fun T1 hT1 => ?_⟩⟩
    (generalize hG : L2.upd _ T1 _ = G2; have sT1 := same_of hG hT1; have eT1 := at_of hG; clear hG)
    have s2 := s1.trans sT1
    refine fun wb dxb hwb hdxb neb => words_of oo hwb hdxb neb (.tup (.inl (.inl eT1)) (DtAll.same sT1 hoA)) (.inr rfl) fun G3 s3 hV => ?_
    have s23 := s2.trans s3
    refine ⟨_, rfl, rfl, rfl, fun a2 dx2 ha2 hdx2 ne2 => made_of ha2 hdx2 ne2 hV oo gy (s23.seq hM) fun G4 s4 t2 => ?_⟩
    have s04 := s23.trans s4
    have s14 := (sT1.trans s3).trans s4
    have t14 := t1.same s14
    have n12 : V.ref a1 ≠ V.ref a2 := fun e => by
      cases e
      obtain ⟨dx, fs, e⟩ := (t1.same (sT1.trans s3)).ins
      rw [ha2] at e
      cases e
    clear s14
    obtain ⟨b, eb⟩ : ∃ b, b = (decide (rows = others) && decide (zs = ys)) := ⟨_, rfl⟩
    have eb2 : (decide (others = rows) && decide (ys = zs)) = b := by
      rw [eb]
      congr 1
      · exact decide_eq_decide.mpr eq_comm
      · exact decide_eq_decide.mpr eq_comm
    -- both answers
    refine ⟨_, rfl, _, rfl, rows_eqD (Dt.same s04 hrw) (Dt.same s04 hO) ro oo ⟨_, rfl, ?_⟩⟩
    cases b with
    | true =>
      obtain ⟨hr0, hz0⟩ := Bool.and_eq_true_iff.mp eb.symm
      rw [hr0]
      refine iteT ⟨_, rfl, _, rfl, strs_eq (s04.seq hS) (s04.seq hM) gz.lays gy.lays ?_⟩
      rw [hz0]
      obtain ⟨d1, f1, i1⟩ := t14.ins
      obtain ⟨d2, f2, i2⟩ := t2.ins
      refine ⟨_, rfl, _, rfl, .inl ⟨a1, _, _, rfl, i1, .inr ⟨a2, tcls K, _, _, rfl, i2, .inl rfl⟩, a1, .ref a2, rows, zs, rfl, t14, .inl ⟨a2, others, ys, rfl, t2, fun G5 s5 => ⟨_, rfl, ?_⟩⟩⟩⟩
      rw [← eb]
      replace i1 := s5 _ _ i1
      replace i2 := s5 _ _ i2
      replace t14 := t14.same s5
      replace t2 := t2.same s5
      refine ⟨_, rfl, _, rfl, .inl ⟨a2, _, _, rfl, i2, .inr ⟨a1, tcls K, _, _, rfl, i1, .inl rfl⟩, a2, .ref a1, others, ys, rfl, t2, .inl ⟨a1, rows, zs, rfl, t14, fun G6 s6 => ⟨_, rfl, ?_⟩⟩⟩⟩
      rw [eb2]
      replace i1 := s6 _ _ i1
      replace i2 := s6 _ _ i2
      replace t14 := t14.same s6
      replace t2 := t2.same s6
      refine ⟨_, rfl, _, rfl, a1, _, _, rfl, i1, .inr ⟨a2, tcls K, _, _, rfl, i2, .inl rfl⟩, a1, .ref a2, rows, zs, rfl, t14, .inl ⟨a2, others, ys, rfl, t2, fun G7 s7 => ⟨_, rfl, ?_⟩⟩⟩
      rw [← eb]
      replace i1 := s7 _ _ i1
      replace i2 := s7 _ _ i2
      replace t14 := t14.same s7
      replace t2 := t2.same s7
      have s07 := ((s04.trans s5).trans s6).trans s7
      refine ⟨(by show 3 ≤ sizeLine; decide), fun L1 hL1 => ?_⟩
      (generalize hG : L2.upd _ L1 _ = G8; have sL1 := same_of hG hL1; have eL1 := at_of hG; clear hG)
      have sh3 := show3 true
      refine ⟨.ref L1, .list [.bool true, .bool true, .bool !true], rfl, .lst (.inl (.inl eL1)) (.cons (.bl _) (.cons (.bl _) (.cons (.bl _) .nil))), sh3.ok, sh3.deep, sh3.size, ?_⟩
      refine ⟨_, rfl, _, rfl, _, rfl, _, rfl, (by show 3 ≤ sizeLine; decide), fun Lb hLb => ?_⟩
      (generalize hG : L2.upd _ Lb _ = G9; have sLb := same_of hG hLb; have eLb := at_of hG; clear hG)
      refine ⟨.ref Lb, .list [.bool true, .bool true, .bool !true], rfl, .lst (.inl (.inl eLb)) (.cons (.bl _) (.cons (.bl _) (.cons (.bl _) .nil))), sh3.ok, sh3.deep, sh3.size, rfl, _, rfl, iteF' (by simp) ?_⟩
      have s79 := sL1.trans sLb
      replace i1 := s79 _ _ i1
      replace i2 := s79 _ _ i2
      replace t14 := t14.same s79
      replace t2 := t2.same s79
      have s09 := s07.trans s79
      have nofl : ∀ (l : List V), (l.all fun v => match v with | .flt _ => false | _ => true) = true → ∀ v ∈ l, ∀ b, v ≠ .flt b := fun l hl v hv b e => by
        have := List.all_eq_true.mp hl v hv
        rw [e] at this
        cases this
      refine ⟨_, rfl, _, rfl, (by show 2 ≤ sizeLine; decide), fun L3 hL3 => ?_⟩
      (generalize hG : L2.upd _ L3 _ = G10; have sL3 := same_of hG hL3; have eL3 := at_of hG; clear hG)
      replace i1 := sL3 _ _ i1
      replace i2 := sL3 _ _ i2
      replace t14 := t14.same sL3
      replace t2 := t2.same sL3
      refine ⟨L3, _, rfl, eL3, ⟨a1, rfl⟩, nofl _ rfl, nofun, .inr ⟨.none, a1, _, _, .non, rfl, i1, a1, .non, rows, zs, rfl, t14, .inr ⟨⟨_, (.non : Dt K _ _ (.none)).ty, T.data _⟩, false, rfl, false, rfl, iteF ⟨eL3, n12.symm, .inl ⟨a2, _, _, rfl, i2, .inr ⟨a1, tcls K, _, _, rfl, i1, .inl rfl⟩, a2, .ref a1, others, ys, rfl, t2, .inl ⟨a1, rows, zs, rfl, t14, fun G11 s11 => ⟨_, rfl, _, rfl, ?_⟩⟩⟩⟩⟩⟩⟩
      rw [eb2]
      refine iteT ?_
      replace i1 := s11 _ _ i1
      replace i2 := s11 _ _ i2
      replace t14 := t14.same s11
      replace t2 := t2.same s11
      refine ⟨_, rfl, _, rfl, (by show 3 ≤ sizeLine; decide), fun L4 hL4 => ?_⟩
      (generalize hG : L2.upd _ L4 _ = G12; have sL4 := same_of hG hL4; have eL4 := at_of hG; clear hG)
      replace i1 := sL4 _ _ i1
      replace i2 := sL4 _ _ i2
      replace t14 := t14.same sL4
      replace t2 := t2.same sL4
      refine ⟨L4, _, rfl, eL4, ⟨a2, rfl⟩, nofl _ rfl, nofun, .inr ⟨.int 5, a2, _, _, .int 5, rfl, i2, a2, .int 5, others, ys, rfl, t2, .inr ⟨⟨_, (.int 5 : Dt K _ _ (.int 5)).ty, T.data _⟩, false, rfl, false, rfl, iteF ⟨eL4, n12, .inl ⟨a1, _, _, rfl, i1, .inr ⟨a2, tcls K, _, _, rfl, i2, .inl rfl⟩, a1, .ref a2, rows, zs, rfl, t14, .inl ⟨a2, others, ys, rfl, t2, fun G13 s13 => ⟨_, rfl, _, rfl, ?_⟩⟩⟩⟩⟩⟩⟩
      rw [← eb]
      refine iteT ?_
      replace i1 := s13 _ _ i1
      replace i2 := s13 _ _ i2
      replace t14 := t14.same s13
      replace t2 := t2.same s13
      have s13' := ((sL3.trans s11).trans sL4).trans s13
      have s0d := s09.trans s13'
      refine ⟨(by show 2 ≤ sizeLine; decide), fun L5 hL5 => ?_⟩
      (generalize hG : L2.upd _ L5 _ = G14; have sL5 := same_of hG hL5; have eL5 := at_of hG; clear hG)
      have sh2 := show2 true
      refine ⟨.ref L5, .list [.bool true, .bool true], rfl, .lst (.inl (.inl eL5)) (.cons (.bl _) (.cons (.bl _) .nil)), sh2.ok, sh2.deep, sh2.size, ?_⟩
      refine ⟨_, rfl, _, rfl, (by show 2 ≤ sizeLine; decide), fun L6 hL6 => ?_⟩
      (generalize hG : L2.upd _ L6 _ = G15; have sL6 := same_of hG hL6; have eL6 := at_of hG; clear hG)
      refine ⟨.ref L6, .list [.bool true, .bool true], rfl, .lst (.inl (.inl eL6)) (.cons (.bl _) (.cons (.bl _) .nil)), sh2.ok, sh2.deep, sh2.size, rfl, _, rfl, iteF' (by simp) ?_⟩
      have s56 := sL5.trans sL6
      replace i1 := s56 _ _ i1
      replace i2 := s56 _ _ i2
      replace t14 := t14.same s56
      replace t2 := t2.same s56
      have s0f := s0d.trans s56
      refine ⟨_, rfl, _, rfl, sa, _, rfl, .inl ⟨s0f.seq hS, fun T2 hT2 => ?_⟩⟩
      (generalize hG : L2.upd _ T2 _ = G16; have sT2 := same_of hG hT2; have eT2 := at_of hG; clear hG)
      refine ⟨⟨_, rfl⟩, _, rfl, _, sa, zs, rfl, rfl, .inl ((s0f.trans sT2).seq hS), (by rw [one_blank]; have := gz.sum; omega), _, rfl, fun D2 hD2 => ?_⟩
      (generalize hG : L2.upd _ D2 _ = G17; have sD2 := same_of hG hD2; have eD2 := at_of hG; clear hG)
      refine ⟨(by show 8 ≤ sizeLine; decide), fun LO hLO => ?_⟩
      (generalize hG : L2.upd _ LO _ = G18; have sLO := same_of hG hLO; have eLO := at_of hG; clear hG)
      have s68 := (sT2.trans sD2).trans sLO
      replace i1 := s68 _ _ i1
      replace i2 := s68 _ _ i2
      replace t14 := t14.same s68
      replace t2 := t2.same s68
      have s0i := s0f.trans s68
      have hW8 := hW.same s0i
      obtain ⟨wdx, wD, wkv, w1, w2, w3⟩ := id hW8
      have odd : ∀ v ∈ [V.non, .ref sa, .ref T2, .str (Txt.join " " zs), .ref wa, .int 5, .ref D2, .bl true], (∃ d, Dt K G18 v d) ∨ v = .ref wa := by
        intro v hv
        simp only [List.mem_cons, List.not_mem_nil, or_false] at hv
        rcases hv with rfl | rfl | rfl | rfl | rfl | rfl | rfl | rfl
        · exact .inl ⟨_, .non⟩
        · exact .inl ⟨_, .lst (s0i.seq hS) (dt_strs zs)⟩
        · exact .inl ⟨_, .tup (.inl (.inl (sLO _ _ (sD2 _ _ eT2)))) (dt_strs zs)⟩
        · exact .inl ⟨_, .str _⟩
        · exact .inr rfl
        · exact .inl ⟨_, .int _⟩
        · exact .inl ⟨_, .dct (ks := []) (xs := []) (ds := []) (sLO _ _ eD2) rfl .nil⟩
        · exact .inl ⟨_, .bl _⟩
      refine ⟨_, rfl, LO, rfl, ⟨_, .inl (.inl eLO)⟩, fun R hR => ?_⟩
      refine lc_it walk_list (fun i G => Same G18 G ∧ G R = some (.lst [])) ⟨Same.new (Same.refl _) hR, upd_same ..⟩ (fun i G _ p => p.1.seq (.inl (.inl eLO))) ?_ ?_
      · rintro i x F1 F2 hi ⟨sF, eF⟩ ⟨rfl, hx⟩
        have j1 := sF _ _ i1
        have u1 := t14.same sF
        rcases odd x (List.mem_of_getElem? hx) with ⟨d, hd⟩ | rfl
        · have hd1 := Dt.same sF hd
          have nc : NotC K F2 (tcls K) x := ⟨_, hd1.ty, T.data d⟩
          refine ⟨rfl, _, rfl, _, rfl, .inl ⟨a1, _, _, rfl, j1, .inl ⟨d, hd1⟩, a1, x, rows, zs, rfl, u1, .inr ⟨nc, false, rfl, _, rfl, iteF ?_⟩⟩⟩
          refine ⟨_, rfl, _, rfl, .inl ⟨d, a1, _, _, hd1, rfl, j1, a1, x, rows, zs, rfl, u1, .inr ⟨nc, false, rfl, _, rfl, iteF ?_⟩⟩⟩
          exact ⟨_, rfl, _, rfl, a1, _, _, rfl, j1, .inl ⟨d, hd1⟩, a1, x, rows, zs, rfl, u1, .inr ⟨nc, false, rfl, _, rfl, iteF ⟨sF, eF⟩⟩⟩
        · have v1 := sF _ _ w1
          have nc : NotC K F2 (tcls K) (.ref wa) := ⟨_, TW.ty v1, k1⟩
          have nw : NotC K F2 (wcls K) (.ref a1) := ⟨_, T.ty j1, k2⟩
          refine ⟨rfl, _, rfl, _, rfl, .inl ⟨a1, _, _, rfl, j1, .inr ⟨wa, wcls K, _, _, rfl, v1, .inr b1⟩, a1, .ref wa, rows, zs, rfl, u1, .inr ⟨nc, false, rfl, _, rfl, iteF ?_⟩⟩⟩
          refine ⟨_, rfl, _, rfl, .inr ⟨wa, _, _, rfl, v1, .inr ⟨a1, tcls K, _, _, rfl, j1, .inr b2⟩, wa, .ref a1, rows, rfl, hW8.same sF, ro, .inr ⟨nw, false, rfl, _, rfl, iteF ?_⟩⟩⟩
          exact ⟨_, rfl, _, rfl, a1, _, _, rfl, j1, .inr ⟨wa, wcls K, _, _, rfl, v1, .inr b1⟩, a1, .ref wa, rows, zs, rfl, u1, .inr ⟨nc, false, rfl, _, rfl, iteF ⟨sF, eF⟩⟩⟩
      · rintro F1 ⟨sF, eF⟩
        refine ⟨(by show 0 ≤ sizeLine; decide), fun E1 hE1 => ?_⟩
        (generalize hG : L2.upd _ E1 _ = F2; have sE1 := same_of hG hE1; have eE1 := at_of hG; clear hG)
        exact ⟨.list [], .list [], Dp.lst (.inl (.inl (sE1 _ _ eF))) .nil, Dp.lst (.inl (.inl eE1)) .nil, by decide +kernel, by decide +kernel, q _ ((s0i.trans sF).trans sE1)⟩
    | false =>
      by_cases hrm : rows = others
      · rw [decide_eq_true hrm, Bool.true_and] at eb
        rw [decide_eq_true hrm]
        refine iteT ⟨_, rfl, _, rfl, strs_eq (s04.seq hS) (s04.seq hM) gz.lays gy.lays ?_⟩
        rw [← eb]
        replace eb : false = (decide (rows = others) && decide (zs = ys)) := by rw [← eb, Bool.and_false]
        obtain ⟨d1, f1, i1⟩ := t14.ins
        obtain ⟨d2, f2, i2⟩ := t2.ins
        refine ⟨_, rfl, _, rfl, .inl ⟨a1, _, _, rfl, i1, .inr ⟨a2, tcls K, _, _, rfl, i2, .inl rfl⟩, a1, .ref a2, rows, zs, rfl, t14, .inl ⟨a2, others, ys, rfl, t2, fun G5 s5 => ⟨_, rfl, ?_⟩⟩⟩⟩
        rw [← eb]
        replace i1 := s5 _ _ i1
        replace i2 := s5 _ _ i2
        replace t14 := t14.same s5
        replace t2 := t2.same s5
        refine ⟨_, rfl, _, rfl, .inl ⟨a2, _, _, rfl, i2, .inr ⟨a1, tcls K, _, _, rfl, i1, .inl rfl⟩, a2, .ref a1, others, ys, rfl, t2, .inl ⟨a1, rows, zs, rfl, t14, fun G6 s6 => ⟨_, rfl, ?_⟩⟩⟩⟩
        rw [eb2]
        replace i1 := s6 _ _ i1
        replace i2 := s6 _ _ i2
        replace t14 := t14.same s6
        replace t2 := t2.same s6
        refine ⟨_, rfl, _, rfl, a1, _, _, rfl, i1, .inr ⟨a2, tcls K, _, _, rfl, i2, .inl rfl⟩, a1, .ref a2, rows, zs, rfl, t14, .inl ⟨a2, others, ys, rfl, t2, fun G7 s7 => ⟨_, rfl, ?_⟩⟩⟩
        rw [← eb]
        replace i1 := s7 _ _ i1
        replace i2 := s7 _ _ i2
        replace t14 := t14.same s7
        replace t2 := t2.same s7
        have s07 := ((s04.trans s5).trans s6).trans s7
        refine ⟨(by show 3 ≤ sizeLine; decide), fun L1 hL1 => ?_⟩
        (generalize hG : L2.upd _ L1 _ = G8; have sL1 := same_of hG hL1; have eL1 := at_of hG; clear hG)
        have sh3 := show3 false
        refine ⟨.ref L1, .list [.bool false, .bool false, .bool !false], rfl, .lst (.inl (.inl eL1)) (.cons (.bl _) (.cons (.bl _) (.cons (.bl _) .nil))), sh3.ok, sh3.deep, sh3.size, ?_⟩
        refine ⟨_, rfl, _, rfl, _, rfl, _, rfl, (by show 3 ≤ sizeLine; decide), fun Lb hLb => ?_⟩
        (generalize hG : L2.upd _ Lb _ = G9; have sLb := same_of hG hLb; have eLb := at_of hG; clear hG)
        refine ⟨.ref Lb, .list [.bool false, .bool false, .bool !false], rfl, .lst (.inl (.inl eLb)) (.cons (.bl _) (.cons (.bl _) (.cons (.bl _) .nil))), sh3.ok, sh3.deep, sh3.size, rfl, _, rfl, iteF' (by simp) ?_⟩
        have s79 := sL1.trans sLb
        replace i1 := s79 _ _ i1
        replace i2 := s79 _ _ i2
        replace t14 := t14.same s79
        replace t2 := t2.same s79
        have s09 := s07.trans s79
        have nofl : ∀ (l : List V), (l.all fun v => match v with | .flt _ => false | _ => true) = true → ∀ v ∈ l, ∀ b, v ≠ .flt b := fun l hl v hv b e => by
          have := List.all_eq_true.mp hl v hv
          rw [e] at this
          cases this
        refine ⟨_, rfl, _, rfl, (by show 2 ≤ sizeLine; decide), fun L3 hL3 => ?_⟩
        (generalize hG : L2.upd _ L3 _ = G10; have sL3 := same_of hG hL3; have eL3 := at_of hG; clear hG)
        replace i1 := sL3 _ _ i1
        replace i2 := sL3 _ _ i2
        replace t14 := t14.same sL3
        replace t2 := t2.same sL3
        refine ⟨L3, _, rfl, eL3, ⟨a1, rfl⟩, nofl _ rfl, nofun, .inr ⟨.none, a1, _, _, .non, rfl, i1, a1, .non, rows, zs, rfl, t14, .inr ⟨⟨_, (.non : Dt K _ _ (.none)).ty, T.data _⟩, false, rfl, false, rfl, iteF ⟨eL3, n12.symm, .inl ⟨a2, _, _, rfl, i2, .inr ⟨a1, tcls K, _, _, rfl, i1, .inl rfl⟩, a2, .ref a1, others, ys, rfl, t2, .inl ⟨a1, rows, zs, rfl, t14, fun G11 s11 => ⟨_, rfl, _, rfl, ?_⟩⟩⟩⟩⟩⟩⟩
        rw [eb2]
        refine iteF ⟨s11 _ _ eL3, ?_⟩
        replace i1 := s11 _ _ i1
        replace i2 := s11 _ _ i2
        replace t14 := t14.same s11
        replace t2 := t2.same s11
        refine ⟨_, rfl, _, rfl, (by show 3 ≤ sizeLine; decide), fun L4 hL4 => ?_⟩
        (generalize hG : L2.upd _ L4 _ = G12; have sL4 := same_of hG hL4; have eL4 := at_of hG; clear hG)
        replace i1 := sL4 _ _ i1
        replace i2 := sL4 _ _ i2
        replace t14 := t14.same sL4
        replace t2 := t2.same sL4
        refine ⟨L4, _, rfl, eL4, ⟨a2, rfl⟩, nofl _ rfl, nofun, .inr ⟨.int 5, a2, _, _, .int 5, rfl, i2, a2, .int 5, others, ys, rfl, t2, .inr ⟨⟨_, (.int 5 : Dt K _ _ (.int 5)).ty, T.data _⟩, false, rfl, false, rfl, iteF ⟨eL4, n12, .inl ⟨a1, _, _, rfl, i1, .inr ⟨a2, tcls K, _, _, rfl, i2, .inl rfl⟩, a1, .ref a2, rows, zs, rfl, t14, .inl ⟨a2, others, ys, rfl, t2, fun G13 s13 => ⟨_, rfl, _, rfl, ?_⟩⟩⟩⟩⟩⟩⟩
        rw [← eb]
        replace eL4 := s13 _ _ eL4
        replace i1 := s13 _ _ i1
        replace i2 := s13 _ _ i2
        replace t14 := t14.same s13
        replace t2 := t2.same s13
        refine iteF ⟨eL4, nofun, .inr ⟨.str "", a2, _, _, .str "", rfl, i2, a2, .str "", others, ys, rfl, t2, .inr ⟨⟨_, (.str "" : Dt K _ _ (.str "")).ty, T.data _⟩, false, rfl, false, rfl, iteF ⟨eL4, ?_⟩⟩⟩⟩
        have s13' := ((sL3.trans s11).trans sL4).trans s13
        have s0d := s09.trans s13'
        refine ⟨(by show 2 ≤ sizeLine; decide), fun L5 hL5 => ?_⟩
        (generalize hG : L2.upd _ L5 _ = G14; have sL5 := same_of hG hL5; have eL5 := at_of hG; clear hG)
        have sh2 := show2 false
        refine ⟨.ref L5, .list [.bool false, .bool false], rfl, .lst (.inl (.inl eL5)) (.cons (.bl _) (.cons (.bl _) .nil)), sh2.ok, sh2.deep, sh2.size, ?_⟩
        refine ⟨_, rfl, _, rfl, (by show 2 ≤ sizeLine; decide), fun L6 hL6 => ?_⟩
        (generalize hG : L2.upd _ L6 _ = G15; have sL6 := same_of hG hL6; have eL6 := at_of hG; clear hG)
        refine ⟨.ref L6, .list [.bool false, .bool false], rfl, .lst (.inl (.inl eL6)) (.cons (.bl _) (.cons (.bl _) .nil)), sh2.ok, sh2.deep, sh2.size, rfl, _, rfl, iteF' (by simp) ?_⟩
        have s56 := sL5.trans sL6
        replace i1 := s56 _ _ i1
        replace i2 := s56 _ _ i2
        replace t14 := t14.same s56
        replace t2 := t2.same s56
        have s0f := s0d.trans s56
        refine ⟨_, rfl, _, rfl, sa, _, rfl, .inl ⟨s0f.seq hS, fun T2 hT2 => ?_⟩⟩
        (generalize hG : L2.upd _ T2 _ = G16; have sT2 := same_of hG hT2; have eT2 := at_of hG; clear hG)
        refine ⟨⟨_, rfl⟩, _, rfl, _, sa, zs, rfl, rfl, .inl ((s0f.trans sT2).seq hS), (by rw [one_blank]; have := gz.sum; omega), _, rfl, fun D2 hD2 => ?_⟩
        (generalize hG : L2.upd _ D2 _ = G17; have sD2 := same_of hG hD2; have eD2 := at_of hG; clear hG)
        refine ⟨(by show 8 ≤ sizeLine; decide), fun LO hLO => ?_⟩
        (generalize hG : L2.upd _ LO _ = G18; have sLO := same_of hG hLO; have eLO := at_of hG; clear hG)
        have s68 := (sT2.trans sD2).trans sLO
        replace i1 := s68 _ _ i1
        replace i2 := s68 _ _ i2
        replace t14 := t14.same s68
        replace t2 := t2.same s68
        have s0i := s0f.trans s68
        have hW8 := hW.same s0i
        obtain ⟨wdx, wD, wkv, w1, w2, w3⟩ := id hW8
        have odd : ∀ v ∈ [V.non, .ref sa, .ref T2, .str (Txt.join " " zs), .ref wa, .int 5, .ref D2, .bl true], (∃ d, Dt K G18 v d) ∨ v = .ref wa := by
          intro v hv
          simp only [List.mem_cons, List.not_mem_nil, or_false] at hv
          rcases hv with rfl | rfl | rfl | rfl | rfl | rfl | rfl | rfl
          · exact .inl ⟨_, .non⟩
          · exact .inl ⟨_, .lst (s0i.seq hS) (dt_strs zs)⟩
          · exact .inl ⟨_, .tup (.inl (.inl (sLO _ _ (sD2 _ _ eT2)))) (dt_strs zs)⟩
          · exact .inl ⟨_, .str _⟩
          · exact .inr rfl
          · exact .inl ⟨_, .int _⟩
          · exact .inl ⟨_, .dct (ks := []) (xs := []) (ds := []) (sLO _ _ eD2) rfl .nil⟩
          · exact .inl ⟨_, .bl _⟩
        refine ⟨_, rfl, LO, rfl, ⟨_, .inl (.inl eLO)⟩, fun R hR => ?_⟩
        refine lc_it walk_list (fun i G => Same G18 G ∧ G R = some (.lst [])) ⟨Same.new (Same.refl _) hR, upd_same ..⟩ (fun i G _ p => p.1.seq (.inl (.inl eLO))) ?_ ?_
        · rintro i x F1 F2 hi ⟨sF, eF⟩ ⟨rfl, hx⟩
          have j1 := sF _ _ i1
          have u1 := t14.same sF
          rcases odd x (List.mem_of_getElem? hx) with ⟨d, hd⟩ | rfl
          · have hd1 := Dt.same sF hd
            have nc : NotC K F2 (tcls K) x := ⟨_, hd1.ty, T.data d⟩
            refine ⟨rfl, _, rfl, _, rfl, .inl ⟨a1, _, _, rfl, j1, .inl ⟨d, hd1⟩, a1, x, rows, zs, rfl, u1, .inr ⟨nc, false, rfl, _, rfl, iteF ?_⟩⟩⟩
            refine ⟨_, rfl, _, rfl, .inl ⟨d, a1, _, _, hd1, rfl, j1, a1, x, rows, zs, rfl, u1, .inr ⟨nc, false, rfl, _, rfl, iteF ?_⟩⟩⟩
            exact ⟨_, rfl, _, rfl, a1, _, _, rfl, j1, .inl ⟨d, hd1⟩, a1, x, rows, zs, rfl, u1, .inr ⟨nc, false, rfl, _, rfl, iteF ⟨sF, eF⟩⟩⟩
          · have v1 := sF _ _ w1
            have nc : NotC K F2 (tcls K) (.ref wa) := ⟨_, TW.ty v1, k1⟩
            have nw : NotC K F2 (wcls K) (.ref a1) := ⟨_, T.ty j1, k2⟩
            refine ⟨rfl, _, rfl, _, rfl, .inl ⟨a1, _, _, rfl, j1, .inr ⟨wa, wcls K, _, _, rfl, v1, .inr b1⟩, a1, .ref wa, rows, zs, rfl, u1, .inr ⟨nc, false, rfl, _, rfl, iteF ?_⟩⟩⟩
            refine ⟨_, rfl, _, rfl, .inr ⟨wa, _, _, rfl, v1, .inr ⟨a1, tcls K, _, _, rfl, j1, .inr b2⟩, wa, .ref a1, rows, rfl, hW8.same sF, ro, .inr ⟨nw, false, rfl, _, rfl, iteF ?_⟩⟩⟩
            exact ⟨_, rfl, _, rfl, a1, _, _, rfl, j1, .inr ⟨wa, wcls K, _, _, rfl, v1, .inr b1⟩, a1, .ref wa, rows, zs, rfl, u1, .inr ⟨nc, false, rfl, _, rfl, iteF ⟨sF, eF⟩⟩⟩
        · rintro F1 ⟨sF, eF⟩
          refine ⟨(by show 0 ≤ sizeLine; decide), fun E1 hE1 => ?_⟩
          (generalize hG : L2.upd _ E1 _ = F2; have sE1 := same_of hG hE1; have eE1 := at_of hG; clear hG)
          exact ⟨.list [], .list [], Dp.lst (.inl (.inl (sE1 _ _ eF))) .nil, Dp.lst (.inl (.inl eE1)) .nil, by decide +kernel, by decide +kernel, q _ ((s0i.trans sF).trans sE1)⟩
      · rw [decide_eq_false hrm]
        refine iteF ?_
        obtain ⟨d1, f1, i1⟩ := t14.ins
        obtain ⟨d2, f2, i2⟩ := t2.ins
        refine ⟨_, rfl, _, rfl, .inl ⟨a1, _, _, rfl, i1, .inr ⟨a2, tcls K, _, _, rfl, i2, .inl rfl⟩, a1, .ref a2, rows, zs, rfl, t14, .inl ⟨a2, others, ys, rfl, t2, fun G5 s5 => ⟨_, rfl, ?_⟩⟩⟩⟩
        rw [← eb]
        replace i1 := s5 _ _ i1
        replace i2 := s5 _ _ i2
        replace t14 := t14.same s5
        replace t2 := t2.same s5
        refine ⟨_, rfl, _, rfl, .inl ⟨a2, _, _, rfl, i2, .inr ⟨a1, tcls K, _, _, rfl, i1, .inl rfl⟩, a2, .ref a1, others, ys, rfl, t2, .inl ⟨a1, rows, zs, rfl, t14, fun G6 s6 => ⟨_, rfl, ?_⟩⟩⟩⟩
        rw [eb2]
        replace i1 := s6 _ _ i1
        replace i2 := s6 _ _ i2
        replace t14 := t14.same s6
        replace t2 := t2.same s6
        refine ⟨_, rfl, _, rfl, a1, _, _, rfl, i1, .inr ⟨a2, tcls K, _, _, rfl, i2, .inl rfl⟩, a1, .ref a2, rows, zs, rfl, t14, .inl ⟨a2, others, ys, rfl, t2, fun G7 s7 => ⟨_, rfl, ?_⟩⟩⟩
        rw [← eb]
        replace i1 := s7 _ _ i1
        replace i2 := s7 _ _ i2
        replace t14 := t14.same s7
        replace t2 := t2.same s7
        have s07 := ((s04.trans s5).trans s6).trans s7
        refine ⟨(by show 3 ≤ sizeLine; decide), fun L1 hL1 => ?_⟩
        (generalize hG : L2.upd _ L1 _ = G8; have sL1 := same_of hG hL1; have eL1 := at_of hG; clear hG)
        have sh3 := show3 false
        refine ⟨.ref L1, .list [.bool false, .bool false, .bool !false], rfl, .lst (.inl (.inl eL1)) (.cons (.bl _) (.cons (.bl _) (.cons (.bl _) .nil))), sh3.ok, sh3.deep, sh3.size, ?_⟩
        refine ⟨_, rfl, _, rfl, _, rfl, _, rfl, (by show 3 ≤ sizeLine; decide), fun Lb hLb => ?_⟩
        (generalize hG : L2.upd _ Lb _ = G9; have sLb := same_of hG hLb; have eLb := at_of hG; clear hG)
        refine ⟨.ref Lb, .list [.bool false, .bool false, .bool !false], rfl, .lst (.inl (.inl eLb)) (.cons (.bl _) (.cons (.bl _) (.cons (.bl _) .nil))), sh3.ok, sh3.deep, sh3.size, rfl, _, rfl, iteF' (by simp) ?_⟩
        have s79 := sL1.trans sLb
        replace i1 := s79 _ _ i1
        replace i2 := s79 _ _ i2
        replace t14 := t14.same s79
        replace t2 := t2.same s79
        have s09 := s07.trans s79
        have nofl : ∀ (l : List V), (l.all fun v => match v with | .flt _ => false | _ => true) = true → ∀ v ∈ l, ∀ b, v ≠ .flt b := fun l hl v hv b e => by
          have := List.all_eq_true.mp hl v hv
          rw [e] at this
          cases this
        refine ⟨_, rfl, _, rfl, (by show 2 ≤ sizeLine; decide), fun L3 hL3 => ?_⟩
        (generalize hG : L2.upd _ L3 _ = G10; have sL3 := same_of hG hL3; have eL3 := at_of hG; clear hG)
        replace i1 := sL3 _ _ i1
        replace i2 := sL3 _ _ i2
        replace t14 := t14.same sL3
        replace t2 := t2.same sL3
        refine ⟨L3, _, rfl, eL3, ⟨a1, rfl⟩, nofl _ rfl, nofun, .inr ⟨.none, a1, _, _, .non, rfl, i1, a1, .non, rows, zs, rfl, t14, .inr ⟨⟨_, (.non : Dt K _ _ (.none)).ty, T.data _⟩, false, rfl, false, rfl, iteF ⟨eL3, n12.symm, .inl ⟨a2, _, _, rfl, i2, .inr ⟨a1, tcls K, _, _, rfl, i1, .inl rfl⟩, a2, .ref a1, others, ys, rfl, t2, .inl ⟨a1, rows, zs, rfl, t14, fun G11 s11 => ⟨_, rfl, _, rfl, ?_⟩⟩⟩⟩⟩⟩⟩
        rw [eb2]
        refine iteF ⟨s11 _ _ eL3, ?_⟩
        replace i1 := s11 _ _ i1
        replace i2 := s11 _ _ i2
        replace t14 := t14.same s11
        replace t2 := t2.same s11
        refine ⟨_, rfl, _, rfl, (by show 3 ≤ sizeLine; decide), fun L4 hL4 => ?_⟩
        (generalize hG : L2.upd _ L4 _ = G12; have sL4 := same_of hG hL4; have eL4 := at_of hG; clear hG)
        replace i1 := sL4 _ _ i1
        replace i2 := sL4 _ _ i2
        replace t14 := t14.same sL4
        replace t2 := t2.same sL4
        refine ⟨L4, _, rfl, eL4, ⟨a2, rfl⟩, nofl _ rfl, nofun, .inr ⟨.int 5, a2, _, _, .int 5, rfl, i2, a2, .int 5, others, ys, rfl, t2, .inr ⟨⟨_, (.int 5 : Dt K _ _ (.int 5)).ty, T.data _⟩, false, rfl, false, rfl, iteF ⟨eL4, n12, .inl ⟨a1, _, _, rfl, i1, .inr ⟨a2, tcls K, _, _, rfl, i2, .inl rfl⟩, a1, .ref a2, rows, zs, rfl, t14, .inl ⟨a2, others, ys, rfl, t2, fun G13 s13 => ⟨_, rfl, _, rfl, ?_⟩⟩⟩⟩⟩⟩⟩
        rw [← eb]
        replace eL4 := s13 _ _ eL4
        replace i1 := s13 _ _ i1
        replace i2 := s13 _ _ i2
        replace t14 := t14.same s13
        replace t2 := t2.same s13
        refine iteF ⟨eL4, nofun, .inr ⟨.str "", a2, _, _, .str "", rfl, i2, a2, .str "", others, ys, rfl, t2, .inr ⟨⟨_, (.str "" : Dt K _ _ (.str "")).ty, T.data _⟩, false, rfl, false, rfl, iteF ⟨eL4, ?_⟩⟩⟩⟩
        have s13' := ((sL3.trans s11).trans sL4).trans s13
        have s0d := s09.trans s13'
        refine ⟨(by show 2 ≤ sizeLine; decide), fun L5 hL5 => ?_⟩
        (generalize hG : L2.upd _ L5 _ = G14; have sL5 := same_of hG hL5; have eL5 := at_of hG; clear hG)
        have sh2 := show2 false
        refine ⟨.ref L5, .list [.bool false, .bool false], rfl, .lst (.inl (.inl eL5)) (.cons (.bl _) (.cons (.bl _) .nil)), sh2.ok, sh2.deep, sh2.size, ?_⟩
        refine ⟨_, rfl, _, rfl, (by show 2 ≤ sizeLine; decide), fun L6 hL6 => ?_⟩
        (generalize hG : L2.upd _ L6 _ = G15; have sL6 := same_of hG hL6; have eL6 := at_of hG; clear hG)
        refine ⟨.ref L6, .list [.bool false, .bool false], rfl, .lst (.inl (.inl eL6)) (.cons (.bl _) (.cons (.bl _) .nil)), sh2.ok, sh2.deep, sh2.size, rfl, _, rfl, iteF' (by simp) ?_⟩
        have s56 := sL5.trans sL6
        replace i1 := s56 _ _ i1
        replace i2 := s56 _ _ i2
        replace t14 := t14.same s56
        replace t2 := t2.same s56
        have s0f := s0d.trans s56
        refine ⟨_, rfl, _, rfl, sa, _, rfl, .inl ⟨s0f.seq hS, fun T2 hT2 => ?_⟩⟩
        (generalize hG : L2.upd _ T2 _ = G16; have sT2 := same_of hG hT2; have eT2 := at_of hG; clear hG)
        refine ⟨⟨_, rfl⟩, _, rfl, _, sa, zs, rfl, rfl, .inl ((s0f.trans sT2).seq hS), (by rw [one_blank]; have := gz.sum; omega), _, rfl, fun D2 hD2 => ?_⟩
        (generalize hG : L2.upd _ D2 _ = G17; have sD2 := same_of hG hD2; have eD2 := at_of hG; clear hG)
        refine ⟨(by show 8 ≤ sizeLine; decide), fun LO hLO => ?_⟩
        (generalize hG : L2.upd _ LO _ = G18; have sLO := same_of hG hLO; have eLO := at_of hG; clear hG)
        have s68 := (sT2.trans sD2).trans sLO
        replace i1 := s68 _ _ i1
        replace i2 := s68 _ _ i2
        replace t14 := t14.same s68
        replace t2 := t2.same s68
        have s0i := s0f.trans s68
        have hW8 := hW.same s0i
        obtain ⟨wdx, wD, wkv, w1, w2, w3⟩ := id hW8
        have odd : ∀ v ∈ [V.non, .ref sa, .ref T2, .str (Txt.join " " zs), .ref wa, .int 5, .ref D2, .bl true], (∃ d, Dt K G18 v d) ∨ v = .ref wa := by
          intro v hv
          simp only [List.mem_cons, List.not_mem_nil, or_false] at hv
          rcases hv with rfl | rfl | rfl | rfl | rfl | rfl | rfl | rfl
          · exact .inl ⟨_, .non⟩
          · exact .inl ⟨_, .lst (s0i.seq hS) (dt_strs zs)⟩
          · exact .inl ⟨_, .tup (.inl (.inl (sLO _ _ (sD2 _ _ eT2)))) (dt_strs zs)⟩
          · exact .inl ⟨_, .str _⟩
          · exact .inr rfl
          · exact .inl ⟨_, .int _⟩
          · exact .inl ⟨_, .dct (ks := []) (xs := []) (ds := []) (sLO _ _ eD2) rfl .nil⟩
          · exact .inl ⟨_, .bl _⟩
        refine ⟨_, rfl, LO, rfl, ⟨_, .inl (.inl eLO)⟩, fun R hR => ?_⟩
        refine lc_it walk_list (fun i G => Same G18 G ∧ G R = some (.lst [])) ⟨Same.new (Same.refl _) hR, upd_same ..⟩ (fun i G _ p => p.1.seq (.inl (.inl eLO))) ?_ ?_
        · rintro i x F1 F2 hi ⟨sF, eF⟩ ⟨rfl, hx⟩
          have j1 := sF _ _ i1
          have u1 := t14.same sF
          rcases odd x (List.mem_of_getElem? hx) with ⟨d, hd⟩ | rfl
          · have hd1 := Dt.same sF hd
            have nc : NotC K F2 (tcls K) x := ⟨_, hd1.ty, T.data d⟩
            refine ⟨rfl, _, rfl, _, rfl, .inl ⟨a1, _, _, rfl, j1, .inl ⟨d, hd1⟩, a1, x, rows, zs, rfl, u1, .inr ⟨nc, false, rfl, _, rfl, iteF ?_⟩⟩⟩
            refine ⟨_, rfl, _, rfl, .inl ⟨d, a1, _, _, hd1, rfl, j1, a1, x, rows, zs, rfl, u1, .inr ⟨nc, false, rfl, _, rfl, iteF ?_⟩⟩⟩
            exact ⟨_, rfl, _, rfl, a1, _, _, rfl, j1, .inl ⟨d, hd1⟩, a1, x, rows, zs, rfl, u1, .inr ⟨nc, false, rfl, _, rfl, iteF ⟨sF, eF⟩⟩⟩
          · have v1 := sF _ _ w1
            have nc : NotC K F2 (tcls K) (.ref wa) := ⟨_, TW.ty v1, k1⟩
            have nw : NotC K F2 (wcls K) (.ref a1) := ⟨_, T.ty j1, k2⟩
            refine ⟨rfl, _, rfl, _, rfl, .inl ⟨a1, _, _, rfl, j1, .inr ⟨wa, wcls K, _, _, rfl, v1, .inr b1⟩, a1, .ref wa, rows, zs, rfl, u1, .inr ⟨nc, false, rfl, _, rfl, iteF ?_⟩⟩⟩
            refine ⟨_, rfl, _, rfl, .inr ⟨wa, _, _, rfl, v1, .inr ⟨a1, tcls K, _, _, rfl, j1, .inr b2⟩, wa, .ref a1, rows, rfl, hW8.same sF, ro, .inr ⟨nw, false, rfl, _, rfl, iteF ?_⟩⟩⟩
            exact ⟨_, rfl, _, rfl, a1, _, _, rfl, j1, .inr ⟨wa, wcls K, _, _, rfl, v1, .inr b1⟩, a1, .ref wa, rows, zs, rfl, u1, .inr ⟨nc, false, rfl, _, rfl, iteF ⟨sF, eF⟩⟩⟩
        · rintro F1 ⟨sF, eF⟩
          refine ⟨(by show 0 ≤ sizeLine; decide), fun E1 hE1 => ?_⟩
          (generalize hG : L2.upd _ E1 _ = F2; have sE1 := same_of hG hE1; have eE1 := at_of hG; clear hG)
          exact ⟨.list [], .list [], Dp.lst (.inl (.inl (sE1 _ _ eF))) .nil, Dp.lst (.inl (.inl eE1)) .nil, by decide +kernel, by decide +kernel, q _ ((s0i.trans sF).trans sE1)⟩
end

end TS

namespace TS
open PySem PySem.Spec PyProof.Rows L2 TL
/-! ### letters, drawn -/
def lokB (z : Str) : Bool := letterL (tl z) && (smB 2 30 (.str z) && (PyData.str z).canLay0)
def LtrsOk (ls : List Str) : Prop := ls.length = 5 ∧ ∀ z ∈ ls, lokB z = true
def capsL : List Nat := ("ABCDEFGHIJKLMNOPQRSTUVWXYZ" : Str).cps.toList
theorem lok_one : ∀ c ∈ capsL, (lokB ⟨#[c]⟩ && (lokB (⟨#[c]⟩ ++ "0") && (lokB (⟨#[c]⟩ ++ "9") && (lokB (⟨#[c]⟩ ++ "10") && lokB (⟨#[c]⟩ ++ "99"))))) = true := by decide +kernel
theorem lok_n : ∀ z ∈ (["N0", "N1", "N2", "N10", "N"] : List Str), lokB z = true := by decide +kernel
theorem lok_num : ∀ c ∈ capsL, ∀ k ∈ List.range 100, (lokB (⟨#[c]⟩ ++ (toString (k : Int) : String)) && lokB (⟨#[c]⟩ ++ "")) = true := by decide +kernel
theorem every_at {x : Int} (h0 : 0 ≤ x) (h1 : x < 26) : ∃ c, atI ("ABCDEFGHIJKLMNOPQRSTUVWXYZ" : Str).cps.toList x = some c ∧ c ∈ capsL := atI_in (xs := ("ABCDEFGHIJKLMNOPQRSTUVWXYZ" : Str).cps.toList) h0 (by
  have : (("ABCDEFGHIJKLMNOPQRSTUVWXYZ" : Str).cps.toList.length : Int) = 26 := by decide +kernel
  omega)
theorem one_len {c : Nat} {z : Str} (h : z.length ≤ 1000) : (⟨#[c]⟩ : Str).length + z.length ≤ sizeLine := by
  show 1 + z.length ≤ sizeLine
  exact sz5 (by omega)
def spLtrs (K : PySem.W.Frag) : Sp := fun vs H Q _ => ∃ (b : Addr) (n : Nat), vs = [.ref b] ∧ (∃ o, H b = some o ∧ Bag (n + 17) o) ∧
  ∀ H' p ls, Dr b n H H' → LtrsOk ls → H p = none → p ≠ b → H' p = some (.lst (ls.map V.str)) → Q (.ref p) H'
theorem lstrs_of : ∀ (xs : List V), (∀ (i : Nat) (v : V), xs[i]? = some v → ∃ z, v = .str z ∧ lokB z = true) → ∃ ls : List Str, xs = ls.map V.str ∧ ∀ z ∈ ls, lokB z = true
  | [], _ => ⟨[], rfl, by simp⟩
  | x :: r, h => by
    obtain ⟨z, rfl, hz⟩ := h 0 x rfl
    obtain ⟨ls, e, a⟩ := lstrs_of r fun i v hv => h (i + 1) v (by simpa using hv)
    exact ⟨z :: ls, by rw [e]; rfl, fun y hy => (List.mem_cons.mp hy).elim (fun e => by rw [e]; exact hz) (a y)⟩
section
variable {P : Program} {w : World} {K : PySem.W.Frag} {mg : Str → Option Value} {base : Heap}
abbrev s__law_letters : Stmt := top 46
theorem sc__law_letters : FnScope ["_law_box_here", "_law_every", "_law_way", "_law_one", "_law_k"] ["_law_box_here"] (defScope s__law_letters) := ⟨rfl, rfl, rfl, by decide +kernel, rfl, by decide +kernel, by decide +kernel⟩

set_option maxHeartbeats 800000 in
theorem ok_ltrs (bt : Bt mg) (p__law_take : Prom P w K mg base 1 "_law_take" ["_law_box_here", "_law_many"] spTake) (D : Def K mg "_law_letters" s__law_letters) : Prom P w K mg base 2 "_law_letters" ["_law_box_here"] (spLtrs K) := by
  refine prom_mk D sc__law_letters (fun vs H Q E h => ?_) (fun _ _ _ _ _ _ us hl => match us, hl with | [_], _ => rfl) (fun f cdv A outer s H vs Q E hr h => ?_)
  · obtain ⟨b, n, rfl, _⟩ := h
    rfl
  · obtain ⟨b, n, rfl, hb, q⟩ := h
    refine ⟨_, (pss_cons (ps_set (i := 1) sc__law_letters.nd rfl (Or.inr rfl) pe_str)
      (pss_cons (ps_set (i := 2) sc__law_letters.nd rfl (Or.inl rfl) (pe_pc p__law_take (hr.mono (by decide)) rfl (pa_cons (pv 0) (pa_cons pe_int pa_nil))))
      (pss_cons (ps_set (i := 3) sc__law_letters.nd rfl (Or.inl rfl) (pe_ix ix_str (pv 1) (pe_pc p__law_take (hr.mono (by decide)) rfl (pa_cons (pv 0) (pa_cons pe_int pa_nil))) (fun _ _ => rfl)))
      (pss_cons (ps_if (pt_cmpR op_eq (pv 2) pe_int (nomark _)) (pss_one (ps_ret (pe_lst (pa_cons (pv 3) (pa_cons (pe_op op_add_str (pv 3) pe_str) (pa_cons (pe_op op_add_str (pv 3) pe_str) (pa_cons (pe_op op_add_str (pv 3) pe_str) (pa_cons (pe_op op_add_str (pv 3) pe_str) pa_nil)))))))) pss_nil)
      (pss_cons (ps_if (pt_cmpR op_eq (pv 2) pe_int (nomark _)) (pss_one (ps_ret (pe_lst (pa_cons pe_str (pa_cons pe_str (pa_cons pe_str (pa_cons pe_str (pa_cons pe_str pa_nil)))))))) pss_nil)
      (pss_one (ps_ret (pe_lc (own := [("_law_k", 4)]) (g := gName 4) rfl sc__law_letters.nd (pi_range1 rfl bt.range_ (pa_cons pe_int pa_nil)) (blkOk_by (N := ["_law_box_here", "_law_every", "_law_way", "_law_one", "_law_k"]) (sc := defScope s__law_letters) (by decide +kernel)) (fun _ _ _ _ _ => (pg_name (i := 4) sc__law_letters.nd rfl (Or.inl rfl))) (fun _ _ _ _ _ => pts_nil) (fun _ _ _ _ _ => (pe_op op_add_str (pe_ix ix_str (pv 1) (pe_pc p__law_take (hr.mono (by decide)) rfl (pa_cons (pv 0) (pa_cons pe_int pa_nil))) (fun _ _ => rfl)) (pe_ix (ix_listK (K := K)) (pe_lst (pa_cons pe_str (pa_cons (pe_callTy (T := "str") call_str_int (by rfl) bt.str_ (by decide +kernel) (pa_cons (pe_pc p__law_take (hr.mono (by decide)) rfl (pa_cons (pv 0) (pa_cons pe_int pa_nil))) pa_nil)) pa_nil))) (pe_pc p__law_take (hr.mono (by decide)) rfl (pa_cons (pv 0) (pa_cons pe_int pa_nil))) (fun _ _ => rfl)))))))))))), ?_⟩
    refine ⟨_, rfl, b, _, n + 16, 3, rfl, hb.choose_spec.1, hb.choose_spec.2, by decide, by decide +kernel, fun way o1 w0 w3 g1 => ?_⟩
    (generalize hG : L2.upd _ b _ = H1; have d1 := dr_of hG g1; clear hG)
    refine ⟨_, rfl, _, rfl, b, _, n + 15, 26, rfl, d1.bag.choose_spec.1, d1.bag.choose_spec.2, by decide, by decide +kernel, fun x o2 x0 x26 g2 => ?_⟩
    (generalize hG : L2.upd _ b _ = H2; have d2 := dr_of hG g2; clear hG)
    obtain ⟨c, hc, hcm⟩ := every_at x0 x26
    have D2 := (d1.trans d2).mono (n := n) (by omega)
    have hone := lok_one c hcm
    simp only [Bool.and_eq_true] at hone
    refine ⟨_, _, c, rfl, rfl, by decide +kernel, hc, ?_⟩
    refine ⟨_, rfl, rfl, _, rfl, ite2 (fun c0 => ?_) (fun c0 => ?_)⟩
    · refine ⟨_, rfl, _, rfl, _, _, rfl, rfl, one_len (by decide +kernel), _, rfl, _, _, rfl, rfl, one_len (by decide +kernel), _, rfl, _, _, rfl, rfl, one_len (by decide +kernel), _, rfl, _, _, rfl, rfl, one_len (by decide +kernel), (by show 5 ≤ sizeLine; decide), fun p hp => ?_⟩
      exact q _ p [⟨#[c]⟩, ⟨#[c]⟩ ++ "0", ⟨#[c]⟩ ++ "9", ⟨#[c]⟩ ++ "10", ⟨#[c]⟩ ++ "99"] (D2.new hp) ⟨rfl, fun z hz => by
        simp only [List.mem_cons, List.not_mem_nil, or_false] at hz
        rcases hz with rfl | rfl | rfl | rfl | rfl
        · exact hone.1
        · exact hone.2.1
        · exact hone.2.2.1
        · exact hone.2.2.2.1
        · exact hone.2.2.2.2⟩ (D2.free hp) (D2.ne hp) (upd_same ..)
    · refine ⟨_, rfl, rfl, _, rfl, ite2 (fun c1 => ?_) (fun c1 => ?_)⟩
      · exact ⟨(by show 5 ≤ sizeLine; decide), fun p hp => q _ p ["N0", "N1", "N2", "N10", "N"] (D2.new hp) ⟨rfl, lok_n⟩ (D2.free hp) (D2.ne hp) (upd_same ..)⟩
      · refine ⟨_, rfl, by decide, by decide, fun R hR => lc_draw (k := 3) (N := n) walk_range (fun i G v => ∃ z, v = .str z ∧ lokB z = true) (fun i G G' v s h => h) (fun _ _ => trivial) (by decide) hR (d2.bag) (fun _ => rfl) (fun i k G C hi fx hb3 hD3 kk => ?_) (fun G xs dG hlx hx eR neR => ?_)⟩
        · refine ⟨_, rfl, _, rfl, b, _, k + 2, 26, rfl, hb3.choose_spec.1, hb3.choose_spec.2, by decide, by decide +kernel, fun x3 o3 y0 y26 g3 => ?_⟩
          (generalize hG : L2.upd _ b _ = G3; have e3 := dr_of hG g3; clear hG)
          obtain ⟨c3, hc3, hcm3⟩ := every_at y0 y26
          refine ⟨_, _, c3, rfl, rfl, by decide +kernel, hc3, ?_⟩
          refine ⟨_, rfl, b, _, k + 1, 100, rfl, e3.bag.choose_spec.1, e3.bag.choose_spec.2, by decide, by decide +kernel, fun x4 o4 z0 z100 g4 => ?_⟩
          (generalize hG : L2.upd _ b _ = G4; have e4 := dr_of hG g4; clear hG)
          obtain ⟨m, hm, hm100⟩ : ∃ m : Nat, x4 = (m : Int) ∧ m < 100 := ⟨x4.toNat, by omega, by omega⟩
          subst hm
          refine ⟨_, rfl, (by decide +kernel : ∀ m : Nat, m < 100 → ((m : Int)).natAbs.log2 < 1920) m hm100, (by show 2 ≤ sizeLine; decide), fun L hL => ?_⟩
          have E4 := e3.trans e4
          have nL := E4.ne hL
          have e5 : Dr b (k + 1) G4 (L2.upd G4 L (.lst [.str "", .str (toString (m : Int) : String)])) := (Dr.refl e4.bag).new hL
          have eL : L2.upd G4 L (.lst [.str "", .str (toString (m : Int) : String)]) L = some (.lst [.str "", .str (toString (m : Int) : String)]) := upd_same ..
          generalize L2.upd G4 L (.lst [.str "", .str (toString (m : Int) : String)]) = G5 at e5 eL ⊢
          refine ⟨_, rfl, b, _, k, 2, rfl, e5.bag.choose_spec.1, e5.bag.choose_spec.2, by decide, by decide +kernel, fun x6 o6 u0 u2 g6 => ?_⟩
          (generalize hG : L2.upd _ b _ = G6; have e6 := dr_of hG g6; clear hG)
          obtain ⟨v, hv, hvm⟩ := atI_in (xs := [V.str "", .str (toString (m : Int) : String)]) u0 u2
          have hnum := Bool.and_eq_true_iff.mp (lok_num c3 hcm3 m (List.mem_range.mpr hm100))
          have E6 := (E4.trans e5).trans e6
          have hlen : ∀ m : Nat, m < 100 → ((toString (m : Int) : String) : Str).length ≤ 1000 := by decide +kernel
          simp only [List.mem_cons, List.not_mem_nil, or_false] at hvm
          rcases hvm with rfl | rfl
          · exact ⟨L, _, _, _, rfl, rfl, .inl (.inl (e6.at nL eL)), hv, _, _, rfl, rfl, one_len (by decide +kernel), kk _ _ ⟨_, rfl, hnum.2⟩ E6⟩
          · exact ⟨L, _, _, _, rfl, rfl, .inl (.inl (e6.at nL eL)), hv, _, _, rfl, rfl, one_len (hlen m hm100), kk _ _ ⟨_, rfl, hnum.1⟩ E6⟩
        · obtain ⟨ls, rfl, hls⟩ := lstrs_of xs hx
          rw [List.length_map] at hlx
          exact q G R ls ((d1.trans d2).trans dG) ⟨hlx, hls⟩ ((d1.trans d2).free hR) neR eR
end

end TS

namespace TS
open PySem PySem.Spec PyProof.Rows L2 TL
/-! ### signs, drawn -/
theorem lacks_app {pl : Str → Option Nat} : ∀ (zs : List Str) (k j : Nat) (z : Str) (p : Nat), lacks pl k zs = some (j + 1) → pl z = some p → lacks pl k (zs ++ [z]) = some (j + p)
  | [], k, j, z, p, h, hp => by
    have e : k = j + 1 := by simpa [lacks] using h
    subst e
    show (pl z).bind (fun p => lacks pl (j + p) []) = _
    rw [hp]
    rfl
  | y :: r, 0, j, z, p, h, _ => by simp [lacks] at h
  | y :: r, k + 1, j, z, p, h, hp => by
    cases hq : pl y with
    | none => simp [lacks, hq] at h
    | some m =>
      have h' : lacks pl (k + m) r = some (j + 1) := by simpa [lacks, hq] using h
      show (pl y).bind (fun q => lacks pl (k + q) (r ++ [z])) = _
      rw [hq]
      exact lacks_app r (k + m) j z p h' hp
def SignsOk (rows : List (Str × Int)) (ls : List Str) (upto : Nat) (zs : List Str) : Prop := 1 ≤ zs.length ∧ zs.length ≤ upto ∧ (∀ z ∈ zs, z ∈ rows.map (·.1) ∨ z ∈ ls) ∧ lacks (plS rows) 1 zs = some 0
def spSigns (K : PySem.W.Frag) : Sp := fun vs H Q _ => ∃ (b : Addr) (n : Nat) (rw_ lt : Addr) (upto : Nat) (rows : List (Str × Int)) (ls : List Str), vs = [.ref b, .ref rw_, .ref lt, .int upto] ∧ 1 ≤ upto ∧ upto ≤ 200 ∧ (∃ o, H b = some o ∧ Bag (n + 2 * upto) o) ∧ RowsOk rows ∧ LtrsOk ls ∧
  Dt K (hide H b) (.ref rw_) (.list (rows.map rowPy)) ∧ hide H b lt = some (.lst (ls.map V.str)) ∧ ∀ H' p zs, Dr b n H H' → SignsOk rows ls upto zs → H p = none → p ≠ b → H' p = some (.lst (zs.map V.str)) → Q (.ref p) H'
theorem plS_letter {rows : List (Str × Int)} {z : Str} (h : lokB z = true) : plS rows z = some 0 := by
  unfold plS
  rw [(Bool.and_eq_true_iff.mp h).1]
  rfl
theorem plR_row {rows : List (Str × Int)} (nd : (rows.map (·.1)).Nodup) {r : Str × Int} (h : r ∈ rows) : plR rows r.1 = r.2 := by
  unfold plR
  have : rows.find? (fun x => decide (x.1 = r.1)) = some r := by
    induction rows with
    | nil => cases h
    | cons x xs ih =>
      rw [List.find?_cons]
      rw [List.map_cons, List.nodup_cons] at nd
      rcases List.mem_cons.mp h with e | m
      · subst e
        simp
      · have ne : x.1 ≠ r.1 := fun e => nd.1 (by rw [e]; exact List.mem_map_of_mem m)
        rw [decide_eq_false ne]
        exact ih nd.2 m
  rw [this]
  rfl
theorem plS_row {rows : List (Str × Int)} (ro : RowsOk rows) {r : Str × Int} (h : r ∈ rows) : plS rows r.1 = some r.2.toNat := by
  have hm : r.1 ∈ rows.map (·.1) := List.mem_map_of_mem h
  unfold plS
  rw [no_letter ro hm, if_neg Bool.false_ne_true, if_pos hm, plR_row ro.nd h]
section
variable {P : Program} {w : World} {K : PySem.W.Frag} {mg : Str → Option Value} {base : Heap}
abbrev s__law_signs : Stmt := top 47
theorem sc__law_signs : FnScope ["_law_box_here", "_law_rows_here", "_law_letters_here", "_law_most", "_law_found", "_law_lacking", "_law_room", "_law_some", "_law_name", "_law_places", "_law_row"] ["_law_box_here", "_law_rows_here", "_law_letters_here", "_law_most"] (defScope s__law_signs) := ⟨rfl, rfl, rfl, by decide +kernel, rfl, by decide +kernel, by decide +kernel⟩

set_option maxHeartbeats 800000 in
theorem ok_signs (bt : Bt mg) (p__law_take : Prom P w K mg base 1 "_law_take" ["_law_box_here", "_law_many"] spTake) (D : Def K mg "_law_signs" s__law_signs) : Prom P w K mg base 2 "_law_signs" ["_law_box_here", "_law_rows_here", "_law_letters_here", "_law_most"] (spSigns K) := by
  refine prom_mk D sc__law_signs (fun vs H Q E h => ?_) (fun _ _ _ _ _ _ us hl => match us, hl with | [_, _, _, _], _ => rfl) (fun f cdv A outer s H vs Q E hr h => ?_)
  · obtain ⟨b, n, rw_, lt, upto, rows, ls, rfl, _⟩ := h
    rfl
  · obtain ⟨b, n, rw_, lt, upto, rows, ls, rfl, u1, u2, hb, ro, hls, hrw, hlt, q⟩ := h
    refine ⟨_, (pss_cons (ps_set (i := 4) sc__law_signs.nd rfl (Or.inl rfl) (pe_lst pa_nil))
      (pss_cons (ps_set (i := 5) sc__law_signs.nd rfl (Or.inl rfl) pe_int)
      (pss_cons (ps_while PassesOwn.never (pt_cmpR op_gt (pv 5) pe_int (nomark _)) (pss_cons (ps_set (i := 6) sc__law_signs.nd rfl (Or.inr rfl) (pe_op op_sub (pe_op op_sub (pv 3) (pe_callB (id := "len") (lenK (K := K)) (by rfl) bt.len_ (by decide +kernel) (pa_cons (pv 4) pa_nil))) (pv 5)))
      (pss_cons (ps_setLc (i := 7) (own := [("_law_row", 10)]) (g := gName 10) rfl sc__law_signs.nd rfl rfl (sw_true rfl rfl rfl (by decide +kernel)) (pi_listK (K := K) rfl (pv 1)) (blkOk_by (N := ["_law_box_here", "_law_rows_here", "_law_letters_here", "_law_most", "_law_found", "_law_lacking", "_law_room", "_law_some", "_law_name", "_law_places", "_law_row"]) (sc := defScope s__law_signs) (by decide +kernel)) (fun _ _ _ _ _ => (pg_name (i := 10) sc__law_signs.nd rfl (Or.inl rfl))) (fun _ _ _ _ _ => (pts_one (pt_cmpR op_le (pe_ix (ix_tupK (K := K)) (pv 10) pe_int (fun _ _ => rfl)) (pv 6) (nomark _)))) (fun _ _ _ _ _ => (pv 10)))
      (pss_one (ps_if (PW.pt (pw_or (pt_cmpR (op_eqNil (K := K) hr.units) (pv 7) (pe_lst pa_nil) (nomark _)) (pw_or1 (pt_cmpR op_eq (pe_pc p__law_take (hr.mono (by decide)) rfl (pa_cons (pv 0) (pa_cons pe_int pa_nil))) pe_int (nomark _))))) (pss_cons (ps_expr (pe_appendK (K := K) rfl (pv 4) (pe_ix (ix_listK (K := K)) (pv 2) (pe_pc p__law_take (hr.mono (by decide)) rfl (pa_cons (pv 0) (pa_cons (pe_callB (id := "len") (lenK (K := K)) (by rfl) bt.len_ (by decide +kernel) (pa_cons (pv 2) pa_nil)) pa_nil))) (fun _ _ => rfl))))
      (pss_one (ps_set (i := 5) sc__law_signs.nd rfl (Or.inl rfl) (pe_op op_sub (pv 5) pe_int)))) (pss_cons (ps_asg (pe_ix (ix_listK (K := K)) (pv 7) (pe_pc p__law_take (hr.mono (by decide)) rfl (pa_cons (pv 0) (pa_cons (pe_callB (id := "len") (lenK (K := K)) (by rfl) bt.len_ (by decide +kernel) (pa_cons (pv 7) pa_nil)) pa_nil))) (fun _ _ => rfl)) (pg_tupK (K := K) (n := 2) rfl rfl (pgs_cons (pg_name (i := 8) sc__law_signs.nd rfl (Or.inl rfl)) (pgs_cons (pg_name (i := 9) sc__law_signs.nd rfl (Or.inl rfl)) pgs_nil))))
      (pss_cons (ps_expr (pe_appendK (K := K) rfl (pv 4) (pv 8)))
      (pss_one (ps_set (i := 5) sc__law_signs.nd rfl (Or.inl rfl) (pe_op op_sub (pe_op op_add (pv 5) (pv 9)) pe_int))))))))))
      (pss_one (ps_ret (pv 4)))))), ?_⟩
    refine ⟨(by show 0 ≤ sizeLine; decide), fun F hF => ?_⟩
    have nF : F ≠ b := (Dr.refl hb).ne hF
    have d0 : Dr b (n + 2 * upto) H (L2.upd H F (.lst [])) := (Dr.refl hb).new hF
    have eF : L2.upd H F (.lst []) F = some (.lst []) := upd_same ..
    generalize L2.upd H F (.lst []) = H1 at d0 eF ⊢
    refine ⟨fun m τ G => ∃ (zs : List Str) (k : Nat), m = upto - zs.length ∧ (∃ x6 x7 x8 x9 x10, τ = [some (.ref b), some (.ref rw_), some (.ref lt), some (.int upto), some (.ref F), some (.int k), x6, x7, x8, x9, x10]) ∧ zs.length + k ≤ upto ∧ G F = some (.lst (zs.map V.str)) ∧ (∀ a o, a ≠ b → a ≠ F → H a = some o → G a = some o) ∧
      (∃ o, G b = some o ∧ Bag (n + 2 * (upto - zs.length)) o) ∧ (∀ z ∈ zs, z ∈ rows.map (·.1) ∨ z ∈ ls) ∧ lacks (plS rows) 1 zs = some k, ⟨_, [], 1, rfl, ⟨_, _, _, _, _, rfl⟩, u1, eF, fun a o h1 _ e => d0.fx a o h1 e, d0.bag, by simp, rfl⟩, ?_⟩
    rintro m τ G ⟨zs, k, rfl, ⟨x6, x7, x8, x9, x10, rfl⟩, hk, eG, keep, hbG, hin, hlk⟩
    refine ⟨_, rfl, _, _, rfl, rfl, _, rfl, ?_⟩
    cases k with
    | zero =>
      refine iteF ⟨_, rfl, ?_⟩
      have l1 : 1 ≤ zs.length := by
        cases zs with
        | nil => cases hlk
        | cons _ _ => simp
      refine q G F zs ⟨fun a o ha e => ?_, let ⟨o, e, g⟩ := hbG; ⟨o, e, g.mono (by omega)⟩⟩ ⟨l1, by omega, hin, hlk⟩ hF nF eG
      exact keep a o ha (ne_of_none e hF) e
    | succ k =>
      refine iteT' (decide_eq_true (by omega)) ⟨fun τ G => ∃ (zs' : List Str) (k' : Nat), zs'.length = zs.length + 1 ∧ (∃ x6 x7 x8 x9 x10, τ = [some (.ref b), some (.ref rw_), some (.ref lt), some (.int upto), some (.ref F), some (.int k'), x6, x7, x8, x9, x10]) ∧ zs'.length + k' ≤ upto ∧ G F = some (.lst (zs'.map V.str)) ∧ (∀ a o, a ≠ b → a ≠ F → H a = some o → G a = some o) ∧
        (∃ o, G b = some o ∧ Bag (n + 2 * (upto - zs'.length)) o) ∧ (∀ z ∈ zs', z ∈ rows.map (·.1) ∨ z ∈ ls) ∧ lacks (plS rows) 1 zs' = some k', fun τ G' ⟨zs', k', h1, h2, h3⟩ => ⟨upto - zs'.length, by omega, zs', k', rfl, h2, h3⟩, ?_⟩
      refine ⟨_, rfl, _, rfl, _, _, rfl, .inl ⟨_, .inl (.inl eG), rfl⟩, _, _, rfl, rfl, _, rfl, _, _, rfl, rfl, ?_⟩
      have hG0 : Same (hide H b) G := fun a o e => by
        have ha : a ≠ b := fun z => by rw [z, hide_self] at e; cases e
        rw [hide_ne ha] at e
        exact keep a o ha (ne_of_none e hF) e
      obtain ⟨_, xr, er, hrL, hrA⟩ := hrw.list_inv
      cases er
      have ll : (ls.map V.str).length = 5 := by rw [List.length_map]; exact hls.1
      have nlt : lt ≠ b := fun z => by rw [z, hide_self] at hlt; cases hlt
      have hxl := hrA.length
      rw [List.length_map] at hxl
      have hfew := ro.few
      obtain ⟨room, eroom⟩ : ∃ r : Int, r = (upto : Int) - ((zs.map V.str).length : Nat) - ((k + 1 : Nat) : Int) := ⟨_, rfl⟩
      refine ⟨_, rfl, rw_, rfl, ⟨_, hG0.seq hrL⟩, fun R hR => lc_it walk_list (fun i G' => Same G G' ∧ ∃ sub : List (Addr × (Str × Int)), G' R = some (.lst (sub.map fun s => V.ref s.1)) ∧ sub.length ≤ i ∧ ∀ s ∈ sub, s.2 ∈ rows ∧ s.2.2 ≤ room ∧ SqT K (hide H b) s.1 [.str s.2.1, .int s.2.2])
        ⟨Same.new (Same.refl _) hR, [], upd_same .., Nat.le_refl _, by simp⟩ (fun i G' _ p => p.1.seq (hG0.seq hrL)) ?_ ?_⟩
      · rintro i x G1 G2 hi ⟨s1, sub, eR, lsub, hsub⟩ ⟨rfl, hx⟩
        obtain ⟨di, hdi, hx2⟩ := hrA.get hx
        obtain ⟨r, hr1, rfl⟩ : ∃ r ∈ rows, di = rowPy r := by
          rw [List.getElem?_map] at hdi
          cases hri : rows[i]? with
          | none => rw [hri] at hdi; cases hdi
          | some r => rw [hri] at hdi; cases hdi; exact ⟨r, List.mem_of_getElem? hri, rfl⟩
        obtain ⟨a, ys, rfl, hT, hA⟩ := hx2.tup_inv
        cases hA with
        | cons y0 t1 => cases t1 with
        | cons y1 t2 => cases t2 with
        | nil =>
        cases y0
        cases y1
        refine ⟨rfl, _, rfl, a, _, _, .int r.2, rfl, rfl, SqT.same (hG0.trans s1) hT, rfl, _, rfl, _, _, rfl, rfl, _, rfl, ite2 (fun c => ?_) (fun c => ?_)⟩
        · refine ⟨_, rfl, _, eR, ?_, Same.keep s1 hR, sub ++ [(a, r)], by rw [upd_same, List.map_append]; rfl, by rw [List.length_append]; exact Nat.add_le_add_right lsub 1, fun s hs => ?_⟩
          · rw [List.length_map]; exact sz5' (by omega)
          · rcases List.mem_append.mp hs with m | m
            · exact hsub s m
            · rw [List.mem_singleton.mp m]; exact ⟨hr1, by rw [eroom]; exact of_decide_eq_true c, hT⟩
        · exact ⟨s1, sub, eR, Nat.le_succ_of_le lsub, hsub⟩
      · rintro G2 ⟨s1, sub, eR, lsub, hsub⟩
        refine ⟨_, rfl, (by show 0 ≤ sizeLine; decide), fun N hN => ?_⟩
        (generalize hG : L2.upd _ N _ = G4; have sN := same_of hG hN; have eN := at_of hG; clear hG)
        have s4 := s1.trans sN
        have eF4 := s4 _ _ eG
        have kG4 := hG0.trans s4
        have keep4 : ∀ a o, a ≠ b → a ≠ F → H a = some o → G4 a = some o := fun a o h1 h2 e => s4 _ _ (keep a o h1 h2 e)
        have nR : R ≠ b := fun z => by
          obtain ⟨o, e, _⟩ := hbG
          rw [z, e] at hR
          cases hR
        have eR4 := sN _ _ eR
        have hb4 : ∃ o, G4 b = some o ∧ Bag (n + 2 * (upto - (zs.length + 1)) + 1 + 1) o := by
          obtain ⟨o, e, g⟩ := hbG
          exact ⟨o, s4 _ _ e, g.mono (by omega)⟩
        refine ⟨R, N, _, rfl, rfl, .inl (.inl eR4), .inl (.inl eN), _, rfl, ?_⟩
        cases sub with
        | nil =>
          refine iteT (iteT ?_)
          obtain ⟨G5, eG5⟩ : ∃ G5, G5 = G4 := ⟨_, rfl⟩
          have d5 : Dr b (n + 2 * (upto - (zs.length + 1)) + 1) G4 G5 := by rw [eG5]; exact (Dr.refl hb4).mono (Nat.le_succ _)
          rw [← eG5]
          -- a letter
          have eF5 : G5 F = some (.lst (zs.map V.str)) := d5.at nF eF4
          have lt5 : G5 lt = some (.lst (ls.map V.str)) := d5.at nlt (kG4 _ _ hlt)
          refine ⟨_, rfl, .inl ⟨rfl, _, .inl (.inl eF5)⟩, _, rfl, _, rfl, _, rfl, _, _, rfl, .inl ⟨_, .inl (.inl lt5), rfl⟩, b, _, n + 2 * (upto - (zs.length + 1)), ((ls.map V.str).length : Int), rfl, d5.bag.choose_spec.1, d5.bag.choose_spec.2, by rw [ll]; decide, by rw [ll]; decide +kernel, fun x o x0 x1 g => ?_⟩
          (generalize hG : L2.upd _ b _ = G6; have d6 := dr_of hG g; clear hG)
          obtain ⟨v, hv, hvm⟩ := atI_in (xs := ls.map V.str) x0 x1
          obtain ⟨z, hz, rfl⟩ := List.mem_map.mp hvm
          have D6 := d5.trans d6
          have eF6 := D6.at nF eF4
          refine ⟨lt, _, _, .str z, rfl, rfl, .inl (.inl (d6.at nlt lt5)), hv, F, _, _, rfl, rfl, eF6, sz5' (by rw [List.length_map]; omega), _, rfl, _, _, rfl, rfl, ?_⟩
          refine ⟨zs ++ [z], k, by simp, ⟨_, _, _, _, _, by rw [show (k : Int) = ((k + 1 : Nat) : Int) - 1 by omega]; rfl⟩, by rw [List.length_append]; show zs.length + 1 + k ≤ upto; omega, by rw [upd_same, List.map_append]; rfl, fun a o h1 h2 e => (upd_ne h2).trans (D6.fx a o h1 (keep4 a o h1 h2 e)), ?_, ?_, ?_⟩
          · obtain ⟨o, e, g⟩ := d6.bag
            exact ⟨o, (upd_ne (Ne.symm nF)).trans e, by rw [List.length_append]; exact g⟩
          · intro y hy
            rcases List.mem_append.mp hy with m | m
            · exact hin y m
            · rw [List.mem_singleton.mp m]; exact .inr hz
          · exact lacks_app zs 1 k z 0 hlk (plS_letter (hls.2 z hz))
        | cons s0 sr =>
          refine iteF ⟨_, rfl, b, _, n + 2 * (upto - (zs.length + 1)) + 1, 3, rfl, hb4.choose_spec.1, hb4.choose_spec.2, by decide, by decide +kernel, fun x5 o5 x50 x53 g5 => ?_⟩
          (generalize hG : L2.upd _ b _ = G5; have d5 := dr_of hG g5; clear hG)
          refine ⟨rfl, _, rfl, ite2 (fun c => ?_) (fun c => ?_)⟩
          · -- a letter
            have eF5 : G5 F = some (.lst (zs.map V.str)) := d5.at nF eF4
            have lt5 : G5 lt = some (.lst (ls.map V.str)) := d5.at nlt (kG4 _ _ hlt)
            refine ⟨_, rfl, .inl ⟨rfl, _, .inl (.inl eF5)⟩, _, rfl, _, rfl, _, rfl, _, _, rfl, .inl ⟨_, .inl (.inl lt5), rfl⟩, b, _, n + 2 * (upto - (zs.length + 1)), ((ls.map V.str).length : Int), rfl, d5.bag.choose_spec.1, d5.bag.choose_spec.2, by rw [ll]; decide, by rw [ll]; decide +kernel, fun x o x0 x1 g => ?_⟩
            (generalize hG : L2.upd _ b _ = G6; have d6 := dr_of hG g; clear hG)
            obtain ⟨v, hv, hvm⟩ := atI_in (xs := ls.map V.str) x0 x1
            obtain ⟨z, hz, rfl⟩ := List.mem_map.mp hvm
            have D6 := d5.trans d6
            have eF6 := D6.at nF eF4
            refine ⟨lt, _, _, .str z, rfl, rfl, .inl (.inl (d6.at nlt lt5)), hv, F, _, _, rfl, rfl, eF6, sz5' (by rw [List.length_map]; omega), _, rfl, _, _, rfl, rfl, ?_⟩
            refine ⟨zs ++ [z], k, by simp, ⟨_, _, _, _, _, by rw [show (k : Int) = ((k + 1 : Nat) : Int) - 1 by omega]; rfl⟩, by rw [List.length_append]; show zs.length + 1 + k ≤ upto; omega, by rw [upd_same, List.map_append]; rfl, fun a o h1 h2 e => (upd_ne h2).trans (D6.fx a o h1 (keep4 a o h1 h2 e)), ?_, ?_, ?_⟩
            · obtain ⟨o, e, g⟩ := d6.bag
              exact ⟨o, (upd_ne (Ne.symm nF)).trans e, by rw [List.length_append]; exact g⟩
            · intro y hy
              rcases List.mem_append.mp hy with m | m
              · exact hin y m
              · rw [List.mem_singleton.mp m]; exact .inr hz
            · exact lacks_app zs 1 k z 0 hlk (plS_letter (hls.2 z hz))
          · have eF5 : G5 F = some (.lst (zs.map V.str)) := d5.at nF eF4
            have eR5 := d5.at nR eR4
            have lsn : ((s0 :: sr).map fun s => V.ref s.1).length ≤ 12 := by rw [List.length_map]; omega
            refine ⟨_, rfl, _, rfl, _, rfl, _, _, rfl, .inl ⟨_, .inl (.inl eR5), rfl⟩, b, _, n + 2 * (upto - (zs.length + 1)), _, rfl, d5.bag.choose_spec.1, d5.bag.choose_spec.2, (by simp), (by
              have : (2 : Int) ^ 200 > 12 := by decide +kernel
              omega), fun x o x0 x1 g => ?_⟩
            (generalize hG : L2.upd _ b _ = G6; have d6 := dr_of hG g; clear hG)
            obtain ⟨v, hv, hvm⟩ := atI_in (xs := (s0 :: sr).map fun s => V.ref s.1) x0 x1
            obtain ⟨⟨ra, r⟩, hs, rfl⟩ := List.mem_map.mp hvm
            obtain ⟨hr1, hr2, hr3⟩ := hsub _ hs
            replace hr2 : r.2 ≤ room := hr2
            replace hr1 : r ∈ rows := hr1
            have D6 := d5.trans d6
            have eF6 := D6.at nF eF4
            have hlo := ro.lo r hr1
            have hT6 : SqT K G6 ra [.str r.1, .int r.2] := SqT.same (fun a o e => by
              have ha : a ≠ b := fun z => by rw [z, hide_self] at e; cases e
              exact D6.fx a o ha (kG4 _ _ e)) hr3
            refine ⟨R, _, _, .ref ra, rfl, rfl, .inl (.inl (d6.at nR eR5)), hv, ra, _, rfl, hT6, rfl, _, _, rfl, _, _, rfl, rfl, ?_⟩
            refine ⟨_, rfl, .inl ⟨rfl, _, .inl (.inl eF6)⟩, _, rfl, F, _, _, rfl, rfl, eF6, sz5' (by rw [List.length_map]; omega), _, rfl, _, rfl, _, _, rfl, rfl, _, _, rfl, rfl, ?_⟩
            rw [List.length_map] at eroom
            refine ⟨zs ++ [r.1], k + r.2.toNat, by simp, ⟨_, _, _, _, _, by rw [show ((k + r.2.toNat : Nat) : Int) = ((k + 1 : Nat) : Int) + r.2 - 1 by omega]; rfl⟩, by rw [List.length_append]; show zs.length + 1 + (k + r.2.toNat) ≤ upto; omega, by rw [upd_same, List.map_append]; rfl, fun a o h1 h2 e => (upd_ne h2).trans (D6.fx a o h1 (keep4 a o h1 h2 e)), ?_, ?_, ?_⟩
            · obtain ⟨o, e, g⟩ := d6.bag
              exact ⟨o, (upd_ne (Ne.symm nF)).trans e, by rw [List.length_append]; exact g⟩
            · intro y hy
              rcases List.mem_append.mp hy with m | m
              · exact hin y m
              · rw [List.mem_singleton.mp m]; exact .inl (List.mem_map_of_mem hr1)
            · exact lacks_app zs 1 k r.1 r.2.toNat hlk (plS_row ro hr1)
end

end TS

namespace TS
open PySem PySem.Spec PyProof.Rows L2 TL
/-! ### good signs by other rows -/
theorem cut_from {n : Nat} (xs : List V) : cutV xs (some (n : Int)) none = xs.drop n := by
  show ((xs).drop (HT.sIx xs.length 0 (some ((n : Nat) : Int)))).take (HT.sIx xs.length xs.length none - HT.sIx xs.length 0 (some ((n : Nat) : Int))) = _
  rw [HT.sIx_nat, HT.sIx_none, List.take_of_length_le (by rw [List.length_drop]; omega)]
  by_cases h : n ≤ xs.length
  · rw [Nat.min_eq_left h]
  · rw [List.drop_eq_nil_of_le (by omega), List.drop_eq_nil_of_le (by omega)]
theorem cut_upto {n : Nat} (xs : List V) : cutV xs none (some (n : Int)) = xs.take n := by
  show ((xs).drop (HT.sIx xs.length 0 none)).take (HT.sIx xs.length xs.length (some ((n : Nat) : Int)) - HT.sIx xs.length 0 none) = _
  rw [HT.sIx_nat, HT.sIx_none, List.drop_zero, Nat.sub_zero]
  by_cases h : n ≤ xs.length
  · rw [Nat.min_eq_left h]
  · rw [List.take_of_length_le (by omega), List.take_of_length_le (by omega)]
theorem lacks_congr {p q : Str → Option Nat} : ∀ (zs ys : List Str) (k : Nat), zs.map p = ys.map q → lacks p k zs = lacks q k ys
  | [], [], k, _ => rfl
  | [], y :: r, k, h => by simp at h
  | z :: r, [], k, h => by simp at h
  | z :: r, y :: t, 0, _ => rfl
  | z :: r, y :: t, k + 1, h => by
    rw [List.map_cons, List.map_cons] at h
    obtain ⟨h1, h2⟩ := List.cons.inj h
    show (p z).bind (fun m => lacks p (k + m) r) = (q y).bind (fun m => lacks q (k + m) t)
    rw [h1]
    cases q y with
    | none => rfl
    | some m => exact lacks_congr r t (k + m) h2
theorem lok_facts {z : Str} (h : lokB z = true) : letterL (tl z) = true ∧ Sm 2 30 (.str z) ∧ Plain z := by
  unfold lokB at h
  obtain ⟨h1, h2⟩ := Bool.and_eq_true_iff.mp h
  obtain ⟨h3, h4⟩ := Bool.and_eq_true_iff.mp h2
  refine ⟨h1, h3, ?_⟩
  intro c hc
  cases er : tl z with
  | nil => rw [er] at hc; cases hc
  | cons a r =>
    rw [er] at h1 hc
    have h5 : (capL a && (decide (r = []) || (plainL r && decide (NumText.digitsVal r ≤ 99)))) = true := h1
    obtain ⟨h6, h7⟩ := Bool.and_eq_true_iff.mp h5
    rcases List.mem_cons.mp hc with rfl | hc
    · have := of_decide_eq_true (Bool.and_eq_true_iff.mp h6).2
      omega
    · rcases Bool.or_eq_true_iff.mp h7 with h8 | h8
      · rw [of_decide_eq_true h8] at hc
        cases hc
      · have h9 := (Bool.and_eq_true_iff.mp h8).1
        unfold plainL at h9
        have h10 := List.all_eq_true.mp (Bool.and_eq_true_iff.mp (Bool.and_eq_true_iff.mp h9).2).1 c hc
        have := of_decide_eq_true (Bool.and_eq_true_iff.mp h10).2
        omega
theorem name_facts {z : Str} (h : nameS z = true) : Sm 2 30 (.str z) ∧ Plain z := by
  unfold nameS at h
  obtain ⟨h1, h3⟩ := Bool.and_eq_true_iff.mp h
  obtain ⟨_, h2⟩ := Bool.and_eq_true_iff.mp h1
  have pl : Plain z := fun c m => by
    have := of_decide_eq_true (Bool.and_eq_true_iff.mp (List.all_eq_true.mp h3 c m)).2
    omega
  exact ⟨Sm.plain pl (Nat.le_trans (of_decide_eq_true h2) (by decide)), pl⟩
theorem good_signs {rows : List (Str × Int)} {ls zs : List Str} {n : Nat} (ro : RowsOk rows) (hl : LtrsOk ls) (h : SignsOk rows ls n zs) (hn : n ≤ 100) : Good rows zs := by
  have each : ∀ z ∈ zs, Sm 2 30 (.str z) ∧ Plain z := fun z hz => by
    rcases h.2.2.1 z hz with m | m
    · obtain ⟨r, hr, rfl⟩ := List.mem_map.mp m
      exact name_facts (ro.names r hr)
    · exact (lok_facts (hl.2 z m)).2
  exact ⟨h.1, Nat.le_trans h.2.1 hn, h.2.2.2, fun z hz => (each z hz).1, fun z hz => (each z hz).2⟩
theorem plS_let {rows : List (Str × Int)} {z : Str} (h : letterL (tl z) = true) : plS rows z = some 0 := by
  unfold plS
  rw [if_pos h]
theorem good_letter {z : Str} (h : lokB z = true) (rows : List (Str × Int)) : Good rows [z] := by
  obtain ⟨h1, h2, h3⟩ := lok_facts h
  refine ⟨by simp, by simp, ?_, fun y hy => by rw [List.mem_singleton.mp hy]; exact h2, fun y hy => by rw [List.mem_singleton.mp hy]; exact h3⟩
  show (plS rows z).bind (fun m => lacks (plS rows) (0 + m) []) = some 0
  rw [plS_let h1]
  rfl
/-- the same signs by rows that hold these -/
theorem Good.sub {rows others : List (Str × Int)} {zs : List Str} (ro : RowsOk rows) (oo : RowsOk others) (hs : ∀ r ∈ rows, r ∈ others) (g : Good rows zs) : Good others zs := by
  refine ⟨g.some_, g.few, ?_, g.sm, g.pl⟩
  rw [← g.lk]
  refine (lacks_congr zs zs 1 (List.map_congr_left fun z hz => ?_)).symm
  have hn := (lacks_out zs 1 0 g.lk).1 z hz
  rw [plS_none] at hn
  by_cases hL : letterL (tl z) = true
  · rw [plS_let hL, plS_let hL]
  · have hm : z ∈ rows.map (·.1) := by
      cases h : decide (z ∈ rows.map (·.1)) with
      | true => exact of_decide_eq_true h
      | false => rw [h, Bool.eq_false_iff.mpr hL] at hn; cases hn
    obtain ⟨r, hr, rfl⟩ := List.mem_map.mp hm
    rw [plS_row ro hr, plS_row oo (hs r hr)]
theorem set_map {α β : Type} (f : α → β) {l : List α} {i : Nat} {x y : α} (h : l[i]? = some x) (e : f x = f y) : (l.set i y).map f = l.map f := by
  apply List.ext_getElem?
  intro j
  rw [List.getElem?_map, List.getElem?_map]
  by_cases hj : i = j
  · subst hj
    have hl := (List.getElem?_eq_some_iff.mp h).1
    rw [List.getElem?_set_self hl, h]
    show some (f y) = some (f x)
    rw [e]
  · rw [List.getElem?_set_ne hj]
/-- one letter for another -/
theorem Good.set {rows : List (Str × Int)} {zs : List Str} {i : Nat} {x y : Str} (g : Good rows zs) (h : zs[i]? = some x) (hx : letterL (tl x) = true) (hy : lokB y = true) : Good rows (zs.set i y) := by
  obtain ⟨h1, h2, h3⟩ := lok_facts hy
  have mem : ∀ z ∈ zs.set i y, z ∈ zs ∨ z = y := fun z hz => List.mem_or_eq_of_mem_set hz
  refine ⟨by rw [List.length_set]; exact g.some_, by rw [List.length_set]; exact g.few, ?_, fun z hz => ?_, fun z hz => ?_⟩
  · rw [← g.lk]
    exact lacks_congr _ _ 1 (set_map _ h (by rw [plS_let hx, plS_let h1]))
  · rcases mem z hz with m | rfl
    · exact g.sm z m
    · exact h2
  · rcases mem z hz with m | rfl
    · exact g.pl z m
    · exact h3
theorem rows_rot {r : Str × Int} {rs : List (Str × Int)} (ro : RowsOk (r :: rs)) : RowsOk (rs ++ [r]) := by
  have pm : ∀ x, x ∈ rs ++ [r] → x ∈ r :: rs := fun x hx => by
    rcases List.mem_append.mp hx with m | m
    · exact List.mem_cons_of_mem _ m
    · rw [List.mem_singleton.mp m]; simp
  refine ⟨by simp, by have := ro.few; simpa using this, fun x hx => ro.names x (pm x hx), ?_, fun x hx => ro.lo x (pm x hx), fun x hx => ro.hi x (pm x hx)⟩
  have nd := ro.nd
  rw [List.map_cons, List.nodup_cons] at nd
  rw [List.map_append, List.nodup_append]
  refine ⟨nd.2, by simp, fun a ha b hb e => ?_⟩
  simp only [List.map_cons, List.map_nil, List.mem_singleton] at hb
  subst hb e
  exact nd.1 ha
theorem rows_bent {r : Str × Int} {rs : List (Str × Int)} {p : Int} (ro : RowsOk (r :: rs)) (h0 : 0 ≤ p) (h4 : p ≤ 4) : RowsOk ((r.1, p) :: rs) := by
  refine ⟨by simp, by have := ro.few; simpa using this, fun x hx => ?_, by have := ro.nd; simpa using this, fun x hx => ?_, fun x hx => ?_⟩
  · rcases List.mem_cons.mp hx with rfl | m
    · exact ro.names r (by simp)
    · exact ro.names x (List.mem_cons_of_mem _ m)
  · rcases List.mem_cons.mp hx with rfl | m
    · exact h0
    · exact ro.lo x (List.mem_cons_of_mem _ m)
  · rcases List.mem_cons.mp hx with rfl | m
    · exact h4
    · exact ro.hi x (List.mem_cons_of_mem _ m)
theorem rows_more {rows : List (Str × Int)} {z : Str} (ro : RowsOk rows) (hl : rows.length < 12) (hz : nameS z = true) (hn : z ∉ rows.map (·.1)) : RowsOk (rows ++ [(z, 0)]) := by
  have ap : ∀ x ∈ rows ++ [(z, (0 : Int))], x ∈ rows ∨ x = (z, 0) := fun x hx => (List.mem_append.mp hx).imp id fun m => List.mem_singleton.mp m
  refine ⟨by simp, by simp; omega, fun x hx => ?_, ?_, fun x hx => ?_, fun x hx => ?_⟩
  · rcases ap x hx with m | rfl
    · exact ro.names x m
    · exact hz
  · rw [List.map_append, List.nodup_append]
    refine ⟨ro.nd, by simp, fun a ha b hb e => ?_⟩
    simp only [List.map_cons, List.map_nil, List.mem_singleton] at hb
    subst hb e
    exact hn ha
  · rcases ap x hx with m | rfl
    · exact ro.lo x m
    · exact Int.le_refl 0
  · rcases ap x hx with m | rfl
    · exact ro.hi x m
    · exact (by decide : (0 : Int) ≤ 4)
/-- the line of good signs -/
theorem Good.blank {rows : List (Str × Int)} {zs : List Str} (ro : RowsOk rows) (g : Good rows zs) : ∀ z ∈ zs, 32 ∉ tl z ∧ 10 ∉ tl z ∧ z ≠ "" := fun z hz => by
  have hn := (lacks_out zs 1 0 g.lk).1 z hz
  rw [plS_none] at hn
  by_cases hL : letterL (tl z) = true
  · cases er : tl z with
    | nil => rw [er] at hL; cases hL
    | cons a r =>
      have ne : z ≠ "" := fun e => by rw [e] at er; rw [show tl ("" : Str) = [] by decide +kernel] at er; cases er
      rw [er] at hL
      have h5 : (capL a && (decide (r = []) || (plainL r && decide (NumText.digitsVal r ≤ 99)))) = true := hL
      obtain ⟨h6, h7⟩ := Bool.and_eq_true_iff.mp h5
      have ha := of_decide_eq_true (Bool.and_eq_true_iff.mp h6).1
      have hr : ∀ c ∈ r, 48 ≤ c := fun c hc => by
        rcases Bool.or_eq_true_iff.mp h7 with h8 | h8
        · rw [of_decide_eq_true h8] at hc; cases hc
        · have h9 := (Bool.and_eq_true_iff.mp h8).1
          unfold plainL at h9
          have h10 := List.all_eq_true.mp (Bool.and_eq_true_iff.mp (Bool.and_eq_true_iff.mp h9).2).1 c hc
          exact of_decide_eq_true (Bool.and_eq_true_iff.mp h10).1
      refine ⟨fun m => ?_, fun m => ?_, ne⟩
      · rcases List.mem_cons.mp m with e | m
        · omega
        · have := hr _ m; omega
      · rcases List.mem_cons.mp m with e | m
        · omega
        · have := hr _ m; omega
  · have hm : z ∈ rows.map (·.1) := by
      cases h : decide (z ∈ rows.map (·.1)) with
      | true => exact of_decide_eq_true h
      | false => rw [h, Bool.eq_false_iff.mpr hL] at hn; cases hn
    obtain ⟨r, hr, rfl⟩ := List.mem_map.mp hm
    have h := ro.names r hr
    unfold nameS at h
    obtain ⟨h1, h3⟩ := Bool.and_eq_true_iff.mp h
    obtain ⟨h2, _⟩ := Bool.and_eq_true_iff.mp h1
    have all : ∀ c ∈ tl r.1, 97 ≤ c := fun c m => of_decide_eq_true (Bool.and_eq_true_iff.mp (List.all_eq_true.mp h3 c m)).1
    refine ⟨fun m => by have := all _ m; omega, fun m => by have := all _ m; omega, fun e => ?_⟩
    rw [e] at h2
    exact absurd h2 (by decide +kernel)
theorem Good.line {rows : List (Str × Int)} {zs : List Str} (ro : RowsOk rows) (g : Good rows zs) : lineD (.str (Txt.join " " zs)) = some zs := by
  have bl := g.blank ro
  have sp := split_line g.some_ fun z hz => (bl z hz).1
  have e0 : lineD (.str (Txt.join " " zs)) = (match wordsOf (Txt.join " " zs) with | some ws => if ws.length ≤ 100 then some ws else none | none => none) := rfl
  have ew : wordsOf (Txt.join " " zs) = some zs := by
    unfold wordsOf
    rw [sp]
    have h1 : 10 ∉ tl (Txt.join " " zs) := fun m => by
      rw [join_eq, tl_join] at m
      rcases joined_mem m with m | ⟨p, hp, m⟩
      · exact absurd m (by decide +kernel)
      · obtain ⟨z, hz, rfl⟩ := List.mem_map.mp hp
        exact (bl z hz).2.1 m
    have h2 : inV (.str "") (zs.map V.str) = false := by
      rw [inV_strs]
      exact decide_eq_false fun m => (bl _ m).2.2 rfl
    rw [decide_eq_false h1, h2]
    rfl
  rw [e0, ew]
  exact if_pos g.few

end TS

namespace TS
open PySem PySem.Spec PyProof.Rows L2 TL
/-! ### the law -/
def spLaw (K : PySem.W.Frag) : Sp := fun vs H Q _ => ∃ (a : Addr) (ns : List Int), vs = [.ref a] ∧ SqL K H a (ns.map V.int) ∧ ns.length ≤ 63 ∧ ∀ H', Q (.bl true) H'
theorem vals_rev : ∀ {vs : List V} {us : List Value}, Vals vs us → Vals vs.reverse us.reverse
  | _, _, .nil => .nil
  | _, _, .cons r t => by
    rw [List.reverse_cons, List.reverse_cons]
    exact (vals_rev t).append (.cons r .nil)
theorem noDiff {z : Str} : (!decide (V.str z = V.str z)) = false := by simp
theorem noDiff2 {a : List (Str × Int)} {z : List Str} : (!(decide (a = a) && decide (z = z))) = false := by simp
theorem row_split {K : PySem.W.Frag} {H : Hp} {xr : List V} {rows : List (Str × Int)} (ro : RowsOk rows) (hA : DtAll K H xr (rows.map rowPy)) :
    ∃ x0 xrs, xr = x0 :: xrs ∧ ∃ r rs, rows = r :: rs ∧ ∃ p0, x0 = .ref p0 ∧ SqT K H p0 [.str r.1, .int r.2] ∧ DtAll K H xrs (rs.map rowPy) := by
  cases rows with
  | nil => have := ro.some_; simp at this
  | cons r rs =>
    cases hA with
    | cons h0 t =>
      obtain ⟨p, ys, rfl, hT, hB⟩ := h0.tup_inv
      cases hB with
      | cons y0 t1 => cases t1 with
      | cons y1 t2 => cases t2 with
      | nil =>
      cases y0
      cases y1
      exact ⟨_, _, rfl, r, rs, rfl, p, rfl, hT, t⟩
def a201 : Str := ⟨(List.replicate 100 ("A " : Str).cps).foldl (· ++ ·) #[]⟩ ++ "A"
theorem a201_ok : smB 5 100000 (.str a201) = true ∧ (tl a201).all (fun c => decide (c < 256)) = true ∧ a201.length ≤ 90000 := by decide +kernel
section
variable {P : Program} {w : World} {K : PySem.W.Frag} {mg : Str → Option Value} {base : Heap}
abbrev s_law : Stmt := top 54
theorem sc_law : FnScope ["_law_script", "_law_k", "_law_box_here", "_law_rows_here", "_law_letters_here", "_law_known", "_law_signs_here", "_law_line", "_law_term", "_law_odd", "_law_more", "_law_some", "_law_bad", "_law_near", "_law_bent", "_law_others", "_law_other"] ["_law_script"] (defScope s_law) := ⟨rfl, rfl, rfl, by decide +kernel, rfl, by decide +kernel, by decide +kernel⟩

set_option maxHeartbeats 1600000 in
theorem ok_law (Y : Sys K) (bt : Bt mg) (p__law_cell : Prom P w K mg base 1 "_law_cell" ["_law_script", "_law_k"] (spCell K)) (p__law_box : Prom P w K mg base 1 "_law_box" ["_law_cell_here"] spBag) (p__law_take : Prom P w K mg base 1 "_law_take" ["_law_box_here", "_law_many"] spTake)
    (p__law_rows : Prom P w K mg base 3 "_law_rows" ["_law_box_here"] (spDRows K)) (p__law_letters : Prom P w K mg base 2 "_law_letters" ["_law_box_here"] (spLtrs K)) (p__law_signs : Prom P w K mg base 2 "_law_signs" ["_law_box_here", "_law_rows_here", "_law_letters_here", "_law_most"] (spSigns K))
    (g_Words : mg "Words" = some (.ref (wcls K))) (m_Words : Mk K (wcls K) (He.ma K (wcls K) "__init__")) (p_Words___init__ : PromA (L2.CX P w) P w K mg base 4 (He.ma K (wcls K) "__init__") ["self", "rows"] (spWIni K))
    (pn_term_of : PromXN P w K mg base 6 "term_of" ["words", "text"] (spTermOf K) 0 ["text", "words"] (fun vs zs => zs.reverse))
    (cl_Term : Cls K (tcls K)) (ms_Term : Meth K (tcls K) "__str__" (He.ma K (tcls K) "__str__")) (p_Term___str__ : PromA CX0 P w K mg base 1 (He.ma K (tcls K) "__str__") ["self"] (spTStr K)) (mr_Term : Meth K (tcls K) "__repr__" (He.ma K (tcls K) "__repr__")) (p_Term___repr__ : PromA CX0 P w K mg base 4 (He.ma K (tcls K) "__repr__") ["self"] (spTRepr K))
    (mm_Term_signs : Meth K (tcls K) "signs" (He.ma K (tcls K) "signs")) (p_Term_signs : PromA CX0 P w K mg base 1 (He.ma K (tcls K) "signs") ["self"] (spTSigns K))
    (mq_Term : Meth K (tcls K) "__eq__" (He.ma K (tcls K) "__eq__")) (ne_Term : NeC K (tcls K)) (ap_Term : ApK K (tcls K)) (p_Term___eq__ : PromA CX0 P w K mg base 3 (He.ma K (tcls K) "__eq__") ["self", "other"] (spTEq K))
    (m_Term : Mk K (tcls K) (He.ma K (tcls K) "__init__")) (g_Term : mg "Term" = some (.ref (tcls K))) (p_Term0 : PromAK P w K mg base 4 (He.ma K (tcls K) "__init__") ["self", "words", "signs", "most"] (spTIni K) 3 [] (fun vs zs => vs ++ ([V.int 100] ++ zs)))
    (p__law_spoilt : Prom P w K mg base 2 "_law_spoilt" ["_law_box_here", "_law_line"] spSpoilt) (p__law_read_right : PromG P w K mg base 8 "_law_read_right" ["_law_rows_here", "_law_known", "_law_line"] (spReadR K)) (p__law_caught : Prom P w K mg base 7 "_law_caught" ["_law_known", "_law_line"] (spCaughtL K))
    (p__law_spare : Prom P w K mg base 1 "_law_spare" ["_law_rows_here"] (spSpare K)) (p__law_equal_right : PromG P w K mg base 6 "_law_equal_right" ["_law_rows_here", "_law_known", "_law_signs_here", "_law_other", "_law_more"] (spEqR K))
    {fL : Addr} {fdL : FuncData} (FL : FunD K "law" "law" (defArgs s_law) (defBody s_law) (defScope s_law) [] [] fL fdL) : FnG P w K mg base CX0 9 fL fdL ["_law_script"] (spLaw K) := by
  refine fnG_mk FL sc_law (fun vs H Q E h => ?_) (fun f cdv A outer s H vs Q E hgd hr h => ?_)
  · obtain ⟨a, ns, rfl, _⟩ := h
    rfl
  · obtain ⟨a, ns, rfl, hS, hl, q⟩ := h
    refine ⟨_, (pss_cons (ps_for PassesOwn.never rfl (pi_range1 rfl bt.range_ (pa_cons (pe_callB (id := "max") (call_max2 rfl) (by rfl) bt.max_ (by decide +kernel) (pa_cons pe_int (pa_cons (pe_callB (id := "min") (call_min2 rfl) (by rfl) bt.min_ (by decide +kernel) (pa_cons pe_int (pa_cons (pe_callB (id := "len") (lenK (K := K)) (by rfl) bt.len_ (by decide +kernel) (pa_cons (pv 0) pa_nil)) pa_nil))) pa_nil))) pa_nil)) (pg_name (i := 1) sc_law.nd rfl (Or.inl rfl)) (pss_cons (ps_set (i := 2) sc_law.nd rfl (Or.inl rfl) (pe_pc p__law_box (hr.mono (by decide)) rfl (pa_cons (pe_pc p__law_cell (hr.mono (by decide)) rfl (pa_cons (pv 0) (pa_cons (pv 1) pa_nil))) pa_nil)))
      (pss_cons (ps_set (i := 3) sc_law.nd rfl (Or.inl rfl) (pe_pc p__law_rows (hr.mono (by decide)) rfl (pa_cons (pv 2) pa_nil)))
      (pss_cons (ps_set (i := 4) sc_law.nd rfl (Or.inl rfl) (pe_pc p__law_letters (hr.mono (by decide)) rfl (pa_cons (pv 2) pa_nil)))
      (pss_cons (ps_set (i := 5) sc_law.nd rfl (Or.inl rfl) (pe_makeS m_Words p_Words___init__ takes0 (hr.mono (by decide)) rfl g_Words (pa_cons (pv 3) pa_nil)))
      (pss_cons (ps_set (i := 6) sc_law.nd rfl (Or.inl rfl) (pe_pc p__law_signs (hr.mono (by decide)) rfl (pa_cons (pv 2) (pa_cons (pv 3) (pa_cons (pv 4) (pa_cons (pe_ix (ix_listK (K := K)) (pe_lst (pa_cons pe_int (pa_cons pe_int (pa_cons pe_int pa_nil)))) (pe_pc p__law_take (hr.mono (by decide)) rfl (pa_cons (pv 2) (pa_cons pe_int pa_nil))) (fun _ _ => rfl)) pa_nil))))))
      (pss_cons (ps_set (i := 7) sc_law.nd rfl (Or.inl rfl) (pe_joinK (K := K) rfl pe_str (pv 6)))
      (pss_cons (ps_set (i := 8) sc_law.nd rfl (Or.inl rfl) (pe_pcXN pn_term_of takes0 (hr.mono (by decide)) rfl (pk_cons (pv 7) (pk_cons (pv 5) pk_nil))))
      (pss_cons (ps_if (PW.pt (pw_or (pt_cmpR op_ne (pe_callTy (T := "str") (str_own ms_Term p_Term___str__ (hr.mono (by decide))) (by rfl) bt.str_ (by decide +kernel) (pa_cons (pv 8) pa_nil)) (pv 7) (nomark _)) (pw_or (pt_cmpR (op_neDK (K := K) hr.units) (pe_pm0 cl_Term mm_Term_signs p_Term_signs (hr.mono (by decide)) (pv 8)) (pv 6) (nomark _)) (pw_or1 (pt_cmpR (op_neLK (K := K) mq_Term ne_Term ap_Term p_Term___eq__ (hr.mono (by decide))) (pv 8) (pe_makeSK m_Term p_Term0 takes0 (hr.mono (by decide)) rfl g_Term (pa_cons (pv 5) (pa_cons (pv 6) pa_nil)) pk_nil) (nomark _)))))) (pss_one (ps_ret pe_bl)) pss_nil)
      (pss_cons (ps_if (pt_not (pt_val (pe_callB (id := "isinstance") (isiK (K := K)) (by rfl) bt.isinstance_ (by decide +kernel) (pa_cons (pe_callB (id := "repr") (repr_own mr_Term p_Term___repr__ (hr.mono (by decide))) (by rfl) bt.repr_ (by decide +kernel) (pa_cons (pv 8) pa_nil)) (pa_cons (pe_bltn (v := .ty "str") rfl bt.str_ (by decide +kernel) rfl) pa_nil))))) (pss_one (ps_ret pe_bl)) pss_nil)
      (pss_cons (ps_set (i := 9) sc_law.nd rfl (Or.inl rfl) (pe_lst (pa_cons pe_non (pa_cons (pe_slice (sl_listK (K := K)) (pv 6) po_none (po_some pe_int)) (pa_cons (pe_callTy (T := "tuple") (tupleK (K := K)) (by rfl) bt.tuple_ (by decide +kernel) (pa_cons (pv 6) pa_nil)) (pa_cons pe_int (pa_cons pe_dnewK (pa_cons pe_str (pa_cons pe_bl (pa_cons (pe_op op_add_str pe_str (pv 7)) (pa_cons (pe_op op_add_str (pv 7) pe_str) (pa_cons (pe_op op_add_str (pe_op op_repS pe_str pe_int) pe_str) pa_nil))))))))))))
      (pss_cons (ps_set (i := 10) sc_law.nd rfl (Or.inl rfl) (pe_lst (pa_cons (pv 7) (pa_cons (pe_ix (ix_listK (K := K)) (pv 9) (pe_pc p__law_take (hr.mono (by decide)) rfl (pa_cons (pv 2) (pa_cons pe_int pa_nil))) (fun _ _ => rfl)) (pa_cons (pe_pc p__law_spoilt (hr.mono (by decide)) rfl (pa_cons (pv 2) (pa_cons (pv 7) pa_nil))) pa_nil)))))
      (pss_cons (ps_expr (pe_appendK (K := K) rfl (pv 10) (pe_pc p__law_spoilt (hr.mono (by decide)) rfl (pa_cons (pv 2) (pa_cons (pe_op op_add_str (pe_ix (ix_listK (K := K)) (pv 10) pe_int (fun _ _ => rfl)) pe_str) pa_nil)))))
      (pss_cons (ps_for PassesOwn.never rfl (pi_listK (K := K) rfl (pv 10)) (pg_name (i := 11) sc_law.nd rfl (Or.inl rfl)) (pss_cons (ps_if (pt_not (pt_val (pe_pcG p__law_read_right hgd (hr.mono (by decide)) rfl (pa_cons (pv 3) (pa_cons (pv 5) (pa_cons (pv 11) pa_nil)))))) (pss_one (ps_ret pe_bl)) pss_nil)
      (pss_one (ps_for PassesOwn.never rfl (pi_listK (K := K) rfl (pe_lst (pa_cons pe_non (pa_cons (pv 3) (pa_cons (pv 7) pa_nil))))) (pg_name (i := 12) sc_law.nd rfl (Or.inl rfl)) (pss_one (ps_if (pt_cmpR op_ne (pe_callB (id := "repr") (reprK (K := K) Y hgd hr.units) (by rfl) bt.repr_ (by decide +kernel) (pa_cons (pe_pc p__law_caught (hr.mono (by decide)) rfl (pa_cons (pv 12) (pa_cons (pv 11) pa_nil))) pa_nil)) (pe_callB (id := "repr") (reprK (K := K) Y hgd hr.units) (by rfl) bt.repr_ (by decide +kernel) (pa_cons (pe_tup (pa_cons pe_str (pa_cons (pv 12) pa_nil))) pa_nil)) (nomark _)) (pss_one (ps_ret pe_bl)) pss_nil))))))
      (pss_cons (ps_set (i := 13) sc_law.nd rfl (Or.inl rfl) (pe_callTy (T := "list") (listK (K := K)) (by rfl) bt.list_ (by decide +kernel) (pa_cons (pv 6) pa_nil)))
      (pss_cons (ps_if (pt_chain op_le_str op_le_str pe_str (pe_ix ix_str (pe_ix (ix_listK (K := K)) (pv 6) (pe_un un_neg pe_int) (fun _ _ => rfl)) pe_int (fun _ _ => rfl)) pe_str) (pss_one (ps_asg (pe_ix (ix_listK (K := K)) (pv 4) (pe_pc p__law_take (hr.mono (by decide)) rfl (pa_cons (pv 2) (pa_cons pe_int pa_nil))) (fun _ _ => rfl)) (pg_sub (pv 13) (pe_un un_neg pe_int) set_list))) pss_nil)
      (pss_cons (ps_set (i := 14) sc_law.nd rfl (Or.inl rfl) (pe_op op_cat (pe_lst (pa_cons (pe_tup (pa_cons (pe_ix (ix_tupK (K := K)) (pe_ix (ix_listK (K := K)) (pv 3) pe_int (fun _ _ => rfl)) pe_int (fun _ _ => rfl)) (pa_cons (pe_op op_mod (pe_op op_add (pe_ix (ix_tupK (K := K)) (pe_ix (ix_listK (K := K)) (pv 3) pe_int (fun _ _ => rfl)) pe_int (fun _ _ => rfl)) pe_int) pe_int) pa_nil))) pa_nil)) (pe_slice (sl_listK (K := K)) (pv 3) (po_some pe_int) po_none)))
      (pss_cons (ps_if (pt_not (pt_val (pe_pcG p__law_equal_right hgd (hr.mono (by decide)) rfl (pa_cons (pv 3) (pa_cons (pv 5) (pa_cons (pe_slice (sl_listK (K := K)) (pv 4) po_none (po_some pe_int)) (pa_cons (pv 14) (pa_cons (pe_slice (sl_listK (K := K)) (pv 4) po_none (po_some pe_int)) pa_nil)))))))) (pss_one (ps_ret pe_bl)) pss_nil)
      (pss_cons (ps_set (i := 15) sc_law.nd rfl (Or.inl rfl) (pe_lst (pa_cons (pv 3) (pa_cons (pe_op op_cat (pe_slice (sl_listK (K := K)) (pv 3) (po_some pe_int) po_none) (pe_slice (sl_listK (K := K)) (pv 3) po_none (po_some pe_int))) (pa_cons (pe_ifExp (pt_cmpR op_lt (pe_callB (id := "len") (lenK (K := K)) (by rfl) bt.len_ (by decide +kernel) (pa_cons (pv 3) pa_nil)) pe_int (nomark _)) (pe_op op_cat (pv 3) (pe_lst (pa_cons (pe_tup (pa_cons (pe_pc p__law_spare (hr.mono (by decide)) rfl (pa_cons (pv 3) pa_nil)) (pa_cons pe_int pa_nil))) pa_nil))) (pv 3)) pa_nil)))))
      (pss_one (ps_for PassesOwn.never rfl (pi_listK (K := K) rfl (pv 15)) (pg_name (i := 16) sc_law.nd rfl (Or.inl rfl)) (pss_one (ps_for PassesOwn.never rfl (pi_listK (K := K) rfl (pe_lst (pa_cons (pv 6) (pa_cons (pv 13) (pa_cons (pe_slice (sl_listK (K := K)) (pv 4) po_none (po_some pe_int)) pa_nil))))) (pg_name (i := 10) sc_law.nd rfl (Or.inl rfl)) (pss_one (ps_if (pt_not (pt_val (pe_pcG p__law_equal_right hgd (hr.mono (by decide)) rfl (pa_cons (pv 3) (pa_cons (pv 5) (pa_cons (pv 6) (pa_cons (pv 16) (pa_cons (pv 10) pa_nil)))))))) (pss_one (ps_ret pe_bl)) pss_nil)))))))))))))))))))))))))
      (pss_one (ps_ret pe_bl))), ?_⟩
    have hn3 : ∀ k : Int, k = (if (if (ns.map V.int).length < (8 : Int) then ((ns.map V.int).length : Int) else 8) > 2 then (if (ns.map V.int).length < (8 : Int) then ((ns.map V.int).length : Int) else 8) else 2) → 0 ≤ k ∧ k ≤ 8 := by
      intro k hk
      rw [hk]
      split <;> split <;> omega
    refine ⟨_, rfl, _, _, rfl, .inl ⟨_, hS, rfl⟩, _, _, rfl, _, _, rfl, _, rfl, ?_, ?_, ?_⟩
    · have := hn3 _ rfl
      omega
    · have := hn3 _ rfl
      omega
    have hb12 := (hn3 _ rfl).2
    refine for_it walk_range (fun i σ H' => ∃ s1 s2 s3 s4 s5 s6 s7 s8 s9 s10 s11 s12 s13 s14 s15 s16 : Option V, σ = [some (.ref a), s1, s2, s3, s4, s5, s6, s7, s8, s9, s10, s11, s12, s13, s14, s15, s16] ∧ Same H H') ⟨_, _, _, _, _, _, _, _, _, _, _, _, _, _, _, _, rfl, Same.refl H⟩ (fun _ _ _ _ _ => trivial) ?_ (fun σ G p => q G)
    rintro i x σ H1' H1 hi ⟨s1, s2, s3, s4, s5, s6, s7, s8, s9, s10, s11, s12, s13, s14, s15, s16, rfl, e1⟩ ⟨rfl, rfl⟩
    refine ⟨_, rfl, _, rfl, a, ns, i, (by show [V.ref a, V.int (0 + (i : Int))] = _; rw [Int.zero_add]), e1.seq hS, by omega, fun c => ?_⟩
    refine ⟨c, rfl, fun b o hb bg => ?_⟩
    have hbH : H b = none := e1.free hb
    (generalize hG : L2.upd _ b _ = H2; have sb := same_of hG hb; have eb := at_of hG; clear hG)
    refine ⟨_, rfl, b, 890000000, rfl, ⟨o, eb, bg.mono (by decide)⟩, fun H3 rw_ rows d3 ro hrw lrw nrw hrows => ?_⟩
    refine ⟨_, rfl, b, 880000000, rfl, let ⟨o, e, g⟩ := d3.bag; ⟨o, e, g.mono (by decide)⟩, fun H4 lt ls d4 hls hlt nlt elt => ?_⟩
    have hrows4 := Dt.same d4.hide hrows
    obtain ⟨xr, erw3, hxr3⟩ := lrw
    have erw4 := d4.at nrw erw3
    refine ⟨_, rfl, fun wa dx hwa hdx ne => words_of ro hwa hdx ne (Dt.same hide_same hrows4) (.inl rfl) fun G0 sG0 wAt => ?_⟩
    have D0 : Dr b 880000000 H4 G0 := Dr.same sG0 d4.bag
    have wAt0 : WordsAt K (hide G0 b) wa rows := by
      obtain ⟨o, e, g⟩ := D0.bag
      obtain ⟨xs, rfl⟩ := g.is
      exact wAt.hide e
    have keepH : ∀ {m : Nat} {G G' : Hp}, Dr b m G G' → Same H G → Same H G' := fun d s a' o' e => d.fx a' o' (ne_of_none e hbH) (s a' o' e)
    have eG0 := keepH D0 (keepH d4 (keepH d3 (e1.trans sb)))
    refine ⟨_, rfl, _, rfl, _, rfl, (by show 3 ≤ sizeLine; decide), fun L8 hL8 => ?_⟩
    (generalize hG : L2.upd _ L8 _ = G1; have sL8 := same_of hG hL8; have eL8 := at_of hG; clear hG)
    have D1 : Dr b 880000000 G0 G1 := Dr.same sL8 D0.bag
    have nL8 : L8 ≠ b := D0.ne hL8
    refine ⟨_, rfl, b, _, 879999999, 3, rfl, D1.bag.choose_spec.1, D1.bag.choose_spec.2, by decide, by decide +kernel, fun x8 o8 x80 x83 g8 => ?_⟩
    (generalize hG : L2.upd _ b _ = G2; have d8 := dr_of hG g8; clear hG)
    obtain ⟨v8, hv8, hm8⟩ := atI_in (xs := [V.int 16, .int 16, .int 100]) x80 x83
    obtain ⟨up, rfl, up1, up2⟩ : ∃ up : Nat, v8 = .int up ∧ 1 ≤ up ∧ up ≤ 100 := by
      simp only [List.mem_cons, List.not_mem_nil, or_false] at hm8
      rcases hm8 with rfl | rfl | rfl
      · exact ⟨16, rfl, by decide, by decide⟩
      · exact ⟨16, rfl, by decide, by decide⟩
      · exact ⟨100, rfl, by decide, by decide⟩
    have D2 := D1.trans d8
    refine ⟨L8, _, _, _, rfl, rfl, .inl (.inl (d8.at nL8 eL8)), hv8, ?_⟩
    have elt2 : hide G2 b lt = some (.lst (ls.map V.str)) := D2.hide _ _ (D0.hide _ _ (by rw [hide_ne nlt]; exact elt))
    have hrows2 := Dt.same (D0.trans D2).hide hrows4
    have wAt2 := wAt0.same D2.hide
    refine ⟨b, 870000000, rw_, lt, up, rows, ls, rfl, up1, by omega, let ⟨o, e, g⟩ := D2.bag; ⟨o, e, g.mono (by omega)⟩, ro, hls, hrows2, elt2, fun G3 sg zs d9 sok hsg nsg esg => ?_⟩
    have gz := good_signs ro hls sok up2
    have hrows3 := Dt.same d9.hide hrows2
    have wAt3 := wAt2.same d9.hide
    have elt3 := d9.hide _ _ elt2
    have erw5 : G3 rw_ = some (.lst xr) := ((D0.trans D2).trans d9).at nrw erw4
    have eG3 := keepH d9 (keepH D2 eG0)
    have b3 := d9.bag
    have sum := gz.sum
    have jl := join_sum " " zs
    rw [one_blank] at jl
    -- the line
    refine ⟨⟨_, rfl⟩, _, rfl, _, sg, zs, rfl, rfl, .inl (.inl (.inl esg)), (by rw [one_blank]; omega), ?_⟩
    refine ⟨_, rfl, _, rfl, rfl, .ref wa, .str (Txt.join " " zs), rfl, .inr ⟨wa, rows, .str (Txt.join " " zs), rfl, wAt3.same hide_same, ⟨ro.lo, ro.hi⟩, .str _, fun z e => (by cases e; omega), ?_⟩⟩
    rw [gz.line ro]
    show outE K G3 _ _ (outS rows zs)
    rw [gz.out]
    intro G4 ta es s4 hta tat
    have tok : TermOk K G4 ta rows zs := ⟨wa, es, tat, (wAt3.same hide_same).same s4, ro, gz.lays⟩
    obtain ⟨tdx, tsa, tea, ita, _, _⟩ := id tat
    have hsum : (zs.map (fun x : Str => x.length)).sum + zs.length * 1 ≤ 100000 := by omega
    refine ⟨_, rfl, ta, _, _, rfl, ita, ta, wa, zs, es, rfl, tat, hsum, _, rfl, _, rfl, rfl, _, rfl, iteF' noDiff ?_⟩
    refine ⟨_, rfl, ta, _, _, rfl, ita, rfl, ta, wa, zs, es, rfl, tat, fun l hl => ?_⟩
    (generalize hG : L2.upd _ l _ = G5; have sl := same_of hG hl; have el := at_of hG; clear hG)
    refine ⟨_, rfl, strs_ne (.inl (.inl el)) (.inl (.inl (sl _ _ (s4 _ _ esg)))) gz.lays gz.lays ⟨_, rfl, iteF' (by simp) ?_⟩⟩
    have s45 := s4.trans sl
    refine ⟨_, rfl, _, rfl, _, rfl, rfl, rfl, fun a2 dx2 ha2 hdx2 ne2 => made_of ha2 hdx2 ne2 ((wAt3.same hide_same).same s45) ro gz (.inl (.inl (s45 _ _ esg))) fun G6 s6 t2 => ?_⟩
    obtain ⟨udx, ufs, i2⟩ := t2.ins
    have ita6 := s6 _ _ (sl _ _ ita)
    have tok6 := (tok.same sl).same s6
    refine ⟨ta, _, _, rfl, ita6, .inr ⟨a2, tcls K, _, _, rfl, i2, .inl rfl⟩, ta, .ref a2, rows, zs, rfl, tok6, .inl ⟨a2, rows, zs, rfl, t2, fun G7 s7 => ⟨_, rfl, _, rfl, iteF' noDiff2 ?_⟩⟩⟩
    have s47 := (sl.trans s6).trans s7
    refine ⟨_, rfl, ta, _, _, rfl, s47 _ _ ita, ta, wa, zs, es, rfl, tat.same s47, hsum, fun rz => ⟨_, rfl, _, _, _, _, true, rfl, .ty "str", .base (.str rz), kit_ty (by decide +kernel), _, rfl, iteF ?_⟩⟩
    have s37 := s4.trans s47
    clear s47 ita6 tok6 ita tok tat i2 t2
    have esg7 := s37 _ _ esg
    have b7 : Dr b 870000000 G3 G7 := Dr.same s37 b3
    obtain ⟨line, eline⟩ : ∃ line, line = Txt.join " " zs := ⟨_, rfl⟩
    have ll : line.length ≤ 3100 := by rw [eline]; omega
    have lp : Plain line := by rw [eline]; exact Plain.join (plainB (by decide +kernel)) gz.pl
    rw [← eline]
    have szz : ∀ {n : Nat}, n ≤ 90000 → n ≤ sizeLine := fun h => sz5 (by omega)
    have lb : (" " : Str).length = 1 := by decide +kernel
    have pb : Plain " " := plainB (by decide +kernel)
    -- odd ones
    refine ⟨_, rfl, _, rfl, sg, _, rfl, .inl (.inl esg7), fun S hSS => ?_⟩
    rw [show cutV (zs.map V.str) none (some 90) = (zs.map V.str).take 90 from cut_upto (n := 90) _, ← List.map_take]
    have nSb : S ≠ b := b7.ne hSS
    (generalize hG : L2.upd _ S _ = I1; have sS := same_of hG hSS; have eS := at_of hG; clear hG)
    refine ⟨_, rfl, sg, _, rfl, .inl ⟨.inl (.inl (sS _ _ esg7)), fun T hT => ?_⟩⟩
    have nTS : T ≠ S := fun e => by rw [e, eS] at hT; cases hT
    (generalize hG : L2.upd _ T _ = I2; have sT := same_of hG hT; have eT := at_of hG; clear hG)
    refine fun D hD => ?_
    have nDS : D ≠ S := fun e => by rw [e, sT _ _ eS] at hD; cases hD
    (generalize hG : L2.upd _ D _ = I3; have sD := same_of hG hD; have eD := at_of hG; clear hG)
    refine ⟨_, rfl, _, _, rfl, rfl, (by rw [lb]; exact szz (by omega)), _, rfl, _, _, rfl, rfl, (by rw [lb]; exact szz (by omega)), "A ", 100, rfl, rfl, by decide, by decide +kernel, by decide +kernel, _, _, rfl, rfl, by decide +kernel, (by show 10 ≤ sizeLine; decide), fun LO hLO => ?_⟩
    have nLS : LO ≠ S := fun e => by rw [e, sD _ _ (sT _ _ eS)] at hLO; cases hLO
    show _
    (generalize hG : L2.upd _ LO _ = I4; have sLO := same_of hG hLO; have eLO := at_of hG; clear hG)
    have sI := ((sS.trans sT).trans sD).trans sLO
    have b4 : Dr b 870000000 G7 I4 := Dr.same sI b7.bag
    have nTb : T ≠ b := (Dr.same sS b7.bag).ne hT
    have nDb : D ≠ b := (Dr.same (sS.trans sT) b7.bag).ne hD
    have nLOb : LO ≠ b := (Dr.same ((sS.trans sT).trans sD) b7.bag).ne hLO
    refine ⟨_, rfl, _, rfl, _, rfl, b, _, 869999999, 10, rfl, b4.bag.choose_spec.1, b4.bag.choose_spec.2, by decide, by decide +kernel, fun x9 o9 x90 x910 g9 => ?_⟩
    (generalize hG : L2.upd _ b _ = I5; have d10 := dr_of hG g9; clear hG)
    obtain ⟨v, hv, hvm⟩ := atI_in (xs := [V.non, .ref S, .ref T, .int 5, .ref D, .str "", .bl true, .str (" " ++ line), .str (line ++ " "), .str a201]) x90 x910
    refine ⟨LO, _, _, v, rfl, rfl, .inl (.inl (d10.at nLOb eLO)), hv, ?_⟩
    clear hv
    have zT : hide2 I4 b S T = some (.tup (zs.map V.str)) := hide2_at nTb nTS (sLO _ _ (sD _ _ eT))
    have zD : hide2 I4 b S D = some (.dK []) := hide2_at nDb nDS (sLO _ _ eD)
    have smS : ∀ {z : Str}, Plain z → z.length ≤ 90000 → LineOk (.str z) := fun {z} pz lz => ⟨Sm.plain pz (by omega), fun y e => by cases e; exact ⟨pz, lz⟩⟩
    have plain : ∀ {d : PyData}, smB 5 100000 d = true → (∀ z, d ≠ .str z) → LineOk d := fun h n => ⟨h, fun z e => absurd e (n z)⟩
    have oddF : v = .ref S ∨ ∃ d, isD "list" d = false ∧ LineOk d ∧ Dt K (hide2 I4 b S) v d ∧ v ≠ .ref b := by
      simp only [List.mem_cons, List.not_mem_nil, or_false] at hvm
      rcases hvm with rfl | rfl | rfl | rfl | rfl | rfl | rfl | rfl | rfl | rfl
      · exact .inr ⟨.none, by decide +kernel, plain (by decide +kernel) (fun z => nofun), .non, nofun⟩
      · exact .inl rfl
      · refine .inr ⟨.tuple (zs.map .str), (by show (kitB "tuple" "list" == some true) = false; decide +kernel), ⟨?_, fun z e => (by cases e)⟩, .tup (.inl (.inl zT)) (dt_strs zs), fun e => nTb (by cases e; rfl)⟩
        refine (Sm.tuple (m := 100) (k := 2) (n := 30) (fun d hd => ?_) (by rw [List.length_map]; exact gz.few)).mono (by decide) (by decide)
        obtain ⟨z, hz, rfl⟩ := List.mem_map.mp hd
        exact gz.sm z hz
      · exact .inr ⟨.int 5, by decide +kernel, plain (by decide +kernel) (fun z => nofun), .int _, nofun⟩
      · exact .inr ⟨.dict [], by decide +kernel, plain (by decide +kernel) (fun z => nofun), .dct (ks := []) (xs := []) (ds := []) zD rfl .nil, fun e => nDb (by cases e; rfl)⟩
      · exact .inr ⟨.str "", by decide +kernel, smS (plainB (by decide +kernel)) (by decide +kernel), .str _, nofun⟩
      · exact .inr ⟨.bool true, by decide +kernel, plain (by decide +kernel) (fun z => nofun), .bl _, nofun⟩
      · exact .inr ⟨.str (" " ++ line), (by show (kitB "str" "list" == some true) = false; decide +kernel), smS (pb.app lp) (by rw [add_len, lb]; omega), .str _, nofun⟩
      · exact .inr ⟨.str (line ++ " "), (by show (kitB "str" "list" == some true) = false; decide +kernel), smS (lp.app pb) (by rw [add_len, lb]; omega), .str _, nofun⟩
      · exact .inr ⟨.str a201, (by show (kitB "str" "list" == some true) = false; decide +kernel), smS (plainB a201_ok.2.1) a201_ok.2.2, .str _, nofun⟩
    clear hvm
    refine ⟨_, rfl, _, rfl, b, line, 869999990, rfl, by omega, lp, let ⟨o, e, g⟩ := d10.bag; ⟨o, e, g.mono (by decide)⟩, fun I6 y1 d11 ly1 py1 => ?_⟩
    refine ⟨(by show 3 ≤ sizeLine; decide), fun MR hMR => ?_⟩
    have nMb : MR ≠ b := d11.ne hMR
    have eS6 : I6 S = some (.lst ((zs.take 90).map V.str)) := d11.at nSb (d10.at nSb (sLO _ _ (sD _ _ (sT _ _ eS))))
    have nMS : MR ≠ S := fun e => by rw [e, eS6] at hMR; cases hMR
    (generalize hG : L2.upd _ MR _ = I7; have sMR := same_of hG hMR; have eMR := at_of hG; clear hG)
    have d12 : Dr b 869999990 I6 I7 := Dr.same sMR d11.bag
    have lA : ("A" : Str).length = 1 := by decide +kernel
    refine ⟨_, rfl, .inl ⟨rfl, _, .inl (.inl eMR)⟩, _, rfl, _, rfl, MR, _, _, .str y1, rfl, rfl, .inl (.inl eMR), atI_nat (j := 2) rfl, _, _, rfl, rfl, (by rw [lA]; exact szz (by omega)), ?_⟩
    refine ⟨b, y1 ++ "A", 869999980, rfl, by rw [add_len, lA]; omega, py1.app (plainB (by decide +kernel)), let ⟨o, e, g⟩ := d12.bag; ⟨o, e, g.mono (by decide)⟩, fun I8 y2 d13 ly2 py2 => ?_⟩
    rw [add_len, lA] at ly2
    have eMR8 := d13.at nMb eMR
    refine ⟨MR, _, _, rfl, rfl, eMR8, (by show 3 < sizeLine; decide), ?_⟩
    have mt : L2.upd I8 MR (.lst ([.str line, v, .str y1] ++ [.str y2])) MR = some (.lst [.str line, v, .str y1, .str y2]) := upd_same ..
    have mo : ∀ a' : Addr, a' ≠ MR → L2.upd I8 MR (.lst ([.str line, v, .str y1] ++ [.str y2])) a' = I8 a' := fun a' h => upd_ne h
    generalize L2.upd I8 MR (.lst ([.str line, v, .str y1] ++ [.str y2])) = F at mt mo ⊢
    -- all that stays
    have stay : ∀ {a' : Addr} {o' : HO}, a' ≠ b → G7 a' = some o' → hide2 F b S a' = some o' := fun {a' o'} hb' e => by
      have nS : a' ≠ S := fun z => by rw [z, hSS] at e; cases e
      have nM : a' ≠ MR := fun z => by
        have := d11.at hb' (d10.at hb' (sI _ _ e))
        rw [z, hMR] at this
        cases this
      exact hide2_at hb' nS ((mo a' nM).trans (d13.at hb' (sMR _ _ (d11.at hb' (d10.at hb' (sI _ _ e))))))
    have sZ3 : Same (hide G3 b) (hide2 F b S) := fun a' o' e => by
      have hb' : a' ≠ b := fun z => by rw [z, hide_self] at e; cases e
      rw [hide_ne hb'] at e
      exact stay hb' (s37 _ _ e)
    have rowsZ := Dt.same sZ3 hrows3
    have xrZ := DtAll.same ((((d4.hide).trans (D0.trans D2).hide).trans d9.hide).trans sZ3) hxr3
    have waZ := wAt3.same sZ3
    have ltZ := sZ3 _ _ elt3
    have sgZ : hide2 F b S sg = some (.lst (zs.map V.str)) := stay nsg esg7
    have rwZ : hide2 F b S rw_ = some (.lst xr) := stay nrw (s37 _ _ erw5)
    have mrZ : hide2 F b S MR = some (.lst [.str line, v, .str y1, .str y2]) := hide2_at nMb nMS mt
    have eSF : F S = some (.lst ((zs.take 90).map V.str)) := (mo S nMS.symm).trans (d13.at nSb (sMR _ _ eS6))
    have bF : ∃ o, F b = some o ∧ Bag 869999980 o := let ⟨o, e, g⟩ := d13.bag; ⟨o, (mo b nMb.symm).trans e, g⟩
    have sI4 : Same (hide2 I4 b S) (hide2 F b S) := hide2_fx fun a' o' h1 h2 e => by
      have nM : a' ≠ MR := fun z => by
        have := d11.at h1 (d10.at h1 e)
        rw [z, hMR] at this
        cases this
      exact (mo a' nM).trans (d13.at h1 (sMR _ _ (d11.at h1 (d10.at h1 e))))
    have HZ : Same H (hide2 F b S) := fun a' o' e => by
      have hb' : a' ≠ b := ne_of_none e hbH
      exact stay hb' (s37 _ _ (eG3 _ _ e))
    replace oddF : v = .ref S ∨ ∃ d, isD "list" d = false ∧ LineOk d ∧ Dt K (hide2 F b S) v d ∧ v ≠ .ref b := oddF.imp id fun ⟨d, h1, h2, h3, h4⟩ => ⟨d, h1, h2, Dt.same sI4 h3, h4⟩
    clear sI4 stay zT zD mo mt eMR8 d13 d12 d11 d10 sMR eMR eS6 eLO sLO
    have zS : hide2 F b S S = none := hide_self
    have zF : Same (hide2 F b S) F := fun a' o' e => hide_same _ _ (hide_same _ _ e)
    have ok1 : LineOk (.str line) := smS lp (by omega)
    have ok2 : LineOk (.str y1) := smS py1 (by omega)
    have ok3 : LineOk (.str y2) := smS py2 (by omega)
    have strL : ∀ z : Str, isD "list" (.str z) = false := fun z => (by show (kitB "str" "list" == some true) = false; decide +kernel)
    -- the lines are read
    refine ⟨_, rfl, MR, rfl, ⟨_, .inl (.inl (zF _ _ mrZ))⟩, for_it walk_list (fun j σ G => (∃ s1 s8 s9 s11 s12 s13 s14 s15 s16, σ = [some (.ref a), s1, some (.ref b), some (.ref rw_), some (.ref lt), some (.ref wa), some (.ref sg), some (.str line), s8, s9, some (.ref MR), s11, s12, s13, s14, s15, s16]) ∧
      Same (hide2 F b S) G ∧ (∃ o, G b = some o ∧ Bag 869999980 o) ∧ (j ≤ 1 → G S = some (.lst ((zs.take 90).map V.str)))) ⟨⟨_, _, _, _, _, _, _, _, _, rfl⟩, zF, bF, fun _ => eSF⟩ (fun j σ G _ p => .inl (.inl (p.2.1 _ _ mrZ))) ?_ ?_⟩
    · rintro j x σ GG G hj ⟨⟨t1, t8, t9, t11, t12, t13, t14, t15, t16, rfl⟩, sG, bG, kS⟩ ⟨rfl, hx⟩
      obtain ⟨d, nxb, hy, nS0⟩ : ∃ d, x ≠ .ref b ∧ ((isD "list" d = false ∧ Dt K (hide2 F b S) x d ∧ LineOk d) ∨ (∃ (a : Addr) (us : List Str), x = .ref a ∧ d = .list (us.map .str) ∧ hide2 F b S a = none ∧ G a = some (.lst (us.map V.str)) ∧ us.length ≤ 100 ∧ ∀ z ∈ us, Sm 2 30 (.str z))) ∧ (j = 0 → x ≠ .ref S) := by
        rcases j with _ | _ | _ | _ | j
        · cases hx
          exact ⟨_, nofun, .inl ⟨strL _, .str _, ok1⟩, fun _ => nofun⟩
        · cases hx
          rcases oddF with rfl | ⟨d, h1, h2, h3, h4⟩
          · refine ⟨_, fun e => nSb (by cases e; rfl), .inr ⟨S, zs.take 90, rfl, rfl, zS, kS (Nat.le_refl _), ?_, fun z hz => gz.sm z (List.mem_of_mem_take hz)⟩, fun h => by cases h⟩
            rw [List.length_take]
            have := gz.few
            omega
          · exact ⟨d, h4, .inl ⟨h1, h3, h2⟩, fun h => by cases h⟩
        · cases hx
          exact ⟨_, nofun, .inl ⟨strL _, .str _, ok2⟩, fun h => by cases h⟩
        · cases hx
          exact ⟨_, nofun, .inl ⟨strL _, .str _, ok3⟩, fun h => by cases h⟩
        · cases hx
      refine ⟨_, rfl, _, rfl, _, rfl, rw_, wa, x, rows, d, hide2 F b S, rfl, ro, sG, rowsZ, waZ, hy, fun G1 s1 k1 => ⟨_, rfl, iteF ?_⟩⟩
      have b1 : ∃ o, G1 b = some o ∧ Bag 869999980 o := let ⟨o, e, g⟩ := bG; ⟨o, k1 b o e nxb, g⟩
      have kS1 : j + 1 ≤ 1 → G1 S = some (.lst ((zs.take 90).map V.str)) := fun h => k1 S _ (kS (by omega)) (nS0 (by omega))
      refine ⟨_, rfl, _, rfl, (by show 3 ≤ sizeLine; decide), fun LB hLB => ?_⟩
      (generalize hG : L2.upd _ LB _ = G2; have sLB := same_of hG hLB; have eLB := at_of hG; clear hG)
      have s2 := s1.trans sLB
      have bads : ∀ u ∈ [V.non, .ref rw_, .str line], ∃ e, Dt K (hide2 F b S) u e ∧ Sm 5 100000 e := by
        intro u hu
        simp only [List.mem_cons, List.not_mem_nil, or_false] at hu
        rcases hu with rfl | rfl | rfl
        · exact ⟨.none, .non, Sm.none⟩
        · exact ⟨_, rowsZ, (sm_rows ro).mono (by decide) (by decide)⟩
        · exact ⟨_, .str _, ok1.sm⟩
      refine ⟨LB, rfl, ⟨_, .inl (.inl eLB)⟩, for_it walk_list (fun m σ G => (∃ s1 s8 s9 s12 s13 s14 s15 s16, σ = [some (.ref a), s1, some (.ref b), some (.ref rw_), some (.ref lt), some (.ref wa), some (.ref sg), some (.str line), s8, s9, some (.ref MR), some x, s12, s13, s14, s15, s16]) ∧ Same G2 G) ⟨⟨_, _, _, _, _, _, _, _, rfl⟩, Same.refl _⟩ (fun m σ G _ p => p.2.seq (.inl (.inl eLB))) ?_ ?_⟩
      · rintro m u σ G3 G4 hm ⟨⟨r1, r8, r9, r12, r13, r14, r15, r16, rfl⟩, s3⟩ ⟨rfl, hu⟩
        obtain ⟨e, de, sme⟩ := bads u (List.mem_of_getElem? hu)
        have de3 := Dt.same (s2.trans s3) de
        have sh := (sm_pair (kindL_small none) sme).shows
        have shw : Shows (.tuple [.str "words", e]) := (sm_pair (show Sm 5 100000 (.str "words") from (by decide +kernel : smB 5 100000 (.str "words") = true)) sme).shows
        refine ⟨_, rfl, _, rfl, u, x, rfl, .inl ⟨e, de3, fun G5 p s5 hp ep => ?_⟩⟩
        refine ⟨.ref p, .tuple [.str "words", e], rfl, .tup (.inl (.inl ep)) (.cons (.str _) (.cons (Dt.same s5 de3) .nil)), shw.ok, shw.deep, shw.size, ?_⟩
        refine ⟨_, rfl, (by show 2 ≤ sizeLine; decide), fun TW hTW => ?_⟩
        (generalize hG : L2.upd _ TW _ = G6; have sTW := same_of hG hTW; have eTW := at_of hG; clear hG)
        refine ⟨.ref TW, .tuple [.str "words", e], rfl, .tup (.inl (.inl eTW)) (.cons (.str _) (.cons (Dt.same (s5.trans sTW) de3) .nil)), shw.ok, shw.deep, shw.size, rfl, _, rfl, iteF' noDiff ?_⟩
        exact ⟨⟨_, _, _, _, _, _, _, _, rfl⟩, (s3.trans s5).trans sTW⟩
      · rintro σ G3 ⟨⟨r1, r8, r9, r12, r13, r14, r15, r16, rfl⟩, s3⟩
        have s13 := sLB.trans s3
        exact ⟨⟨_, _, _, _, _, _, _, _, _, rfl⟩, s2.trans s3, let ⟨o, e, g⟩ := b1; ⟨o, s13 _ _ e, g⟩, fun h => s13 _ _ (kS1 h)⟩
    rintro σ G ⟨⟨t1, t8, t9, t11, t12, t13, t14, t15, t16, rfl⟩, sG, bG, _⟩
    -- near
    refine ⟨_, rfl, sg, _, rfl, .inl (.inl (.inl (sG _ _ sgZ))), fun N hN => ?_⟩
    (generalize hG : L2.upd _ N _ = J1; have sN := same_of hG hN; have eN := at_of hG; clear hG)
    have sJ := sG.trans sN
    have bJ : Dr b 869999980 G J1 := Dr.same sN bG
    have nNb : N ≠ b := by
      obtain ⟨o, e, _⟩ := bG
      exact fun z => by rw [z, e] at hN; cases hN
    -- the last sign
    have lz1 := gz.some_
    obtain ⟨zl, hzl⟩ : ∃ zl, zs[zs.length - 1]? = some zl := ⟨_, List.getElem?_eq_getElem (by omega)⟩
    have zlm : zl ∈ zs := List.mem_of_getElem? hzl
    have ixl : ixN (zs.map V.str).length (-1) = some (zs.length - 1) := by
      rw [List.length_map]
      unfold ixN
      rw [if_neg (by decide), if_pos (by omega)]
      congr 1
      omega
    have atl : atI (zs.map V.str) (-1) = some (.str zl) := by
      unfold atI
      rw [ixl]
      show (zs.map V.str)[zs.length - 1]? = _
      rw [List.getElem?_map, hzl]
      rfl
    have nez := (gz.blank ro zl zlm).2.2
    obtain ⟨c, cr, ec⟩ : ∃ c cr, tl zl = c :: cr := by
      cases er : tl zl with
      | nil =>
        have e0 : tl ("" : Str) = [] := by decide +kernel
        have h : [zl].map tl = [("" : Str)].map tl := by rw [List.map_cons, List.map_cons, er, e0]
        exact absurd (List.cons.inj (map_tl_inj h)).1 nez
      | cons c r => exact ⟨c, r, rfl⟩
    have atc : atI zl.cps.toList 0 = some c := atI_nat (j := 0) (by show (tl zl)[0]? = some c; rw [ec]; rfl)
    have zll := gz.len zlm
    have eA : ("A" : Str).cps.toList = [65] := by decide +kernel
    have eZ : ("Z" : Str).cps.toList = [90] := by decide +kernel
    have cap : capL c = true → letterL (tl zl) = true := fun hc => by
      have hn := (lacks_out zs 1 0 gz.lk).1 zl zlm
      rw [plS_none] at hn
      cases hL : letterL (tl zl) with
      | true => rfl
      | false =>
        rw [hL, Bool.not_false, Bool.and_true] at hn
        have hm : zl ∈ rows.map (·.1) := by
          cases h : decide (zl ∈ rows.map (·.1)) with
          | true => exact of_decide_eq_true h
          | false => rw [h] at hn; cases hn
        obtain ⟨r, hr, er⟩ := List.mem_map.mp hm
        have h := ro.names r hr
        rw [er] at h
        unfold nameS at h
        have h3 := (Bool.and_eq_true_iff.mp h).2
        have := of_decide_eq_true (Bool.and_eq_true_iff.mp (List.all_eq_true.mp h3 c (by show c ∈ tl zl; rw [ec]; simp))).1
        unfold capL at hc
        have := of_decide_eq_true (Bool.and_eq_true_iff.mp hc).2
        omega
    refine ⟨_, rfl, _, rfl, sg, _, _, .str zl, rfl, rfl, .inl (.inl (sJ _ _ sgZ)), atl, zl, _, c, rfl, rfl, szz (by omega), atc, _, _, rfl, rfl, _, rfl, ?_⟩
    show if (!decide ([c] < ("A" : Str).cps.toList)) = true then _ else _
    rw [eA]
    have goOn : ∀ {W : Hp}, W = J1 → Same (hide2 F b S) W ∧ W N = some (.lst (zs.map V.str)) := fun e => by rw [e]; exact ⟨sJ, eN⟩
    by_cases h1 : (!decide ([c] < [65])) = true
    rotate_left
    · rw [Bool.eq_false_iff.mpr h1]
      refine iteF ⟨_, rfl, iteF ?_⟩
      obtain ⟨W, eW⟩ : ∃ W, W = J1 := ⟨_, rfl⟩
      obtain ⟨sW, eNW⟩ := goOn eW
      rw [← eW]
      obtain ⟨ys, eys⟩ : ∃ ys, ys = zs := ⟨_, rfl⟩
      have gy : Good rows ys := by rw [eys]; exact gz
      rw [← eys] at eNW
      have rowsW := Dt.same sW rowsZ
      have waW := waZ.same sW
      have ltW := sW _ _ ltZ
      have sgW := sW _ _ sgZ
      have rwW := sW _ _ rwZ
      have xrW := DtAll.same sW xrZ
      have HW := HZ.trans sW
      obtain ⟨x0, xrs, exr, r, rs, erows, p0, ex0, hT0, hAs⟩ := row_split ro xrW
      obtain ⟨l0, lsr, els, hl0⟩ : ∃ l0 lsr, ls = l0 :: lsr ∧ lokB l0 = true := by
        obtain ⟨h5, hk⟩ := hls
        cases hc : ls with
        | nil => rw [hc] at h5; cases h5
        | cons z r => exact ⟨z, r, rfl, hk z (by rw [hc]; simp)⟩
      have c1 : cutV (ls.map V.str) none (some 1) = [l0].map V.str := by
        rw [show cutV (ls.map V.str) none (some 1) = (ls.map V.str).take 1 from cut_upto (n := 1) _, els]
        rfl
      have c2 : cutV xr (some 1) none = xrs := by
        rw [show cutV xr (some 1) none = xr.drop 1 from cut_from (n := 1) _, exr]
        rfl
      have c3 : cutV xr none (some 1) = [x0] := by
        rw [show cutV xr none (some 1) = xr.take 1 from cut_upto (n := 1) _, exr]
        rfl
      have lr : rs.length ≤ 11 := by
        have := ro.few
        rw [erows] at this
        simpa using this
      have lx : xrs.length = rs.length := by rw [hAs.length, List.length_map]
      have at0 : atI xr 0 = some (.ref p0) := by
        rw [exr, ← ex0]
        exact atI_nat (j := 0) rfl
      -- bent
      refine ⟨_, rfl, rw_, _, _, .ref p0, rfl, rfl, .inl (.inl rwW), at0, p0, _, _, .str r.1, rfl, rfl, hT0, atI_nat (j := 0) rfl, ?_⟩
      refine ⟨_, rfl, rw_, _, _, .ref p0, rfl, rfl, .inl (.inl rwW), at0, p0, _, _, .int r.2, rfl, rfl, hT0, atI_nat (j := 1) rfl, _, _, rfl, rfl, _, _, rfl, rfl, (by show (0 : Int) < 5; decide), (by show 2 ≤ sizeLine; decide), fun TB hTB => ?_⟩
      (generalize hG : L2.upd _ TB _ = W1; have sTB := same_of hG hTB; have eTB := at_of hG; clear hG)
      refine ⟨(by show 1 ≤ sizeLine; decide), fun LB hLB => ?_⟩
      (generalize hG : L2.upd _ LB _ = W2; have sLB := same_of hG hLB; have eLB := at_of hG; clear hG)
      have s02 := sTB.trans sLB
      refine ⟨_, rfl, _, rfl, rw_, _, rfl, .inl (.inl (s02 _ _ rwW)), fun R1 hR1 => ?_⟩
      rw [c2]
      (generalize hG : L2.upd _ R1 _ = W3; have sR1 := same_of hG hR1; have eR1 := at_of hG; clear hG)
      refine ⟨LB, R1, _, _, rfl, rfl, sR1 _ _ eLB, eR1, (by rw [lx]; exact szz (by simp; omega)), fun BT hBT => ?_⟩
      (generalize hG : L2.upd _ BT _ = W4; have sBT := same_of hG hBT; have eBT := at_of hG; clear hG)
      have s04 := (s02.trans sR1).trans sBT
      have ro' := ro
      rw [erows] at ro'
      have bo : RowsOk ((r.1, (r.2 + 1) % 5) :: rs) := rows_bent ro' (Int.emod_nonneg _ (by decide)) (by have := Int.emod_lt_of_pos (r.2 + 1) (show (0 : Int) < 5 by decide); omega)
      have dBT : Dt K W4 (.ref BT) (.list (((r.1, (r.2 + 1) % 5) :: rs).map rowPy)) := .lst (.inl (.inl eBT)) (.cons (.tup (.inl (.inl (sBT _ _ (sR1 _ _ (sLB _ _ eTB))))) (.cons (.str _) (.cons (.int _) .nil))) (DtAll.same s04 hAs))
      refine ⟨_, rfl, _, rfl, _, rfl, _, rfl, lt, _, rfl, .inl (.inl (s04 _ _ ltW)), fun M1 hM1 => ?_⟩
      rw [c1]
      (generalize hG : L2.upd _ M1 _ = W5; have sM1 := same_of hG hM1; have eM1 := at_of hG; clear hG)
      refine ⟨_, rfl, _, rfl, _, rfl, lt, _, rfl, .inl (.inl (sM1 _ _ (s04 _ _ ltW))), fun M2 hM2 => ?_⟩
      rw [c1]
      (generalize hG : L2.upd _ M2 _ = W6; have sM2 := same_of hG hM2; have eM2 := at_of hG; clear hG)
      have s06 := (s04.trans sM1).trans sM2
      refine ⟨rw_, wa, M1, BT, M2, rows, _, [l0], [l0], rfl, ro, bo, good_letter hl0 _, good_letter hl0 _, Dt.same s06 rowsW, waW.same s06, .inl (.inl (sM2 _ _ eM1)), Dt.same (sM1.trans sM2) dBT, .inl (.inl eM2), fun W7 s67 => ⟨_, rfl, iteF ?_⟩⟩
      have s07 := s06.trans s67
      -- others
      have rwW7 := s07 _ _ rwW
      refine ⟨_, rfl, _, rfl, _, rfl, rw_, _, rfl, .inl (.inl rwW7), fun R2 hR2 => ?_⟩
      rw [c2]
      (generalize hG : L2.upd _ R2 _ = W8; have sR2 := same_of hG hR2; have eR2 := at_of hG; clear hG)
      refine ⟨_, rfl, _, rfl, rw_, _, rfl, .inl (.inl (sR2 _ _ rwW7)), fun R3 hR3 => ?_⟩
      rw [c3]
      (generalize hG : L2.upd _ R3 _ = W9; have sR3 := same_of hG hR3; have eR3 := at_of hG; clear hG)
      refine ⟨R2, R3, _, _, rfl, rfl, sR3 _ _ eR2, eR3, (by rw [lx]; exact szz (by simp; omega)), fun RT hRT => ?_⟩
      (generalize hG : L2.upd _ RT _ = W10; have sRT := same_of hG hRT; have eRT := at_of hG; clear hG)
      have s7a := (sR2.trans sR3).trans sRT
      have s0a := s07.trans s7a
      have dRT : Dt K W10 (.ref RT) (.list ((rs ++ [r]).map rowPy)) := by
        rw [List.map_append]
        exact .lst (.inl (.inl eRT)) (DtAll.append (DtAll.same s0a hAs) (.cons (by rw [ex0]; exact .tup (SqT.same s0a hT0) (.cons (.str _) (.cons (.int _) .nil))) .nil))
      have sub1 : ∀ y ∈ rows, y ∈ rs ++ [r] := fun y hy => by
        rw [erows] at hy
        rcases List.mem_cons.mp hy with rfl | m
        · simp
        · exact List.mem_append_left _ m
      refine ⟨_, rfl, _, _, rfl, .inl ⟨_, .inl (.inl (s0a _ _ rwW)), rfl⟩, _, _, rfl, rfl, _, rfl, ?_⟩
      have lxr : xr.length = rows.length := by rw [exr, erows, List.length_cons, List.length_cons, lx]
      rw [lxr]
      by_cases h12 : rows.length < 12
      · rw [decide_eq_true (show ((rows.length : Nat) : Int) < 12 by omega)]
        refine iteT ⟨_, rfl, _, rfl, rw_, rows, rfl, ro, Dt.same s0a rowsW, fun W11 sp sab nsp nin => ?_⟩
        refine ⟨(by show 2 ≤ sizeLine; decide), fun TS1 hTS1 => ?_⟩
        (generalize hG : L2.upd _ TS1 _ = W12; have sTS1 := same_of hG hTS1; have eTS1 := at_of hG; clear hG)
        refine ⟨(by show 1 ≤ sizeLine; decide), fun LS hLS => ?_⟩
        (generalize hG : L2.upd _ LS _ = W13; have sLS := same_of hG hLS; have eLS := at_of hG; clear hG)
        have sad := (sab.trans sTS1).trans sLS
        have s0d := s0a.trans sad
        refine ⟨rw_, LS, _, _, rfl, rfl, s0d _ _ rwW, eLS, (by rw [lxr]; exact szz (by simp; omega)), fun O3 hO3 => ?_⟩
        (generalize hG : L2.upd _ O3 _ = W14; have sO3 := same_of hG hO3; have eO3 := at_of hG; clear hG)
        obtain ⟨os, eos⟩ : ∃ os, os = rows ++ [(sp, (0 : Int))] := ⟨_, rfl⟩
        have oo : RowsOk os := by rw [eos]; exact rows_more ro h12 nsp nin
        have sub2 : ∀ y ∈ rows, y ∈ os := fun y hy => by rw [eos]; exact List.mem_append_left _ hy
        have s0e := s0d.trans sO3
        have dO3 : Dt K W14 (.ref O3) (.list (os.map rowPy)) := by
          rw [eos, List.map_append]
          exact .lst (.inl (.inl eO3)) (DtAll.append (DtAll.same s0e xrW) (.cons (.tup (.inl (.inl (sO3 _ _ (sLS _ _ eTS1)))) (.cons (.str _) (.cons (.int _) .nil))) .nil))
        have sae := sad.trans sO3
        refine ⟨(by show 3 ≤ sizeLine; decide), fun OL hOL => ?_⟩
        (generalize hG : L2.upd _ OL _ = V0; have sOL := same_of hG hOL; have eOL := at_of hG; clear hG)
        have s0f := s0e.trans sOL
        have each : ∀ u ∈ [V.ref rw_, .ref RT, .ref O3], ∃ (oa : Addr) (ps : List (Str × Int)), u = .ref oa ∧ RowsOk ps ∧ (∀ y ∈ rows, y ∈ ps) ∧ Dt K V0 (.ref oa) (.list (ps.map rowPy)) := by
          intro u hu
          simp only [List.mem_cons, List.not_mem_nil, or_false] at hu
          rcases hu with rfl | rfl | rfl
          · exact ⟨_, rows, rfl, ro, fun y hy => hy, Dt.same s0f rowsW⟩
          · exact ⟨_, rs ++ [r], rfl, rows_rot ro', sub1, Dt.same (sae.trans sOL) dRT⟩
          · exact ⟨_, os, rfl, oo, sub2, Dt.same sOL dO3⟩
        refine ⟨_, rfl, OL, rfl, ⟨_, .inl (.inl eOL)⟩, for_it walk_list (fun m σ G => (∃ s1 s8 s9 s10 s11 s12 s14 s15 s16, σ = [some (.ref a), s1, some (.ref b), some (.ref rw_), some (.ref lt), some (.ref wa), some (.ref sg), some (.str line), s8, s9, s10, s11, s12, some (.ref N), s14, s15, s16]) ∧ Same V0 G) ⟨⟨_, _, _, _, _, _, _, _, _, rfl⟩, Same.refl _⟩ (fun m σ G _ p => p.2.seq (.inl (.inl eOL))) ?_ ?_⟩
        · rintro m u σ V1 V2 hm ⟨⟨q1, q8, q9, q10, q11, q12, q14, q15, q16, rfl⟩, s1'⟩ ⟨rfl, hu⟩
          obtain ⟨oa, ps, rfl, po, psub, dps⟩ := each u (List.mem_of_getElem? hu)
          have s01 := s0f.trans s1'
          refine ⟨_, rfl, _, rfl, _, rfl, _, rfl, lt, _, rfl, .inl (.inl (s01 _ _ ltW)), fun M3 hM3 => ?_⟩
          rw [c1]
          (generalize hG : L2.upd _ M3 _ = V3; have sM3 := same_of hG hM3; have eM3 := at_of hG; clear hG)
          refine ⟨(by show 3 ≤ sizeLine; decide), fun ML hML => ?_⟩
          (generalize hG : L2.upd _ ML _ = V4; have sML := same_of hG hML; have eML := at_of hG; clear hG)
          have s34 := sM3.trans sML
          have s04' := s01.trans s34
          have some3 : ∀ u ∈ [V.ref sg, .ref N, .ref M3], ∃ (ma : Addr) (us : List Str), u = .ref ma ∧ Good rows us ∧ SqL K V4 ma (us.map V.str) := by
            intro u hu
            simp only [List.mem_cons, List.not_mem_nil, or_false] at hu
            rcases hu with rfl | rfl | rfl
            · exact ⟨_, zs, rfl, gz, .inl (.inl (s04' _ _ sgW))⟩
            · exact ⟨_, ys, rfl, gy, .inl (.inl (s04' _ _ eNW))⟩
            · exact ⟨_, [l0], rfl, good_letter hl0 _, .inl (.inl (sML _ _ eM3))⟩
          refine ⟨ML, rfl, ⟨_, .inl (.inl eML)⟩, for_it walk_list (fun m σ G => (∃ s1 s8 s9 s10 s11 s12 s14 s15, σ = [some (.ref a), s1, some (.ref b), some (.ref rw_), some (.ref lt), some (.ref wa), some (.ref sg), some (.str line), s8, s9, s10, s11, s12, some (.ref N), s14, s15, some (.ref oa)]) ∧ Same V4 G) ⟨⟨_, _, _, _, _, _, _, _, rfl⟩, Same.refl _⟩ (fun m σ G _ p => p.2.seq (.inl (.inl eML))) ?_ ?_⟩
          · rintro m2 u2 σ V5 V6 hm2 ⟨⟨k1, k8, k9, k10, k11, k12, k14, k15, rfl⟩, s5'⟩ ⟨rfl, hu2⟩
            obtain ⟨ma, us, rfl, gu, hus⟩ := some3 u2 (List.mem_of_getElem? hu2)
            have s05 := s04'.trans s5'
            refine ⟨_, rfl, _, rfl, _, rfl, _, rfl, _, rfl, rw_, wa, sg, oa, ma, rows, ps, zs, us, rfl, ro, po, gz, gu.sub ro po psub, Dt.same s05 rowsW, waW.same s05, .inl (.inl (s05 _ _ sgW)), Dt.same (s1'.trans (s34.trans s5')) dps, s5'.seq hus, fun V7 s57 => ⟨_, rfl, iteF ?_⟩⟩
            exact ⟨⟨_, _, _, _, _, _, _, _, rfl⟩, s5'.trans s57⟩
          · rintro σ V5 ⟨⟨k1, k8, k9, k10, k11, k12, k14, k15, rfl⟩, s5'⟩
            exact ⟨⟨_, _, _, _, _, _, _, _, _, rfl⟩, s1'.trans (s34.trans s5')⟩
        · rintro σ V1 ⟨⟨q1, q8, q9, q10, q11, q12, q14, q15, q16, rfl⟩, s1'⟩
          exact ⟨_, _, _, _, _, _, _, _, _, _, _, _, _, _, _, _, rfl, HW.trans (s0f.trans s1')⟩
      · rw [decide_eq_false (show ¬ ((rows.length : Nat) : Int) < 12 by omega)]
        refine iteF ⟨_, rfl, ?_⟩
        obtain ⟨os, eos⟩ : ∃ os, os = rows := ⟨_, rfl⟩
        have oo : RowsOk os := by rw [eos]; exact ro
        have sub2 : ∀ y ∈ rows, y ∈ os := fun y hy => by rw [eos]; exact hy
        have s0e := s0a
        have dO3 : Dt K W10 (.ref rw_) (.list (os.map rowPy)) := by
          rw [eos]
          exact Dt.same s0a rowsW
        have sae := Same.refl W10
        refine ⟨(by show 3 ≤ sizeLine; decide), fun OL hOL => ?_⟩
        (generalize hG : L2.upd _ OL _ = V0; have sOL := same_of hG hOL; have eOL := at_of hG; clear hG)
        have s0f := s0e.trans sOL
        have each : ∀ u ∈ [V.ref rw_, .ref RT, .ref rw_], ∃ (oa : Addr) (ps : List (Str × Int)), u = .ref oa ∧ RowsOk ps ∧ (∀ y ∈ rows, y ∈ ps) ∧ Dt K V0 (.ref oa) (.list (ps.map rowPy)) := by
          intro u hu
          simp only [List.mem_cons, List.not_mem_nil, or_false] at hu
          rcases hu with rfl | rfl | rfl
          · exact ⟨_, rows, rfl, ro, fun y hy => hy, Dt.same s0f rowsW⟩
          · exact ⟨_, rs ++ [r], rfl, rows_rot ro', sub1, Dt.same (sae.trans sOL) dRT⟩
          · exact ⟨_, os, rfl, oo, sub2, Dt.same sOL dO3⟩
        refine ⟨_, rfl, OL, rfl, ⟨_, .inl (.inl eOL)⟩, for_it walk_list (fun m σ G => (∃ s1 s8 s9 s10 s11 s12 s14 s15 s16, σ = [some (.ref a), s1, some (.ref b), some (.ref rw_), some (.ref lt), some (.ref wa), some (.ref sg), some (.str line), s8, s9, s10, s11, s12, some (.ref N), s14, s15, s16]) ∧ Same V0 G) ⟨⟨_, _, _, _, _, _, _, _, _, rfl⟩, Same.refl _⟩ (fun m σ G _ p => p.2.seq (.inl (.inl eOL))) ?_ ?_⟩
        · rintro m u σ V1 V2 hm ⟨⟨q1, q8, q9, q10, q11, q12, q14, q15, q16, rfl⟩, s1'⟩ ⟨rfl, hu⟩
          obtain ⟨oa, ps, rfl, po, psub, dps⟩ := each u (List.mem_of_getElem? hu)
          have s01 := s0f.trans s1'
          refine ⟨_, rfl, _, rfl, _, rfl, _, rfl, lt, _, rfl, .inl (.inl (s01 _ _ ltW)), fun M3 hM3 => ?_⟩
          rw [c1]
          (generalize hG : L2.upd _ M3 _ = V3; have sM3 := same_of hG hM3; have eM3 := at_of hG; clear hG)
          refine ⟨(by show 3 ≤ sizeLine; decide), fun ML hML => ?_⟩
          (generalize hG : L2.upd _ ML _ = V4; have sML := same_of hG hML; have eML := at_of hG; clear hG)
          have s34 := sM3.trans sML
          have s04' := s01.trans s34
          have some3 : ∀ u ∈ [V.ref sg, .ref N, .ref M3], ∃ (ma : Addr) (us : List Str), u = .ref ma ∧ Good rows us ∧ SqL K V4 ma (us.map V.str) := by
            intro u hu
            simp only [List.mem_cons, List.not_mem_nil, or_false] at hu
            rcases hu with rfl | rfl | rfl
            · exact ⟨_, zs, rfl, gz, .inl (.inl (s04' _ _ sgW))⟩
            · exact ⟨_, ys, rfl, gy, .inl (.inl (s04' _ _ eNW))⟩
            · exact ⟨_, [l0], rfl, good_letter hl0 _, .inl (.inl (sML _ _ eM3))⟩
          refine ⟨ML, rfl, ⟨_, .inl (.inl eML)⟩, for_it walk_list (fun m σ G => (∃ s1 s8 s9 s10 s11 s12 s14 s15, σ = [some (.ref a), s1, some (.ref b), some (.ref rw_), some (.ref lt), some (.ref wa), some (.ref sg), some (.str line), s8, s9, s10, s11, s12, some (.ref N), s14, s15, some (.ref oa)]) ∧ Same V4 G) ⟨⟨_, _, _, _, _, _, _, _, rfl⟩, Same.refl _⟩ (fun m σ G _ p => p.2.seq (.inl (.inl eML))) ?_ ?_⟩
          · rintro m2 u2 σ V5 V6 hm2 ⟨⟨k1, k8, k9, k10, k11, k12, k14, k15, rfl⟩, s5'⟩ ⟨rfl, hu2⟩
            obtain ⟨ma, us, rfl, gu, hus⟩ := some3 u2 (List.mem_of_getElem? hu2)
            have s05 := s04'.trans s5'
            refine ⟨_, rfl, _, rfl, _, rfl, _, rfl, _, rfl, rw_, wa, sg, oa, ma, rows, ps, zs, us, rfl, ro, po, gz, gu.sub ro po psub, Dt.same s05 rowsW, waW.same s05, .inl (.inl (s05 _ _ sgW)), Dt.same (s1'.trans (s34.trans s5')) dps, s5'.seq hus, fun V7 s57 => ⟨_, rfl, iteF ?_⟩⟩
            exact ⟨⟨_, _, _, _, _, _, _, _, rfl⟩, s5'.trans s57⟩
          · rintro σ V5 ⟨⟨k1, k8, k9, k10, k11, k12, k14, k15, rfl⟩, s5'⟩
            exact ⟨⟨_, _, _, _, _, _, _, _, _, rfl⟩, s1'.trans (s34.trans s5')⟩
        · rintro σ V1 ⟨⟨q1, q8, q9, q10, q11, q12, q14, q15, q16, rfl⟩, s1'⟩
          exact ⟨_, _, _, _, _, _, _, _, _, _, _, _, _, _, _, _, rfl, HW.trans (s0f.trans s1')⟩
    rw [h1]
    refine iteT ⟨_, _, rfl, rfl, _, rfl, ?_⟩
    show if (!decide (("Z" : Str).cps.toList < [c])) = true then _ else _
    rw [eZ]
    by_cases h2 : (!decide ([90] < [c])) = true
    rotate_left
    · rw [Bool.eq_false_iff.mpr h2]
      refine iteF ?_
      obtain ⟨W, eW⟩ : ∃ W, W = J1 := ⟨_, rfl⟩
      obtain ⟨sW, eNW⟩ := goOn eW
      rw [← eW]
      obtain ⟨ys, eys⟩ : ∃ ys, ys = zs := ⟨_, rfl⟩
      have gy : Good rows ys := by rw [eys]; exact gz
      rw [← eys] at eNW
      have rowsW := Dt.same sW rowsZ
      have waW := waZ.same sW
      have ltW := sW _ _ ltZ
      have sgW := sW _ _ sgZ
      have rwW := sW _ _ rwZ
      have xrW := DtAll.same sW xrZ
      have HW := HZ.trans sW
      obtain ⟨x0, xrs, exr, r, rs, erows, p0, ex0, hT0, hAs⟩ := row_split ro xrW
      obtain ⟨l0, lsr, els, hl0⟩ : ∃ l0 lsr, ls = l0 :: lsr ∧ lokB l0 = true := by
        obtain ⟨h5, hk⟩ := hls
        cases hc : ls with
        | nil => rw [hc] at h5; cases h5
        | cons z r => exact ⟨z, r, rfl, hk z (by rw [hc]; simp)⟩
      have c1 : cutV (ls.map V.str) none (some 1) = [l0].map V.str := by
        rw [show cutV (ls.map V.str) none (some 1) = (ls.map V.str).take 1 from cut_upto (n := 1) _, els]
        rfl
      have c2 : cutV xr (some 1) none = xrs := by
        rw [show cutV xr (some 1) none = xr.drop 1 from cut_from (n := 1) _, exr]
        rfl
      have c3 : cutV xr none (some 1) = [x0] := by
        rw [show cutV xr none (some 1) = xr.take 1 from cut_upto (n := 1) _, exr]
        rfl
      have lr : rs.length ≤ 11 := by
        have := ro.few
        rw [erows] at this
        simpa using this
      have lx : xrs.length = rs.length := by rw [hAs.length, List.length_map]
      have at0 : atI xr 0 = some (.ref p0) := by
        rw [exr, ← ex0]
        exact atI_nat (j := 0) rfl
      -- bent
      refine ⟨_, rfl, rw_, _, _, .ref p0, rfl, rfl, .inl (.inl rwW), at0, p0, _, _, .str r.1, rfl, rfl, hT0, atI_nat (j := 0) rfl, ?_⟩
      refine ⟨_, rfl, rw_, _, _, .ref p0, rfl, rfl, .inl (.inl rwW), at0, p0, _, _, .int r.2, rfl, rfl, hT0, atI_nat (j := 1) rfl, _, _, rfl, rfl, _, _, rfl, rfl, (by show (0 : Int) < 5; decide), (by show 2 ≤ sizeLine; decide), fun TB hTB => ?_⟩
      (generalize hG : L2.upd _ TB _ = W1; have sTB := same_of hG hTB; have eTB := at_of hG; clear hG)
      refine ⟨(by show 1 ≤ sizeLine; decide), fun LB hLB => ?_⟩
      (generalize hG : L2.upd _ LB _ = W2; have sLB := same_of hG hLB; have eLB := at_of hG; clear hG)
      have s02 := sTB.trans sLB
      refine ⟨_, rfl, _, rfl, rw_, _, rfl, .inl (.inl (s02 _ _ rwW)), fun R1 hR1 => ?_⟩
      rw [c2]
      (generalize hG : L2.upd _ R1 _ = W3; have sR1 := same_of hG hR1; have eR1 := at_of hG; clear hG)
      refine ⟨LB, R1, _, _, rfl, rfl, sR1 _ _ eLB, eR1, (by rw [lx]; exact szz (by simp; omega)), fun BT hBT => ?_⟩
      (generalize hG : L2.upd _ BT _ = W4; have sBT := same_of hG hBT; have eBT := at_of hG; clear hG)
      have s04 := (s02.trans sR1).trans sBT
      have ro' := ro
      rw [erows] at ro'
      have bo : RowsOk ((r.1, (r.2 + 1) % 5) :: rs) := rows_bent ro' (Int.emod_nonneg _ (by decide)) (by have := Int.emod_lt_of_pos (r.2 + 1) (show (0 : Int) < 5 by decide); omega)
      have dBT : Dt K W4 (.ref BT) (.list (((r.1, (r.2 + 1) % 5) :: rs).map rowPy)) := .lst (.inl (.inl eBT)) (.cons (.tup (.inl (.inl (sBT _ _ (sR1 _ _ (sLB _ _ eTB))))) (.cons (.str _) (.cons (.int _) .nil))) (DtAll.same s04 hAs))
      refine ⟨_, rfl, _, rfl, _, rfl, _, rfl, lt, _, rfl, .inl (.inl (s04 _ _ ltW)), fun M1 hM1 => ?_⟩
      rw [c1]
      (generalize hG : L2.upd _ M1 _ = W5; have sM1 := same_of hG hM1; have eM1 := at_of hG; clear hG)
      refine ⟨_, rfl, _, rfl, _, rfl, lt, _, rfl, .inl (.inl (sM1 _ _ (s04 _ _ ltW))), fun M2 hM2 => ?_⟩
      rw [c1]
      (generalize hG : L2.upd _ M2 _ = W6; have sM2 := same_of hG hM2; have eM2 := at_of hG; clear hG)
      have s06 := (s04.trans sM1).trans sM2
      refine ⟨rw_, wa, M1, BT, M2, rows, _, [l0], [l0], rfl, ro, bo, good_letter hl0 _, good_letter hl0 _, Dt.same s06 rowsW, waW.same s06, .inl (.inl (sM2 _ _ eM1)), Dt.same (sM1.trans sM2) dBT, .inl (.inl eM2), fun W7 s67 => ⟨_, rfl, iteF ?_⟩⟩
      have s07 := s06.trans s67
      -- others
      have rwW7 := s07 _ _ rwW
      refine ⟨_, rfl, _, rfl, _, rfl, rw_, _, rfl, .inl (.inl rwW7), fun R2 hR2 => ?_⟩
      rw [c2]
      (generalize hG : L2.upd _ R2 _ = W8; have sR2 := same_of hG hR2; have eR2 := at_of hG; clear hG)
      refine ⟨_, rfl, _, rfl, rw_, _, rfl, .inl (.inl (sR2 _ _ rwW7)), fun R3 hR3 => ?_⟩
      rw [c3]
      (generalize hG : L2.upd _ R3 _ = W9; have sR3 := same_of hG hR3; have eR3 := at_of hG; clear hG)
      refine ⟨R2, R3, _, _, rfl, rfl, sR3 _ _ eR2, eR3, (by rw [lx]; exact szz (by simp; omega)), fun RT hRT => ?_⟩
      (generalize hG : L2.upd _ RT _ = W10; have sRT := same_of hG hRT; have eRT := at_of hG; clear hG)
      have s7a := (sR2.trans sR3).trans sRT
      have s0a := s07.trans s7a
      have dRT : Dt K W10 (.ref RT) (.list ((rs ++ [r]).map rowPy)) := by
        rw [List.map_append]
        exact .lst (.inl (.inl eRT)) (DtAll.append (DtAll.same s0a hAs) (.cons (by rw [ex0]; exact .tup (SqT.same s0a hT0) (.cons (.str _) (.cons (.int _) .nil))) .nil))
      have sub1 : ∀ y ∈ rows, y ∈ rs ++ [r] := fun y hy => by
        rw [erows] at hy
        rcases List.mem_cons.mp hy with rfl | m
        · simp
        · exact List.mem_append_left _ m
      refine ⟨_, rfl, _, _, rfl, .inl ⟨_, .inl (.inl (s0a _ _ rwW)), rfl⟩, _, _, rfl, rfl, _, rfl, ?_⟩
      have lxr : xr.length = rows.length := by rw [exr, erows, List.length_cons, List.length_cons, lx]
      rw [lxr]
      by_cases h12 : rows.length < 12
      · rw [decide_eq_true (show ((rows.length : Nat) : Int) < 12 by omega)]
        refine iteT ⟨_, rfl, _, rfl, rw_, rows, rfl, ro, Dt.same s0a rowsW, fun W11 sp sab nsp nin => ?_⟩
        refine ⟨(by show 2 ≤ sizeLine; decide), fun TS1 hTS1 => ?_⟩
        (generalize hG : L2.upd _ TS1 _ = W12; have sTS1 := same_of hG hTS1; have eTS1 := at_of hG; clear hG)
        refine ⟨(by show 1 ≤ sizeLine; decide), fun LS hLS => ?_⟩
        (generalize hG : L2.upd _ LS _ = W13; have sLS := same_of hG hLS; have eLS := at_of hG; clear hG)
        have sad := (sab.trans sTS1).trans sLS
        have s0d := s0a.trans sad
        refine ⟨rw_, LS, _, _, rfl, rfl, s0d _ _ rwW, eLS, (by rw [lxr]; exact szz (by simp; omega)), fun O3 hO3 => ?_⟩
        (generalize hG : L2.upd _ O3 _ = W14; have sO3 := same_of hG hO3; have eO3 := at_of hG; clear hG)
        obtain ⟨os, eos⟩ : ∃ os, os = rows ++ [(sp, (0 : Int))] := ⟨_, rfl⟩
        have oo : RowsOk os := by rw [eos]; exact rows_more ro h12 nsp nin
        have sub2 : ∀ y ∈ rows, y ∈ os := fun y hy => by rw [eos]; exact List.mem_append_left _ hy
        have s0e := s0d.trans sO3
        have dO3 : Dt K W14 (.ref O3) (.list (os.map rowPy)) := by
          rw [eos, List.map_append]
          exact .lst (.inl (.inl eO3)) (DtAll.append (DtAll.same s0e xrW) (.cons (.tup (.inl (.inl (sO3 _ _ (sLS _ _ eTS1)))) (.cons (.str _) (.cons (.int _) .nil))) .nil))
        have sae := sad.trans sO3
        refine ⟨(by show 3 ≤ sizeLine; decide), fun OL hOL => ?_⟩
        (generalize hG : L2.upd _ OL _ = V0; have sOL := same_of hG hOL; have eOL := at_of hG; clear hG)
        have s0f := s0e.trans sOL
        have each : ∀ u ∈ [V.ref rw_, .ref RT, .ref O3], ∃ (oa : Addr) (ps : List (Str × Int)), u = .ref oa ∧ RowsOk ps ∧ (∀ y ∈ rows, y ∈ ps) ∧ Dt K V0 (.ref oa) (.list (ps.map rowPy)) := by
          intro u hu
          simp only [List.mem_cons, List.not_mem_nil, or_false] at hu
          rcases hu with rfl | rfl | rfl
          · exact ⟨_, rows, rfl, ro, fun y hy => hy, Dt.same s0f rowsW⟩
          · exact ⟨_, rs ++ [r], rfl, rows_rot ro', sub1, Dt.same (sae.trans sOL) dRT⟩
          · exact ⟨_, os, rfl, oo, sub2, Dt.same sOL dO3⟩
        refine ⟨_, rfl, OL, rfl, ⟨_, .inl (.inl eOL)⟩, for_it walk_list (fun m σ G => (∃ s1 s8 s9 s10 s11 s12 s14 s15 s16, σ = [some (.ref a), s1, some (.ref b), some (.ref rw_), some (.ref lt), some (.ref wa), some (.ref sg), some (.str line), s8, s9, s10, s11, s12, some (.ref N), s14, s15, s16]) ∧ Same V0 G) ⟨⟨_, _, _, _, _, _, _, _, _, rfl⟩, Same.refl _⟩ (fun m σ G _ p => p.2.seq (.inl (.inl eOL))) ?_ ?_⟩
        · rintro m u σ V1 V2 hm ⟨⟨q1, q8, q9, q10, q11, q12, q14, q15, q16, rfl⟩, s1'⟩ ⟨rfl, hu⟩
          obtain ⟨oa, ps, rfl, po, psub, dps⟩ := each u (List.mem_of_getElem? hu)
          have s01 := s0f.trans s1'
          refine ⟨_, rfl, _, rfl, _, rfl, _, rfl, lt, _, rfl, .inl (.inl (s01 _ _ ltW)), fun M3 hM3 => ?_⟩
          rw [c1]
          (generalize hG : L2.upd _ M3 _ = V3; have sM3 := same_of hG hM3; have eM3 := at_of hG; clear hG)
          refine ⟨(by show 3 ≤ sizeLine; decide), fun ML hML => ?_⟩
          (generalize hG : L2.upd _ ML _ = V4; have sML := same_of hG hML; have eML := at_of hG; clear hG)
          have s34 := sM3.trans sML
          have s04' := s01.trans s34
          have some3 : ∀ u ∈ [V.ref sg, .ref N, .ref M3], ∃ (ma : Addr) (us : List Str), u = .ref ma ∧ Good rows us ∧ SqL K V4 ma (us.map V.str) := by
            intro u hu
            simp only [List.mem_cons, List.not_mem_nil, or_false] at hu
            rcases hu with rfl | rfl | rfl
            · exact ⟨_, zs, rfl, gz, .inl (.inl (s04' _ _ sgW))⟩
            · exact ⟨_, ys, rfl, gy, .inl (.inl (s04' _ _ eNW))⟩
            · exact ⟨_, [l0], rfl, good_letter hl0 _, .inl (.inl (sML _ _ eM3))⟩
          refine ⟨ML, rfl, ⟨_, .inl (.inl eML)⟩, for_it walk_list (fun m σ G => (∃ s1 s8 s9 s10 s11 s12 s14 s15, σ = [some (.ref a), s1, some (.ref b), some (.ref rw_), some (.ref lt), some (.ref wa), some (.ref sg), some (.str line), s8, s9, s10, s11, s12, some (.ref N), s14, s15, some (.ref oa)]) ∧ Same V4 G) ⟨⟨_, _, _, _, _, _, _, _, rfl⟩, Same.refl _⟩ (fun m σ G _ p => p.2.seq (.inl (.inl eML))) ?_ ?_⟩
          · rintro m2 u2 σ V5 V6 hm2 ⟨⟨k1, k8, k9, k10, k11, k12, k14, k15, rfl⟩, s5'⟩ ⟨rfl, hu2⟩
            obtain ⟨ma, us, rfl, gu, hus⟩ := some3 u2 (List.mem_of_getElem? hu2)
            have s05 := s04'.trans s5'
            refine ⟨_, rfl, _, rfl, _, rfl, _, rfl, _, rfl, rw_, wa, sg, oa, ma, rows, ps, zs, us, rfl, ro, po, gz, gu.sub ro po psub, Dt.same s05 rowsW, waW.same s05, .inl (.inl (s05 _ _ sgW)), Dt.same (s1'.trans (s34.trans s5')) dps, s5'.seq hus, fun V7 s57 => ⟨_, rfl, iteF ?_⟩⟩
            exact ⟨⟨_, _, _, _, _, _, _, _, rfl⟩, s5'.trans s57⟩
          · rintro σ V5 ⟨⟨k1, k8, k9, k10, k11, k12, k14, k15, rfl⟩, s5'⟩
            exact ⟨⟨_, _, _, _, _, _, _, _, _, rfl⟩, s1'.trans (s34.trans s5')⟩
        · rintro σ V1 ⟨⟨q1, q8, q9, q10, q11, q12, q14, q15, q16, rfl⟩, s1'⟩
          exact ⟨_, _, _, _, _, _, _, _, _, _, _, _, _, _, _, _, rfl, HW.trans (s0f.trans s1')⟩
      · rw [decide_eq_false (show ¬ ((rows.length : Nat) : Int) < 12 by omega)]
        refine iteF ⟨_, rfl, ?_⟩
        obtain ⟨os, eos⟩ : ∃ os, os = rows := ⟨_, rfl⟩
        have oo : RowsOk os := by rw [eos]; exact ro
        have sub2 : ∀ y ∈ rows, y ∈ os := fun y hy => by rw [eos]; exact hy
        have s0e := s0a
        have dO3 : Dt K W10 (.ref rw_) (.list (os.map rowPy)) := by
          rw [eos]
          exact Dt.same s0a rowsW
        have sae := Same.refl W10
        refine ⟨(by show 3 ≤ sizeLine; decide), fun OL hOL => ?_⟩
        (generalize hG : L2.upd _ OL _ = V0; have sOL := same_of hG hOL; have eOL := at_of hG; clear hG)
        have s0f := s0e.trans sOL
        have each : ∀ u ∈ [V.ref rw_, .ref RT, .ref rw_], ∃ (oa : Addr) (ps : List (Str × Int)), u = .ref oa ∧ RowsOk ps ∧ (∀ y ∈ rows, y ∈ ps) ∧ Dt K V0 (.ref oa) (.list (ps.map rowPy)) := by
          intro u hu
          simp only [List.mem_cons, List.not_mem_nil, or_false] at hu
          rcases hu with rfl | rfl | rfl
          · exact ⟨_, rows, rfl, ro, fun y hy => hy, Dt.same s0f rowsW⟩
          · exact ⟨_, rs ++ [r], rfl, rows_rot ro', sub1, Dt.same (sae.trans sOL) dRT⟩
          · exact ⟨_, os, rfl, oo, sub2, Dt.same sOL dO3⟩
        refine ⟨_, rfl, OL, rfl, ⟨_, .inl (.inl eOL)⟩, for_it walk_list (fun m σ G => (∃ s1 s8 s9 s10 s11 s12 s14 s15 s16, σ = [some (.ref a), s1, some (.ref b), some (.ref rw_), some (.ref lt), some (.ref wa), some (.ref sg), some (.str line), s8, s9, s10, s11, s12, some (.ref N), s14, s15, s16]) ∧ Same V0 G) ⟨⟨_, _, _, _, _, _, _, _, _, rfl⟩, Same.refl _⟩ (fun m σ G _ p => p.2.seq (.inl (.inl eOL))) ?_ ?_⟩
        · rintro m u σ V1 V2 hm ⟨⟨q1, q8, q9, q10, q11, q12, q14, q15, q16, rfl⟩, s1'⟩ ⟨rfl, hu⟩
          obtain ⟨oa, ps, rfl, po, psub, dps⟩ := each u (List.mem_of_getElem? hu)
          have s01 := s0f.trans s1'
          refine ⟨_, rfl, _, rfl, _, rfl, _, rfl, lt, _, rfl, .inl (.inl (s01 _ _ ltW)), fun M3 hM3 => ?_⟩
          rw [c1]
          (generalize hG : L2.upd _ M3 _ = V3; have sM3 := same_of hG hM3; have eM3 := at_of hG; clear hG)
          refine ⟨(by show 3 ≤ sizeLine; decide), fun ML hML => ?_⟩
          (generalize hG : L2.upd _ ML _ = V4; have sML := same_of hG hML; have eML := at_of hG; clear hG)
          have s34 := sM3.trans sML
          have s04' := s01.trans s34
          have some3 : ∀ u ∈ [V.ref sg, .ref N, .ref M3], ∃ (ma : Addr) (us : List Str), u = .ref ma ∧ Good rows us ∧ SqL K V4 ma (us.map V.str) := by
            intro u hu
            simp only [List.mem_cons, List.not_mem_nil, or_false] at hu
            rcases hu with rfl | rfl | rfl
            · exact ⟨_, zs, rfl, gz, .inl (.inl (s04' _ _ sgW))⟩
            · exact ⟨_, ys, rfl, gy, .inl (.inl (s04' _ _ eNW))⟩
            · exact ⟨_, [l0], rfl, good_letter hl0 _, .inl (.inl (sML _ _ eM3))⟩
          refine ⟨ML, rfl, ⟨_, .inl (.inl eML)⟩, for_it walk_list (fun m σ G => (∃ s1 s8 s9 s10 s11 s12 s14 s15, σ = [some (.ref a), s1, some (.ref b), some (.ref rw_), some (.ref lt), some (.ref wa), some (.ref sg), some (.str line), s8, s9, s10, s11, s12, some (.ref N), s14, s15, some (.ref oa)]) ∧ Same V4 G) ⟨⟨_, _, _, _, _, _, _, _, rfl⟩, Same.refl _⟩ (fun m σ G _ p => p.2.seq (.inl (.inl eML))) ?_ ?_⟩
          · rintro m2 u2 σ V5 V6 hm2 ⟨⟨k1, k8, k9, k10, k11, k12, k14, k15, rfl⟩, s5'⟩ ⟨rfl, hu2⟩
            obtain ⟨ma, us, rfl, gu, hus⟩ := some3 u2 (List.mem_of_getElem? hu2)
            have s05 := s04'.trans s5'
            refine ⟨_, rfl, _, rfl, _, rfl, _, rfl, _, rfl, rw_, wa, sg, oa, ma, rows, ps, zs, us, rfl, ro, po, gz, gu.sub ro po psub, Dt.same s05 rowsW, waW.same s05, .inl (.inl (s05 _ _ sgW)), Dt.same (s1'.trans (s34.trans s5')) dps, s5'.seq hus, fun V7 s57 => ⟨_, rfl, iteF ?_⟩⟩
            exact ⟨⟨_, _, _, _, _, _, _, _, rfl⟩, s5'.trans s57⟩
          · rintro σ V5 ⟨⟨k1, k8, k9, k10, k11, k12, k14, k15, rfl⟩, s5'⟩
            exact ⟨⟨_, _, _, _, _, _, _, _, _, rfl⟩, s1'.trans (s34.trans s5')⟩
        · rintro σ V1 ⟨⟨q1, q8, q9, q10, q11, q12, q14, q15, q16, rfl⟩, s1'⟩
          exact ⟨_, _, _, _, _, _, _, _, _, _, _, _, _, _, _, _, rfl, HW.trans (s0f.trans s1')⟩
    rw [h2]
    have hcap := cap ((cap_cmp c).mp ⟨h1, h2⟩)
    refine iteT ⟨_, rfl, _, rfl, b, _, 869999979, 5, rfl, bJ.bag.choose_spec.1, bJ.bag.choose_spec.2, by decide, by decide +kernel, fun x5 o5 x50 x55 g5 => ?_⟩
    (generalize hG : L2.upd _ b _ = J2; have d5 := dr_of hG g5; clear hG)
    have ltJ : J2 lt = some (.lst (ls.map V.str)) := d5.at nlt (sJ _ _ ltZ)
    obtain ⟨lv, hlv, hlm⟩ := atI_in (xs := ls.map V.str) x50 (by rw [List.length_map, hls.1]; exact x55)
    obtain ⟨ly, hly, rfl⟩ := List.mem_map.mp hlm
    refine ⟨lt, _, _, _, rfl, rfl, .inl (.inl ltJ), hlv, ?_⟩
    have eN2 := d5.at nNb eN
    refine ⟨_, rfl, _, rfl, N, _, _, zs.length - 1, rfl, rfl, eN2, ixl, ?_⟩
    have zN : ∀ {a' : Addr} {o' : HO}, hide2 F b S a' = some o' → a' ≠ N ∧ a' ≠ b := fun {a' o'} e => by
      refine ⟨fun z => ?_, fun z => ?_⟩
      · have := sG _ _ e
        rw [z, hN] at this
        cases this
      · have e' : hide (hide F b) S a' = some o' := e
        by_cases hz : a' = S
        · rw [hz, hide_self] at e'; cases e'
        · rw [hide_ne hz, z, hide_self] at e'; cases e'
    have sW0 : Same (hide2 F b S) (L2.upd J2 N (.lst ((zs.map V.str).set (zs.length - 1) (.str ly)))) := fun a' o' e => by
      rw [upd_ne (zN e).1]
      exact d5.at (zN e).2 (sJ _ _ e)
    have eNW0 : L2.upd J2 N (.lst ((zs.map V.str).set (zs.length - 1) (.str ly))) N = some (.lst ((zs.set (zs.length - 1) ly).map V.str)) := by
      rw [upd_same, List.map_set]
    have gy0 : Good rows (zs.set (zs.length - 1) ly) := gz.set hzl hcap (hls.2 ly hly)
    generalize L2.upd J2 N (.lst ((zs.map V.str).set (zs.length - 1) (.str ly))) = W at sW0 eNW0 ⊢
    obtain ⟨ys, eys⟩ : ∃ ys, ys = zs.set (zs.length - 1) ly := ⟨_, rfl⟩
    rw [← eys] at eNW0 gy0
    have gy := gy0
    have eNW := eNW0
    have sW := sW0
    have rowsW := Dt.same sW rowsZ
    have waW := waZ.same sW
    have ltW := sW _ _ ltZ
    have sgW := sW _ _ sgZ
    have rwW := sW _ _ rwZ
    have xrW := DtAll.same sW xrZ
    have HW := HZ.trans sW
    obtain ⟨x0, xrs, exr, r, rs, erows, p0, ex0, hT0, hAs⟩ := row_split ro xrW
    obtain ⟨l0, lsr, els, hl0⟩ : ∃ l0 lsr, ls = l0 :: lsr ∧ lokB l0 = true := by
      obtain ⟨h5, hk⟩ := hls
      cases hc : ls with
      | nil => rw [hc] at h5; cases h5
      | cons z r => exact ⟨z, r, rfl, hk z (by rw [hc]; simp)⟩
    have c1 : cutV (ls.map V.str) none (some 1) = [l0].map V.str := by
      rw [show cutV (ls.map V.str) none (some 1) = (ls.map V.str).take 1 from cut_upto (n := 1) _, els]
      rfl
    have c2 : cutV xr (some 1) none = xrs := by
      rw [show cutV xr (some 1) none = xr.drop 1 from cut_from (n := 1) _, exr]
      rfl
    have c3 : cutV xr none (some 1) = [x0] := by
      rw [show cutV xr none (some 1) = xr.take 1 from cut_upto (n := 1) _, exr]
      rfl
    have lr : rs.length ≤ 11 := by
      have := ro.few
      rw [erows] at this
      simpa using this
    have lx : xrs.length = rs.length := by rw [hAs.length, List.length_map]
    have at0 : atI xr 0 = some (.ref p0) := by
      rw [exr, ← ex0]
      exact atI_nat (j := 0) rfl
    -- bent
    refine ⟨_, rfl, rw_, _, _, .ref p0, rfl, rfl, .inl (.inl rwW), at0, p0, _, _, .str r.1, rfl, rfl, hT0, atI_nat (j := 0) rfl, ?_⟩
    refine ⟨_, rfl, rw_, _, _, .ref p0, rfl, rfl, .inl (.inl rwW), at0, p0, _, _, .int r.2, rfl, rfl, hT0, atI_nat (j := 1) rfl, _, _, rfl, rfl, _, _, rfl, rfl, (by show (0 : Int) < 5; decide), (by show 2 ≤ sizeLine; decide), fun TB hTB => ?_⟩
    (generalize hG : L2.upd _ TB _ = W1; have sTB := same_of hG hTB; have eTB := at_of hG; clear hG)
    refine ⟨(by show 1 ≤ sizeLine; decide), fun LB hLB => ?_⟩
    (generalize hG : L2.upd _ LB _ = W2; have sLB := same_of hG hLB; have eLB := at_of hG; clear hG)
    have s02 := sTB.trans sLB
    refine ⟨_, rfl, _, rfl, rw_, _, rfl, .inl (.inl (s02 _ _ rwW)), fun R1 hR1 => ?_⟩
    rw [c2]
    (generalize hG : L2.upd _ R1 _ = W3; have sR1 := same_of hG hR1; have eR1 := at_of hG; clear hG)
    refine ⟨LB, R1, _, _, rfl, rfl, sR1 _ _ eLB, eR1, (by rw [lx]; exact szz (by simp; omega)), fun BT hBT => ?_⟩
    (generalize hG : L2.upd _ BT _ = W4; have sBT := same_of hG hBT; have eBT := at_of hG; clear hG)
    have s04 := (s02.trans sR1).trans sBT
    have ro' := ro
    rw [erows] at ro'
    have bo : RowsOk ((r.1, (r.2 + 1) % 5) :: rs) := rows_bent ro' (Int.emod_nonneg _ (by decide)) (by have := Int.emod_lt_of_pos (r.2 + 1) (show (0 : Int) < 5 by decide); omega)
    have dBT : Dt K W4 (.ref BT) (.list (((r.1, (r.2 + 1) % 5) :: rs).map rowPy)) := .lst (.inl (.inl eBT)) (.cons (.tup (.inl (.inl (sBT _ _ (sR1 _ _ (sLB _ _ eTB))))) (.cons (.str _) (.cons (.int _) .nil))) (DtAll.same s04 hAs))
    refine ⟨_, rfl, _, rfl, _, rfl, _, rfl, lt, _, rfl, .inl (.inl (s04 _ _ ltW)), fun M1 hM1 => ?_⟩
    rw [c1]
    (generalize hG : L2.upd _ M1 _ = W5; have sM1 := same_of hG hM1; have eM1 := at_of hG; clear hG)
    refine ⟨_, rfl, _, rfl, _, rfl, lt, _, rfl, .inl (.inl (sM1 _ _ (s04 _ _ ltW))), fun M2 hM2 => ?_⟩
    rw [c1]
    (generalize hG : L2.upd _ M2 _ = W6; have sM2 := same_of hG hM2; have eM2 := at_of hG; clear hG)
    have s06 := (s04.trans sM1).trans sM2
    refine ⟨rw_, wa, M1, BT, M2, rows, _, [l0], [l0], rfl, ro, bo, good_letter hl0 _, good_letter hl0 _, Dt.same s06 rowsW, waW.same s06, .inl (.inl (sM2 _ _ eM1)), Dt.same (sM1.trans sM2) dBT, .inl (.inl eM2), fun W7 s67 => ⟨_, rfl, iteF ?_⟩⟩
    have s07 := s06.trans s67
    -- others
    have rwW7 := s07 _ _ rwW
    refine ⟨_, rfl, _, rfl, _, rfl, rw_, _, rfl, .inl (.inl rwW7), fun R2 hR2 => ?_⟩
    rw [c2]
    (generalize hG : L2.upd _ R2 _ = W8; have sR2 := same_of hG hR2; have eR2 := at_of hG; clear hG)
    refine ⟨_, rfl, _, rfl, rw_, _, rfl, .inl (.inl (sR2 _ _ rwW7)), fun R3 hR3 => ?_⟩
    rw [c3]
    (generalize hG : L2.upd _ R3 _ = W9; have sR3 := same_of hG hR3; have eR3 := at_of hG; clear hG)
    refine ⟨R2, R3, _, _, rfl, rfl, sR3 _ _ eR2, eR3, (by rw [lx]; exact szz (by simp; omega)), fun RT hRT => ?_⟩
    (generalize hG : L2.upd _ RT _ = W10; have sRT := same_of hG hRT; have eRT := at_of hG; clear hG)
    have s7a := (sR2.trans sR3).trans sRT
    have s0a := s07.trans s7a
    have dRT : Dt K W10 (.ref RT) (.list ((rs ++ [r]).map rowPy)) := by
      rw [List.map_append]
      exact .lst (.inl (.inl eRT)) (DtAll.append (DtAll.same s0a hAs) (.cons (by rw [ex0]; exact .tup (SqT.same s0a hT0) (.cons (.str _) (.cons (.int _) .nil))) .nil))
    have sub1 : ∀ y ∈ rows, y ∈ rs ++ [r] := fun y hy => by
      rw [erows] at hy
      rcases List.mem_cons.mp hy with rfl | m
      · simp
      · exact List.mem_append_left _ m
    refine ⟨_, rfl, _, _, rfl, .inl ⟨_, .inl (.inl (s0a _ _ rwW)), rfl⟩, _, _, rfl, rfl, _, rfl, ?_⟩
    have lxr : xr.length = rows.length := by rw [exr, erows, List.length_cons, List.length_cons, lx]
    rw [lxr]
    by_cases h12 : rows.length < 12
    · rw [decide_eq_true (show ((rows.length : Nat) : Int) < 12 by omega)]
      refine iteT ⟨_, rfl, _, rfl, rw_, rows, rfl, ro, Dt.same s0a rowsW, fun W11 sp sab nsp nin => ?_⟩
      refine ⟨(by show 2 ≤ sizeLine; decide), fun TS1 hTS1 => ?_⟩
      (generalize hG : L2.upd _ TS1 _ = W12; have sTS1 := same_of hG hTS1; have eTS1 := at_of hG; clear hG)
      refine ⟨(by show 1 ≤ sizeLine; decide), fun LS hLS => ?_⟩
      (generalize hG : L2.upd _ LS _ = W13; have sLS := same_of hG hLS; have eLS := at_of hG; clear hG)
      have sad := (sab.trans sTS1).trans sLS
      have s0d := s0a.trans sad
      refine ⟨rw_, LS, _, _, rfl, rfl, s0d _ _ rwW, eLS, (by rw [lxr]; exact szz (by simp; omega)), fun O3 hO3 => ?_⟩
      (generalize hG : L2.upd _ O3 _ = W14; have sO3 := same_of hG hO3; have eO3 := at_of hG; clear hG)
      obtain ⟨os, eos⟩ : ∃ os, os = rows ++ [(sp, (0 : Int))] := ⟨_, rfl⟩
      have oo : RowsOk os := by rw [eos]; exact rows_more ro h12 nsp nin
      have sub2 : ∀ y ∈ rows, y ∈ os := fun y hy => by rw [eos]; exact List.mem_append_left _ hy
      have s0e := s0d.trans sO3
      have dO3 : Dt K W14 (.ref O3) (.list (os.map rowPy)) := by
        rw [eos, List.map_append]
        exact .lst (.inl (.inl eO3)) (DtAll.append (DtAll.same s0e xrW) (.cons (.tup (.inl (.inl (sO3 _ _ (sLS _ _ eTS1)))) (.cons (.str _) (.cons (.int _) .nil))) .nil))
      have sae := sad.trans sO3
      refine ⟨(by show 3 ≤ sizeLine; decide), fun OL hOL => ?_⟩
      (generalize hG : L2.upd _ OL _ = V0; have sOL := same_of hG hOL; have eOL := at_of hG; clear hG)
      have s0f := s0e.trans sOL
      have each : ∀ u ∈ [V.ref rw_, .ref RT, .ref O3], ∃ (oa : Addr) (ps : List (Str × Int)), u = .ref oa ∧ RowsOk ps ∧ (∀ y ∈ rows, y ∈ ps) ∧ Dt K V0 (.ref oa) (.list (ps.map rowPy)) := by
        intro u hu
        simp only [List.mem_cons, List.not_mem_nil, or_false] at hu
        rcases hu with rfl | rfl | rfl
        · exact ⟨_, rows, rfl, ro, fun y hy => hy, Dt.same s0f rowsW⟩
        · exact ⟨_, rs ++ [r], rfl, rows_rot ro', sub1, Dt.same (sae.trans sOL) dRT⟩
        · exact ⟨_, os, rfl, oo, sub2, Dt.same sOL dO3⟩
      refine ⟨_, rfl, OL, rfl, ⟨_, .inl (.inl eOL)⟩, for_it walk_list (fun m σ G => (∃ s1 s8 s9 s10 s11 s12 s14 s15 s16, σ = [some (.ref a), s1, some (.ref b), some (.ref rw_), some (.ref lt), some (.ref wa), some (.ref sg), some (.str line), s8, s9, s10, s11, s12, some (.ref N), s14, s15, s16]) ∧ Same V0 G) ⟨⟨_, _, _, _, _, _, _, _, _, rfl⟩, Same.refl _⟩ (fun m σ G _ p => p.2.seq (.inl (.inl eOL))) ?_ ?_⟩
      · rintro m u σ V1 V2 hm ⟨⟨q1, q8, q9, q10, q11, q12, q14, q15, q16, rfl⟩, s1'⟩ ⟨rfl, hu⟩
        obtain ⟨oa, ps, rfl, po, psub, dps⟩ := each u (List.mem_of_getElem? hu)
        have s01 := s0f.trans s1'
        refine ⟨_, rfl, _, rfl, _, rfl, _, rfl, lt, _, rfl, .inl (.inl (s01 _ _ ltW)), fun M3 hM3 => ?_⟩
        rw [c1]
        (generalize hG : L2.upd _ M3 _ = V3; have sM3 := same_of hG hM3; have eM3 := at_of hG; clear hG)
        refine ⟨(by show 3 ≤ sizeLine; decide), fun ML hML => ?_⟩
        (generalize hG : L2.upd _ ML _ = V4; have sML := same_of hG hML; have eML := at_of hG; clear hG)
        have s34 := sM3.trans sML
        have s04' := s01.trans s34
        have some3 : ∀ u ∈ [V.ref sg, .ref N, .ref M3], ∃ (ma : Addr) (us : List Str), u = .ref ma ∧ Good rows us ∧ SqL K V4 ma (us.map V.str) := by
          intro u hu
          simp only [List.mem_cons, List.not_mem_nil, or_false] at hu
          rcases hu with rfl | rfl | rfl
          · exact ⟨_, zs, rfl, gz, .inl (.inl (s04' _ _ sgW))⟩
          · exact ⟨_, ys, rfl, gy, .inl (.inl (s04' _ _ eNW))⟩
          · exact ⟨_, [l0], rfl, good_letter hl0 _, .inl (.inl (sML _ _ eM3))⟩
        refine ⟨ML, rfl, ⟨_, .inl (.inl eML)⟩, for_it walk_list (fun m σ G => (∃ s1 s8 s9 s10 s11 s12 s14 s15, σ = [some (.ref a), s1, some (.ref b), some (.ref rw_), some (.ref lt), some (.ref wa), some (.ref sg), some (.str line), s8, s9, s10, s11, s12, some (.ref N), s14, s15, some (.ref oa)]) ∧ Same V4 G) ⟨⟨_, _, _, _, _, _, _, _, rfl⟩, Same.refl _⟩ (fun m σ G _ p => p.2.seq (.inl (.inl eML))) ?_ ?_⟩
        · rintro m2 u2 σ V5 V6 hm2 ⟨⟨k1, k8, k9, k10, k11, k12, k14, k15, rfl⟩, s5'⟩ ⟨rfl, hu2⟩
          obtain ⟨ma, us, rfl, gu, hus⟩ := some3 u2 (List.mem_of_getElem? hu2)
          have s05 := s04'.trans s5'
          refine ⟨_, rfl, _, rfl, _, rfl, _, rfl, _, rfl, rw_, wa, sg, oa, ma, rows, ps, zs, us, rfl, ro, po, gz, gu.sub ro po psub, Dt.same s05 rowsW, waW.same s05, .inl (.inl (s05 _ _ sgW)), Dt.same (s1'.trans (s34.trans s5')) dps, s5'.seq hus, fun V7 s57 => ⟨_, rfl, iteF ?_⟩⟩
          exact ⟨⟨_, _, _, _, _, _, _, _, rfl⟩, s5'.trans s57⟩
        · rintro σ V5 ⟨⟨k1, k8, k9, k10, k11, k12, k14, k15, rfl⟩, s5'⟩
          exact ⟨⟨_, _, _, _, _, _, _, _, _, rfl⟩, s1'.trans (s34.trans s5')⟩
      · rintro σ V1 ⟨⟨q1, q8, q9, q10, q11, q12, q14, q15, q16, rfl⟩, s1'⟩
        exact ⟨_, _, _, _, _, _, _, _, _, _, _, _, _, _, _, _, rfl, HW.trans (s0f.trans s1')⟩
    · rw [decide_eq_false (show ¬ ((rows.length : Nat) : Int) < 12 by omega)]
      refine iteF ⟨_, rfl, ?_⟩
      obtain ⟨os, eos⟩ : ∃ os, os = rows := ⟨_, rfl⟩
      have oo : RowsOk os := by rw [eos]; exact ro
      have sub2 : ∀ y ∈ rows, y ∈ os := fun y hy => by rw [eos]; exact hy
      have s0e := s0a
      have dO3 : Dt K W10 (.ref rw_) (.list (os.map rowPy)) := by
        rw [eos]
        exact Dt.same s0a rowsW
      have sae := Same.refl W10
      refine ⟨(by show 3 ≤ sizeLine; decide), fun OL hOL => ?_⟩
      (generalize hG : L2.upd _ OL _ = V0; have sOL := same_of hG hOL; have eOL := at_of hG; clear hG)
      have s0f := s0e.trans sOL
      have each : ∀ u ∈ [V.ref rw_, .ref RT, .ref rw_], ∃ (oa : Addr) (ps : List (Str × Int)), u = .ref oa ∧ RowsOk ps ∧ (∀ y ∈ rows, y ∈ ps) ∧ Dt K V0 (.ref oa) (.list (ps.map rowPy)) := by
        intro u hu
        simp only [List.mem_cons, List.not_mem_nil, or_false] at hu
        rcases hu with rfl | rfl | rfl
        · exact ⟨_, rows, rfl, ro, fun y hy => hy, Dt.same s0f rowsW⟩
        · exact ⟨_, rs ++ [r], rfl, rows_rot ro', sub1, Dt.same (sae.trans sOL) dRT⟩
        · exact ⟨_, os, rfl, oo, sub2, Dt.same sOL dO3⟩
      refine ⟨_, rfl, OL, rfl, ⟨_, .inl (.inl eOL)⟩, for_it walk_list (fun m σ G => (∃ s1 s8 s9 s10 s11 s12 s14 s15 s16, σ = [some (.ref a), s1, some (.ref b), some (.ref rw_), some (.ref lt), some (.ref wa), some (.ref sg), some (.str line), s8, s9, s10, s11, s12, some (.ref N), s14, s15, s16]) ∧ Same V0 G) ⟨⟨_, _, _, _, _, _, _, _, _, rfl⟩, Same.refl _⟩ (fun m σ G _ p => p.2.seq (.inl (.inl eOL))) ?_ ?_⟩
      · rintro m u σ V1 V2 hm ⟨⟨q1, q8, q9, q10, q11, q12, q14, q15, q16, rfl⟩, s1'⟩ ⟨rfl, hu⟩
        obtain ⟨oa, ps, rfl, po, psub, dps⟩ := each u (List.mem_of_getElem? hu)
        have s01 := s0f.trans s1'
        refine ⟨_, rfl, _, rfl, _, rfl, _, rfl, lt, _, rfl, .inl (.inl (s01 _ _ ltW)), fun M3 hM3 => ?_⟩
        rw [c1]
        (generalize hG : L2.upd _ M3 _ = V3; have sM3 := same_of hG hM3; have eM3 := at_of hG; clear hG)
        refine ⟨(by show 3 ≤ sizeLine; decide), fun ML hML => ?_⟩
        (generalize hG : L2.upd _ ML _ = V4; have sML := same_of hG hML; have eML := at_of hG; clear hG)
        have s34 := sM3.trans sML
        have s04' := s01.trans s34
        have some3 : ∀ u ∈ [V.ref sg, .ref N, .ref M3], ∃ (ma : Addr) (us : List Str), u = .ref ma ∧ Good rows us ∧ SqL K V4 ma (us.map V.str) := by
          intro u hu
          simp only [List.mem_cons, List.not_mem_nil, or_false] at hu
          rcases hu with rfl | rfl | rfl
          · exact ⟨_, zs, rfl, gz, .inl (.inl (s04' _ _ sgW))⟩
          · exact ⟨_, ys, rfl, gy, .inl (.inl (s04' _ _ eNW))⟩
          · exact ⟨_, [l0], rfl, good_letter hl0 _, .inl (.inl (sML _ _ eM3))⟩
        refine ⟨ML, rfl, ⟨_, .inl (.inl eML)⟩, for_it walk_list (fun m σ G => (∃ s1 s8 s9 s10 s11 s12 s14 s15, σ = [some (.ref a), s1, some (.ref b), some (.ref rw_), some (.ref lt), some (.ref wa), some (.ref sg), some (.str line), s8, s9, s10, s11, s12, some (.ref N), s14, s15, some (.ref oa)]) ∧ Same V4 G) ⟨⟨_, _, _, _, _, _, _, _, rfl⟩, Same.refl _⟩ (fun m σ G _ p => p.2.seq (.inl (.inl eML))) ?_ ?_⟩
        · rintro m2 u2 σ V5 V6 hm2 ⟨⟨k1, k8, k9, k10, k11, k12, k14, k15, rfl⟩, s5'⟩ ⟨rfl, hu2⟩
          obtain ⟨ma, us, rfl, gu, hus⟩ := some3 u2 (List.mem_of_getElem? hu2)
          have s05 := s04'.trans s5'
          refine ⟨_, rfl, _, rfl, _, rfl, _, rfl, _, rfl, rw_, wa, sg, oa, ma, rows, ps, zs, us, rfl, ro, po, gz, gu.sub ro po psub, Dt.same s05 rowsW, waW.same s05, .inl (.inl (s05 _ _ sgW)), Dt.same (s1'.trans (s34.trans s5')) dps, s5'.seq hus, fun V7 s57 => ⟨_, rfl, iteF ?_⟩⟩
          exact ⟨⟨_, _, _, _, _, _, _, _, rfl⟩, s5'.trans s57⟩
        · rintro σ V5 ⟨⟨k1, k8, k9, k10, k11, k12, k14, k15, rfl⟩, s5'⟩
          exact ⟨⟨_, _, _, _, _, _, _, _, _, rfl⟩, s1'.trans (s34.trans s5')⟩
      · rintro σ V1 ⟨⟨q1, q8, q9, q10, q11, q12, q14, q15, q16, rfl⟩, s1'⟩
        exact ⟨_, _, _, _, _, _, _, _, _, _, _, _, _, _, _, _, rfl, HW.trans (s0f.trans s1')⟩
end

end TS

namespace TS
open PySem PySem.Spec PyProof.Rows L2 TL
section
variable {P : Program} {w : World} {K : PySem.W.Frag} {mg : Str → Option Value} {base : Heap}
abbrev s__law_cell : Stmt := top 40
theorem sc__law_cell : FnScope ["_law_script", "_law_k"] ["_law_script", "_law_k"] (defScope s__law_cell) := ⟨rfl, rfl, rfl, by decide +kernel, rfl, by decide +kernel, by decide +kernel⟩

theorem ok_cell (bt : Bt mg) (D : Def K mg "_law_cell" s__law_cell) : Prom P w K mg base 1 "_law_cell" ["_law_script", "_law_k"] (spCell K) := by
  refine prom_mk D sc__law_cell (fun vs H Q E h => ?_) (fun _ _ _ _ _ _ us hl => match us, hl with | [_, _], _ => rfl) (fun f cdv A outer s H vs Q E hr h => ?_)
  · obtain ⟨a, ns, k, rfl, _⟩ := h
    rfl
  · obtain ⟨a, ns, k, rfl, hS, hk, q⟩ := h
    refine ⟨_, (pss_cons (ps_if (pt_cmpR op_lt (pv 1) (pe_callB (id := "len") (lenK (K := K)) (by rfl) bt.len_ (by decide +kernel) (pa_cons (pv 0) pa_nil)) (nomark _)) (pss_one (ps_ret (pe_ix (ix_listK (K := K)) (pv 0) (pv 1) (fun _ _ => rfl)))) pss_nil)
      (pss_one (ps_ret (pe_op op_add (pe_op op_mul pe_int (pv 1)) pe_int)))), ?_⟩
    refine ⟨_, rfl, _, rfl, _, _, rfl, .inl ⟨_, hS, rfl⟩, _, _, rfl, rfl, _, rfl, ?_⟩
    refine ite2 (fun c => ?_) (fun c => ?_)
    · have c' := of_decide_eq_true c
      rw [List.length_map] at c'
      have hk' : k < ns.length := by omega
      exact ⟨_, rfl, _, rfl, a, _, _, .int ns[k], rfl, rfl, hS, atI_nat (by rw [List.getElem?_map, List.getElem?_eq_getElem hk']; rfl), q _⟩
    · exact ⟨_, rfl, _, _, rfl, rfl, .inl ⟨by decide, by decide⟩, _, _, rfl, rfl, q _⟩
abbrev s__law_box : Stmt := top 41
theorem sc__law_box : FnScope ["_law_cell_here"] ["_law_cell_here"] (defScope s__law_box) := ⟨rfl, rfl, rfl, by decide +kernel, rfl, by decide +kernel, by decide +kernel⟩

theorem ok_bag (bt : Bt mg) (D : Def K mg "_law_box" s__law_box) : Prom P w K mg base 1 "_law_box" ["_law_cell_here"] spBag := by
  refine prom_mk D sc__law_box (fun vs H Q E h => ?_) (fun _ _ _ _ _ _ us hl => match us, hl with | [_], _ => rfl) (fun f cdv A outer s H vs Q E hr h => ?_)
  · obtain ⟨c, rfl, _⟩ := h
    rfl
  · obtain ⟨c, rfl, q⟩ := h
    refine ⟨_, (pss_one (ps_ret (pe_lst (pa_cons (pe_callB (id := "max") (call_max2 rfl) (by rfl) bt.max_ (by decide +kernel) (pa_cons pe_int (pa_cons (pe_op op_sub (pv 0) (pe_op op_pow pe_int pe_int)) pa_nil))) (pa_cons (pe_op op_mod (pv 0) pe_int) (pa_cons pe_int pa_nil)))))), ?_⟩
    refine ⟨_, rfl, _, _, rfl, rfl, ⟨by decide, by decide, by decide⟩, _, _, rfl, rfl, _, _, rfl, ?_⟩
    refine ⟨_, rfl, _, _, rfl, rfl, (by show (0 : Int) < 2147483629; decide), (by show 3 ≤ sizeLine; decide), fun p hp => q p _ hp ?_⟩
    refine ⟨_, _, _, rfl, ?_, Int.emod_nonneg _ (by decide), Int.emod_lt_of_pos _ (by decide), Int.le_refl 0, by decide⟩
    split <;> omega
abbrev s__law_take : Stmt := top 42
theorem sc__law_take : FnScope ["_law_box_here", "_law_many", "_law_digit", "_law_number"] ["_law_box_here", "_law_many"] (defScope s__law_take) := ⟨rfl, rfl, rfl, by decide +kernel, rfl, by decide +kernel, by decide +kernel⟩

theorem pow_small {x : Int} {n : Nat} (h0 : 0 ≤ x) (h1 : x < 2 ^ 60) : x.natAbs < 2 ^ 64 := by
  have : (2 : Int) ^ 60 = 1152921504606846976 := by decide
  have h2 : (2 : Nat) ^ 64 = 18446744073709551616 := by decide
  omega
theorem ok_take (D : Def K mg "_law_take" s__law_take) : Prom P w K mg base 1 "_law_take" ["_law_box_here", "_law_many"] spTake := by
  refine prom_mk D sc__law_take (fun vs H Q E h => ?_) (fun _ _ _ _ _ _ us hl => match us, hl with | [_, _], _ => rfl) (fun f cdv A outer s H vs Q E hr h => ?_)
  · obtain ⟨b, o, n, many, rfl, _⟩ := h
    rfl
  · obtain ⟨b, o, n, many, rfl, hb, ⟨x, y, z, rfl, hx, hy, hy', hz, hn⟩, hm, hm', q⟩ := h
    have hL : ∀ {H : Hp} {xs : List V}, H b = some (.lst xs) → SqL K H b xs := fun h => .inl (.inl h)
    refine ⟨_, (pss_cons (ps_if (pt_cmpR op_gt (pe_ix (ix_listK (K := K)) (pv 0) pe_int (fun _ _ => rfl)) pe_int (nomark _)) (pss_cons (ps_set (i := 2) sc__law_take.nd rfl (Or.inl rfl) (pe_op op_mod (pe_ix (ix_listK (K := K)) (pv 0) pe_int (fun _ _ => rfl)) (pv 1)))
      (pss_cons (ps_asg (pe_op op_fdivW (pe_ix (ix_listK (K := K)) (pv 0) pe_int (fun _ _ => rfl)) (pv 1)) (pg_sub (pv 0) pe_int set_list))
      (pss_one (ps_ret (pv 2))))) pss_nil)
      (pss_cons (ps_asg (pe_op op_add (pe_ix (ix_listK (K := K)) (pv 0) pe_int (fun _ _ => rfl)) pe_int) (pg_sub (pv 0) pe_int set_list))
      (pss_cons (ps_set (i := 3) sc__law_take.nd rfl (Or.inl rfl) (pe_op op_mod (pe_op op_pow (pe_op op_add (pe_op op_add (pe_ix (ix_listK (K := K)) (pv 0) pe_int (fun _ _ => rfl)) (pe_op op_mul pe_int (pe_ix (ix_listK (K := K)) (pv 0) pe_int (fun _ _ => rfl)))) pe_int) pe_int) pe_int))
      (pss_cons (ps_set (i := 3) sc__law_take.nd rfl (Or.inl rfl) (pe_op op_mod (pe_op op_pow (pe_op op_add (pv 3) (pe_op op_mul pe_int (pe_ix (ix_listK (K := K)) (pv 0) pe_int (fun _ _ => rfl)))) pe_int) pe_int))
      (pss_one (ps_ret (pe_op op_mod (pe_op op_fdivW (pv 3) pe_int) (pv 1)))))))), ?_⟩
    refine ⟨_, rfl, b, _, _, _, rfl, rfl, hL hb, rfl, _, _, rfl, rfl, _, rfl, ?_⟩
    refine ite2 (fun c => ?_) (fun c => ?_)
    · have c' := of_decide_eq_true c
      refine ⟨_, rfl, b, _, _, _, rfl, rfl, hL hb, rfl, _, rfl, _, _, rfl, rfl, hm, ?_⟩
      refine ⟨_, rfl, b, _, _, _, rfl, rfl, hL hb, rfl, _, rfl, _, _, rfl, rfl, ?_, ?_⟩
      · exact wide_div (b := 201) hm (by have h1 : (2 : Int) ^ 200 = 1606938044258990275541962092341162602522202993782792835301376 := by decide +kernel
                                         have h3 : (2 : Nat) ^ 201 = 3213876088517980551083924184682325205044405987565585670602752 := by decide +kernel
                                         rw [h1] at hm'
                                         rw [h3]
                                         omega) (by decide) (by decide)
      · refine ⟨_, rfl, b, _, _, 0, rfl, rfl, hb, rfl, _, rfl, ?_⟩
        exact q _ _ (Int.emod_nonneg _ (by omega)) (Int.emod_lt_of_pos _ hm) ⟨_, _, _, rfl, Int.ediv_nonneg hx (by omega), hy, hy', hz, by omega⟩
    · refine ⟨_, rfl, b, _, _, _, rfl, rfl, hL hb, rfl, _, _, rfl, rfl, _, rfl, b, _, _, 2, rfl, rfl, hb, rfl, ?_⟩
      have hb1 : (L2.upd H b (.lst [.int x, .int y, .int (z + 1)])) b = some (.lst [.int x, .int y, .int (z + 1)]) := upd_same
      refine ⟨_, rfl, b, _, _, _, rfl, rfl, hL hb1, rfl, _, rfl, b, _, _, _, rfl, rfl, hL hb1, rfl, _, _, rfl, rfl, .inl ⟨by decide, by decide⟩, _, _, rfl, rfl, _, _, rfl, rfl, _, _, rfl, rfl, ⟨by decide, by decide, ?_⟩, _, _, rfl, rfl, (by show (0 : Int) < 2147483647; decide), ?_⟩
      · exact pow_small (n := 0) (by omega) (by have : (2 : Int) ^ 60 = 1152921504606846976 := by decide
                                                omega)
      · have r0 := Int.emod_nonneg ((y + 7919 * (z + 1) + 61) ^ 5) (show (2147483647 : Int) ≠ 0 by decide)
        have r1 := Int.emod_lt_of_pos ((y + 7919 * (z + 1) + 61) ^ 5) (show (0 : Int) < 2147483647 by decide)
        refine ⟨_, rfl, _, rfl, b, _, _, _, rfl, rfl, hL hb1, rfl, _, _, rfl, rfl, .inl ⟨by decide, by decide⟩, _, _, rfl, rfl, _, _, rfl, rfl, ⟨by decide, by decide, ?_⟩, _, _, rfl, rfl, (by show (0 : Int) < 2147483587; decide), ?_⟩
        · exact pow_small (n := 0) (Int.add_nonneg r0 (by omega)) (by have : (2 : Int) ^ 60 = 1152921504606846976 := by decide
                                                                      omega)
        · refine ⟨_, rfl, _, _, rfl, rfl, wide_div (b := 10) (by decide) (by decide) (by decide) (by decide), _, rfl, _, _, rfl, rfl, hm, ?_⟩
          exact q _ _ (Int.emod_nonneg _ (by omega)) (Int.emod_lt_of_pos _ hm) ⟨_, _, _, rfl, hx, hy, hy', by omega, by omega⟩
end

end TS

namespace TS
open PySem PySem.Spec PyProof.Rows L2 TL
/-! ### the head and the end -/
def fn : List He.DefD := ([defD "is_whole" s_is_whole, defD "is_name" s_is_name, defKD "number_in" s_number_in [("low", .int 0), ("high", .int 9999)], defD "is_letter" s_is_letter, defD "is_row" s_is_row, defD "are_rows" s_are_rows, defD "words_in" s_words_in, defD "need_words" s_need_words, defD "are_signs" s_are_signs, defD "places_of" s_places_of, defD "ends_of" s_ends_of, defD "term_of" s_term_of, defD "_law_cell" s__law_cell, defD "_law_box" s__law_box, defD "_law_take" s__law_take, defD "_law_names" s__law_names, defD "_law_rows" s__law_rows, defD "_law_spare" s__law_spare, defD "_law_letters" s__law_letters, defD "_law_signs" s__law_signs] : List He.DefD) ++ ([defD "_law_is_letter" s__law_is_letter, defD "_law_due" s__law_due, defD "_law_caught" s__law_caught, defD "_law_spoilt" s__law_spoilt, defD "_law_read_right" s__law_read_right, defD "_law_equal_right" s__law_equal_right, defD "law" s_law, methD "NoWords" "__init__" "NoWords.__init__" s_NoWords___init__, methD "NoSigns" "__init__" "NoSigns.__init__" s_NoSigns___init__, methD "NoSign" "__init__" "NoSign.__init__" s_NoSign___init__, methD "Beyond" "__init__" "Beyond.__init__" s_Beyond___init__, methD "Unended" "__init__" "Unended.__init__" s_Unended___init__, methD "NoNumber" "__init__" "NoNumber.__init__" s_NoNumber___init__, methD "Words" "__init__" "Words.__init__" s_Words___init__, methD "Words" "has" "Words.has" s_Words_has, methD "Words" "told_of" "Words.told_of" s_Words_told_of, methD "Words" "places" "Words.places" s_Words_places, methD "Words" "__eq__" "Words.__eq__" s_Words___eq__, methD "Term" "signs" "Term.signs" s_Term_signs, methD "Term" "words" "Term.words" s_Term_words] : List He.DefD) ++ ([methD "Term" "__eq__" "Term.__eq__" s_Term___eq__, methD "Term" "__str__" "Term.__str__" s_Term___str__, methD "Term" "__repr__" "Term.__repr__" s_Term___repr__, methKD "Term" "__init__" "Term.__init__" s_Term___init__ [("most", .int 100)]] : List He.DefD)
def gl : List Str := (["is_whole", "is_name", "number_in", "is_letter", "is_row", "are_rows", "words_in", "need_words", "are_signs", "places_of", "ends_of", "term_of", "_law_cell", "_law_box", "_law_take", "_law_names", "_law_rows", "_law_spare", "_law_letters", "_law_signs"] : List Str) ++ (["_law_is_letter", "_law_due", "_law_caught", "_law_spoilt", "_law_read_right", "_law_equal_right", "law", "TermError", "NoWords", "NoSigns", "NoSign", "Beyond", "Unended", "NoNumber", "Words", "Term"] : List Str)
def fl (K : PySem.W.Frag) : List Bool := ([famB K "TermError", ownB K "NoWords" "found", ownB K "NoSigns" "found", ownB K "NoSign" "at", ownB K "Beyond" "at", ownB K "Unended" "many", ownB K "NoNumber" "found", (He.Fa.cls "Words").ok K, (He.Fa.noat "Words" "by_name").ok K, (He.Fa.mkr "Words").ok K, (He.Fa.meth "Words" "has").ok K, (He.Fa.meth "Words" "told_of").ok K, (He.Fa.meth "Words" "places").ok K, isCB K (He.ga K "Words"), isCB K (He.ga K "Term"), (He.Fa.meth "Words" "__eq__").ok K, (He.Fa.meth "Term" "words").ok K, (He.Fa.meth "Term" "__eq__").ok K, (He.Fa.meth "Term" "__str__").ok K, (He.Fa.meth "Term" "__repr__").ok K] : List Bool) ++ ([neB K (He.ga K "Words"), neB K (He.ga K "Term"), apKB K (He.ga K "Words"), apKB K (He.ga K "Term"), decide (PySem.W.kitOne K (.ref (He.ga K "Words")) (.ref (He.ga K "Term")) = some false), decide (PySem.W.kitOne K (.ref (He.ga K "Term")) (.ref (He.ga K "Words")) = some false), decide (PySem.W.subIn K (.ref (He.ga K "Words")) (.ref (He.ga K "Term")) = some false), decide (PySem.W.subIn K (.ref (He.ga K "Term")) (.ref (He.ga K "Words")) = some false), (He.Fa.cls "Term").ok K, (He.Fa.noat "Term" "term_words").ok K, (He.Fa.noat "Term" "all_signs").ok K, (He.Fa.noat "Term" "all_ends").ok K, (He.Fa.mkr "Term").ok K, (He.Fa.meth "Term" "signs").ok K, ((List.range 5).all fun i => (List.range 5).all fun j => (He.Fa.exm (exs.getD i "") (exs.getD j "") (decide (i = j))).ok K), (He.Fa.int "MOST_SIGNS_marks" 8).ok K, (He.Fa.int "MOST_FIGURES" 30).ok K, (He.Fa.int "LAST_LETTER" 99).ok K, (He.Fa.int "MOST_PLACES" 4).ok K, (He.Fa.int "MOST_WORDS" 12).ok K] : List Bool) ++ ([(He.Fa.int "GREATEST" 9999).ok K, (He.Fa.int "MOST_SIGNS_terms" 100).ok K, (He.Fa.str "SMALL" "abcdefghijklmnopqrstuvwxyz").ok K, (He.Fa.str "FIGURES" "0123456789").ok K, (He.Fa.str "CAPITALS" "ABCDEFGHIJKLMNOPQRSTUVWXYZ").ok K] : List Bool)
def more (K : PySem.W.Frag) : Bool := (fl K).all id
def chk : PySem.W.Frag → Bool := chkX gl more
abbrev R : PySem.W.OpenRow := PySem.W.OpenLaw.row PySem.Challenge.rw_termshelf_k12_terms_read_and_compared
abbrev hk : PySem.W.Hook := hookX 6 chk fn
def ob (s : PySem.W.SharedT) : He.AlD := obsX 6 chk fn (HandSHeadRun.getT s)
def loose : List PySem.Str := (["_wall", "TermError", "Absent", "NoWords", "NoSigns", "NoSign", "Beyond", "Unended", "NoNumber", "NotThere", "FIGURES", "SMALL", "CAPITALS", "MOST_SIGNS_marks", "MOST_FIGURES", "MOST_PLAIN", "LAST_LETTER", "is_whole", "is_name", "number_in", "is_letter", "words_in", "MOST_WORDS", "MOST_PLACES", "is_row", "are_rows", "Words", "MOST_SIGNS_terms", "GREATEST", "need_words"] : List PySem.Str) ++ (["are_signs", "places_of", "ends_of", "Term", "term_of", "_law_cell", "_law_box", "_law_take", "_law_names", "_law_rows", "_law_spare", "_law_letters", "_law_signs", "_law_is_letter", "_law_due", "_law_caught", "_law_spoilt", "_law_read_right", "_law_equal_right"] : List PySem.Str)
theorem run (w : World) : HandSHeadRun.RunEq R (PySem.W.view R.prog [54]) hk ob 6000 loose w := by
  intro os
  kernel_rfl
theorem facts {w : World} {K : PySem.W.Frag} {h : Heap} {mg : Str → Option Value} {f : Addr} (X : K.In h) (G : h.Ns mainGlobals mg) (hfa : mg ("law" : Str) = some (.ref f)) (c : chk K = true) (c1 : fn.all (fun d => d.ok K) = true)
    (c2 : fn.map (fun d => He.fnW K d.at_) = fn.map He.DefD.val) : LawAt PySem.Challenge.rw_termshelf_k12_terms_read_and_compared w mg 9 63 "_law_script" h f K := by
  obtain ⟨ca, cb⟩ := He.ba c
  obtain ⟨cs, cbt⟩ := He.ba ca
  obtain ⟨cg, cm⟩ := He.ba cb
  have fx : ∀ (i : Nat) (b : Bool), (fl K)[i]? = some b → b = true := fun i b hb => List.all_eq_true.mp cm b (List.mem_of_getElem? hb)
  have Y := sysB_ok cs
  have bt := bt_of X G cbt
  have g : ∀ (x : Str), x ∈ gl → (He.Fa.glo x).ok K = true := fun x hx => List.all_eq_true.mp cg x hx
  have gg : ∀ (x : Str), x ∈ gl → mg x = some (.ref (He.ga K x)) := fun x hx => He.glo_ok X G (g x hx)
  have D : ∀ {x : Str} {st : Stmt} (i : Nat), fn[i]? = some (defD x st) → x ∈ gl → Def K mg x st := fun i hi hx => def_of X G c1 c2 i hi (g _ hx)
  have d_is_whole : Def K mg "is_whole" s_is_whole := D 0 rfl (by decide +kernel)
  have d_is_name : Def K mg "is_name" s_is_name := D 1 rfl (by decide +kernel)
  have d_number_in : DefK K mg "number_in" s_number_in [("low", .int 0), ("high", .int 9999)] := defK_of X G c1 c2 2 rfl (g _ (by decide +kernel))
  have d_is_letter : Def K mg "is_letter" s_is_letter := D 3 rfl (by decide +kernel)
  have d_is_row : Def K mg "is_row" s_is_row := D 4 rfl (by decide +kernel)
  have d_are_rows : Def K mg "are_rows" s_are_rows := D 5 rfl (by decide +kernel)
  have d_words_in : Def K mg "words_in" s_words_in := D 6 rfl (by decide +kernel)
  have d_need_words : Def K mg "need_words" s_need_words := D 7 rfl (by decide +kernel)
  have d_are_signs : Def K mg "are_signs" s_are_signs := D 8 rfl (by decide +kernel)
  have d_places_of : Def K mg "places_of" s_places_of := D 9 rfl (by decide +kernel)
  have d_ends_of : Def K mg "ends_of" s_ends_of := D 10 rfl (by decide +kernel)
  have d_term_of : Def K mg "term_of" s_term_of := D 11 rfl (by decide +kernel)
  have d__law_cell : Def K mg "_law_cell" s__law_cell := D 12 rfl (by decide +kernel)
  have d__law_box : Def K mg "_law_box" s__law_box := D 13 rfl (by decide +kernel)
  have d__law_take : Def K mg "_law_take" s__law_take := D 14 rfl (by decide +kernel)
  have d__law_names : Def K mg "_law_names" s__law_names := D 15 rfl (by decide +kernel)
  have d__law_rows : Def K mg "_law_rows" s__law_rows := D 16 rfl (by decide +kernel)
  have d__law_spare : Def K mg "_law_spare" s__law_spare := D 17 rfl (by decide +kernel)
  have d__law_letters : Def K mg "_law_letters" s__law_letters := D 18 rfl (by decide +kernel)
  have d__law_signs : Def K mg "_law_signs" s__law_signs := D 19 rfl (by decide +kernel)
  have d__law_is_letter : Def K mg "_law_is_letter" s__law_is_letter := D 20 rfl (by decide +kernel)
  have d__law_due : Def K mg "_law_due" s__law_due := D 21 rfl (by decide +kernel)
  have d__law_caught : Def K mg "_law_caught" s__law_caught := D 22 rfl (by decide +kernel)
  have d__law_spoilt : Def K mg "_law_spoilt" s__law_spoilt := D 23 rfl (by decide +kernel)
  have d__law_read_right : Def K mg "_law_read_right" s__law_read_right := D 24 rfl (by decide +kernel)
  have d__law_equal_right : Def K mg "_law_equal_right" s__law_equal_right := D 25 rfl (by decide +kernel)
  have d_law : Def K mg "law" s_law := D 26 rfl (by decide +kernel)
  have d_NoWords___init__ : DefM K (He.ma K (He.ga K "NoWords") "__init__") "__init__" "NoWords.__init__" s_NoWords___init__ := meth_of c1 c2 27 rfl
  have d_NoSigns___init__ : DefM K (He.ma K (He.ga K "NoSigns") "__init__") "__init__" "NoSigns.__init__" s_NoSigns___init__ := meth_of c1 c2 28 rfl
  have d_NoSign___init__ : DefM K (He.ma K (He.ga K "NoSign") "__init__") "__init__" "NoSign.__init__" s_NoSign___init__ := meth_of c1 c2 29 rfl
  have d_Beyond___init__ : DefM K (He.ma K (He.ga K "Beyond") "__init__") "__init__" "Beyond.__init__" s_Beyond___init__ := meth_of c1 c2 30 rfl
  have d_Unended___init__ : DefM K (He.ma K (He.ga K "Unended") "__init__") "__init__" "Unended.__init__" s_Unended___init__ := meth_of c1 c2 31 rfl
  have d_NoNumber___init__ : DefM K (He.ma K (He.ga K "NoNumber") "__init__") "__init__" "NoNumber.__init__" s_NoNumber___init__ := meth_of c1 c2 32 rfl
  have d_Words___init__ : DefM K (He.ma K (He.ga K "Words") "__init__") "__init__" "Words.__init__" s_Words___init__ := meth_of c1 c2 33 rfl
  have d_Words_has : DefM K (He.ma K (He.ga K "Words") "has") "has" "Words.has" s_Words_has := meth_of c1 c2 34 rfl
  have d_Words_told_of : DefM K (He.ma K (He.ga K "Words") "told_of") "told_of" "Words.told_of" s_Words_told_of := meth_of c1 c2 35 rfl
  have d_Words_places : DefM K (He.ma K (He.ga K "Words") "places") "places" "Words.places" s_Words_places := meth_of c1 c2 36 rfl
  have d_Words___eq__ : DefM K (He.ma K (He.ga K "Words") "__eq__") "__eq__" "Words.__eq__" s_Words___eq__ := meth_of c1 c2 37 rfl
  have d_Term_signs : DefM K (He.ma K (He.ga K "Term") "signs") "signs" "Term.signs" s_Term_signs := meth_of c1 c2 38 rfl
  have d_Term_words : DefM K (He.ma K (He.ga K "Term") "words") "words" "Term.words" s_Term_words := meth_of c1 c2 39 rfl
  have d_Term___eq__ : DefM K (He.ma K (He.ga K "Term") "__eq__") "__eq__" "Term.__eq__" s_Term___eq__ := meth_of c1 c2 40 rfl
  have d_Term___str__ : DefM K (He.ma K (He.ga K "Term") "__str__") "__str__" "Term.__str__" s_Term___str__ := meth_of c1 c2 41 rfl
  have d_Term___repr__ : DefM K (He.ma K (He.ga K "Term") "__repr__") "__repr__" "Term.__repr__" s_Term___repr__ := meth_of c1 c2 42 rfl
  have d_Term___init__ : DefMK K (He.ma K (He.ga K "Term") "__init__") "__init__" "Term.__init__" s_Term___init__ [("most", .int 100)] := methK_of c1 c2 43 rfl
  have g_TermError := gg "TermError" (by decide +kernel)
  have g_NoWords := gg "NoWords" (by decide +kernel)
  have g_NoSigns := gg "NoSigns" (by decide +kernel)
  have g_NoSign := gg "NoSign" (by decide +kernel)
  have g_Beyond := gg "Beyond" (by decide +kernel)
  have g_Unended := gg "Unended" (by decide +kernel)
  have g_NoNumber := gg "NoNumber" (by decide +kernel)
  have g_Words := gg "Words" (by decide +kernel)
  have g_Term := gg "Term" (by decide +kernel)
  have fam := famB_ok (fx 0 _ rfl)
  have x_NoWords := ownB_ok (fx 1 _ rfl)
  have x_NoSigns := ownB_ok (fx 2 _ rfl)
  have x_NoSign := ownB_ok (fx 3 _ rfl)
  have x_Beyond := ownB_ok (fx 4 _ rfl)
  have x_Unended := ownB_ok (fx 5 _ rfl)
  have x_NoNumber := ownB_ok (fx 6 _ rfl)
  have clW := He.cls_ok (fx 7 _ rfl)
  have nbW := He.noat_ok (fx 8 _ rfl)
  have clT := He.cls_ok (fx 28 _ rfl)
  have hx : ∀ i, i < 5 → ∀ j, j < 5 → PySem.W.exmOne K (.ref (He.ga K (exs.getD i ""))) (.ref (He.ga K (exs.getD j ""))) = some (decide (i = j)) := fun i hi j hj =>
    He.exm_ok (List.all_eq_true.mp (List.all_eq_true.mp (fx 34 _ rfl) i (List.mem_range.mpr hi)) j (List.mem_range.mpr hj))
  obtain ⟨fL, fdL, FL, mL⟩ := id d_law
  have e := hfa.symm.trans mL
  cases e
  have b := FunD.bindsA (ps := ["_law_script"]) FL fun _ _ _ _ _ _ us hl => match us, hl with | [_], _ => rfl
  refine ⟨X, fdL, spLaw K, fun s v => b s [v] rfl, fun H a ns hl _ hS => ⟨a, ns, rfl, hS, hl, fun _ => rfl⟩, fun base _ _ => ?_⟩
  have p_take := ok_take (P := PySem.Challenge.rw_termshelf_k12_terms_read_and_compared.prog) (w := w) (base := base) d__law_take
  have p_name := ok_is_name (P := PySem.Challenge.rw_termshelf_k12_terms_read_and_compared.prog) (w := w) (base := base) bt (He.int_ok X G (fx 35 _ rfl)) (He.str_ok X G (fx 42 _ rfl)) d_is_name
  have p_whole := ok_is_whole (P := PySem.Challenge.rw_termshelf_k12_terms_read_and_compared.prog) (w := w) (base := base) bt d_is_whole
  have p_row := ok_is_row bt (He.int_ok X G (fx 38 _ rfl)) p_name p_whole d_is_row
  have p_rows := ok_are_rows bt (He.int_ok X G (fx 39 _ rfl)) p_row d_are_rows
  have i_NoWords := ok_NoWords_ini (P := PySem.Challenge.rw_termshelf_k12_terms_read_and_compared.prog) (w := w) (base := base) fam g_TermError x_NoWords d_NoWords___init__
  have i_NoSigns := ok_NoSigns_ini (P := PySem.Challenge.rw_termshelf_k12_terms_read_and_compared.prog) (w := w) (base := base) fam g_TermError x_NoSigns d_NoSigns___init__
  have i_NoSign := ok_NoSign_ini (P := PySem.Challenge.rw_termshelf_k12_terms_read_and_compared.prog) (w := w) (base := base) fam g_TermError x_NoSign d_NoSign___init__
  have i_Beyond := ok_Beyond_ini (P := PySem.Challenge.rw_termshelf_k12_terms_read_and_compared.prog) (w := w) (base := base) fam g_TermError x_Beyond d_Beyond___init__
  have i_Unended := ok_Unended_ini (P := PySem.Challenge.rw_termshelf_k12_terms_read_and_compared.prog) (w := w) (base := base) fam g_TermError x_Unended d_Unended___init__
  have i_NoNumber := ok_NoNumber_ini (P := PySem.Challenge.rw_termshelf_k12_terms_read_and_compared.prog) (w := w) (base := base) fam g_TermError x_NoNumber d_NoNumber___init__
  have p_wini := ok_Words_ini bt clW nbW p_rows g_NoWords x_NoWords i_NoWords d_Words___init__
  have p_num := ok_number_in (P := PySem.Challenge.rw_termshelf_k12_terms_read_and_compared.prog) (w := w) (base := base) bt (He.int_ok X G (fx 36 _ rfl)) (He.str_ok X G (fx 43 _ rfl)) d_number_in
  have p_let := ok_is_letter bt (He.str_ok X G (fx 44 _ rfl)) (He.int_ok X G (fx 37 _ rfl)) p_num d_is_letter
  have p_has := ok_Words_has (P := PySem.Challenge.rw_termshelf_k12_terms_read_and_compared.prog) (w := w) (base := base) bt clW nbW d_Words_has
  have p_told := ok_Words_told (P := PySem.Challenge.rw_termshelf_k12_terms_read_and_compared.prog) (w := w) (base := base) bt clW nbW d_Words_told_of
  have p_places := ok_Words_places clW (He.meth_ok (fx 11 _ rfl)) p_told d_Words_places
  have p_need := ok_need_words bt (isCB_ok clW (fx 13 _ rfl)) g_Words g_NoWords x_NoWords i_NoWords d_need_words
  have p_aresigns := ok_are_signs (P := PySem.Challenge.rw_termshelf_k12_terms_read_and_compared.prog) (w := w) (base := base) bt d_are_signs
  have p_plof := ok_places_of bt p_let clW (He.meth_ok (fx 10 _ rfl)) (He.meth_ok (fx 12 _ rfl)) p_has p_places g_NoSign x_NoSign i_NoSign g_Beyond x_Beyond i_Beyond g_Unended x_Unended i_Unended d_places_of
  have p_ends := ok_ends_of (P := PySem.Challenge.rw_termshelf_k12_terms_read_and_compared.prog) (w := w) (base := base) bt d_ends_of
  have p_tsigns := ok_Term_signs (P := PySem.Challenge.rw_termshelf_k12_terms_read_and_compared.prog) (w := w) (base := base) bt clT (He.noat_ok (fx 30 _ rfl)) d_Term_signs
  have p_tini := ok_Term_ini bt (He.int_ok X G (fx 40 _ rfl)) clT (He.noat_ok (fx 29 _ rfl)) (He.noat_ok (fx 30 _ rfl)) (He.noat_ok (fx 31 _ rfl)) p_need p_whole p_aresigns p_plof p_ends g_NoNumber x_NoNumber i_NoNumber g_NoSigns x_NoSigns i_NoSigns d_Term___init__
  have p_T0 := promAK_of p_tini 3 [] [("most", .int 100)] (fun us mv ws => us ++ (mv ++ ws)) (by decide) (fun q hq => hq) (fun r1 r2 r3 => r1.append (r2.append r3)) (fun D doc pm an cdv ct us mv ws l1 l2 l3 => match us, l1, mv, l2, ws, l3 with
    | [_, _, _], _, [_], _, [], _ => ⟨_, _, _, _, _, _, rfl, rfl, rfl⟩)
  have p_T1 := promAK_of p_tini 3 ["most"] [] (fun us mv ws => us ++ (mv ++ ws)) (by decide) (fun q hq => by cases hq) (fun r1 r2 r3 => r1.append (r2.append r3)) (fun D doc pm an cdv ct us mv ws l1 l2 l3 => match us, l1, mv, l2, ws, l3 with
    | [_, _, _], _, [], _, [_], _ => rfl)
  have isW := isCB_ok clW (fx 13 _ rfl)
  have isT := isCB_ok clT (fx 14 _ rfl)
  have mqW := He.meth_ok (fx 15 _ rfl)
  have mqT := He.meth_ok (fx 17 _ rfl)
  have mkT := He.mkr_ok (fx 32 _ rfl)
  have mkW := He.mkr_ok (fx 9 _ rfl)
  have msT := He.meth_ok (fx 33 _ rfl)
  have p_weq := ok_Words_eq (P := PySem.Challenge.rw_termshelf_k12_terms_read_and_compared.prog) (w := w) (base := base) bt isW nbW g_Words d_Words___eq__
  have p_twords := ok_Term_words (P := PySem.Challenge.rw_termshelf_k12_terms_read_and_compared.prog) (w := w) (base := base) (mg := mg) clT (He.noat_ok (fx 29 _ rfl)) d_Term_words
  have p_teq := ok_Term_eq bt isT (He.noat_ok (fx 29 _ rfl)) g_Term clT (He.meth_ok (fx 16 _ rfl)) msT mqW (neB_ok (fx 20 _ rfl)) p_weq p_twords p_tsigns d_Term___eq__
  have p_tstr := ok_Term_str (P := PySem.Challenge.rw_termshelf_k12_terms_read_and_compared.prog) (w := w) (base := base) bt clT (He.noat_ok (fx 30 _ rfl)) d_Term___str__
  have p_trepr := ok_Term_repr bt (He.meth_ok (fx 18 _ rfl)) p_tstr d_Term___repr__
  have p_words_in := ok_words_in (P := PySem.Challenge.rw_termshelf_k12_terms_read_and_compared.prog) (w := w) (base := base) bt d_words_in
  have f_term_of := ok_term_of bt (He.int_ok X G (fx 41 _ rfl)) p_need p_words_in mkT g_Term p_T0 g_NoSigns x_NoSigns i_NoSigns d_term_of
  have p_term_of := f_term_of.pos (fun _ _ _ _ _ _ us hl => match us, hl with | [_, _], _ => rfl)
  have pn_term_of := f_term_of.names 0 ["text", "words"] (fun vs zs => zs.reverse) (fun _ r => vals_rev r) (fun _ _ _ _ _ _ us ws l1 l2 => match us, ws, l1, l2 with | [], [_, _], _, _ => rfl)
  have p_lletter := ok_law_is_letter (P := PySem.Challenge.rw_termshelf_k12_terms_read_and_compared.prog) (w := w) (base := base) bt d__law_is_letter
  have p_caught := ok_caughtL bt clT msT hx g_NoWords g_NoSigns g_NoSign g_Beyond g_Unended x_NoWords x_NoSigns x_NoSign x_Beyond x_Unended p_term_of p_tsigns d__law_caught
  have p_due := ok_dueL bt p_lletter d__law_due
  have p_spoilt := ok_spoilt bt p_take d__law_spoilt
  have p_read := ok_read_right Y bt p_due p_caught d__law_read_right
  have p_spare := ok_spare (P := PySem.Challenge.rw_termshelf_k12_terms_read_and_compared.prog) (w := w) (base := base) bt d__law_spare
  have p_equal := ok_equal_right Y bt isT isW mqT (neB_ok (fx 21 _ rfl)) (apKB_ok (fx 23 _ rfl)) mqW (apKB_ok (fx 22 _ rfl)) (of_decide_eq_true (fx 24 _ rfl)) (of_decide_eq_true (fx 25 _ rfl)) (of_decide_eq_true (fx 26 _ rfl)) (of_decide_eq_true (fx 27 _ rfl)) g_Words mkW p_wini mkT g_Term p_T0 p_teq p_weq d__law_equal_right
  have p_names := ok_names bt p_take d__law_names
  have p_drows := ok_drows bt p_take p_names d__law_rows
  have p_ltrs := ok_ltrs bt p_take d__law_letters
  have p_signs := ok_signs bt p_take d__law_signs
  exact ok_law Y bt (ok_cell bt d__law_cell) (ok_bag bt d__law_box) p_take p_drows p_ltrs p_signs g_Words mkW p_wini pn_term_of clT (He.meth_ok (fx 18 _ rfl)) p_tstr (He.meth_ok (fx 19 _ rfl)) p_trepr msT p_tsigns mqT (neB_ok (fx 21 _ rfl)) (apKB_ok (fx 23 _ rfl)) p_teq mkT g_Term p_T0 p_spoilt p_read p_caught p_spare p_equal FL

end TS
open PySem PySem.W PySem.Calls PyProof.Rows
set_option maxHeartbeats 0 in
theorem PySem.Challenge.cw_termshelf_k12_terms_read_and_compared_holds : PySem.Challenge.rw_termshelf_k12_terms_read_and_compared.Holds := by
  w_on; o_law
  refine HandSHeadRun.head_any (r := OpenLaw.row PySem.Challenge.rw_termshelf_k12_terms_read_and_compared) (q := view (OpenLaw.row PySem.Challenge.rw_termshelf_k12_terms_read_and_compared).prog [54]) (H := TS.hk) (ob := TS.ob) (M := 6000) (loose := TS.loose) (d := HandSHeadRun.topDef (OpenLaw.row PySem.Challenge.rw_termshelf_k12_terms_read_and_compared).prog 54) (kwd := []) TS.obsX_eq
    (by kernel_rfl) (fun s => by kernel_rfl) TS.run (by kernel_rfl) (by kernel_rfl) (by kernel_rfl) (by rfl) (by first | assumption | decide +kernel) (by decide +kernel) ⟨rfl, rfl, rfl, rfl, rfl, by decide +kernel⟩ ?hw ?hc
  case hw => w_witness2
  case hc =>
    refine TS.walkG (l := PySem.Challenge.rw_termshelf_k12_terms_read_and_compared) (n := 63) (k := 9) (x := "_law_script") rfl (by decide) (by kernel_rfl) ⟨rfl, by decide, by decide⟩ ?F
    intro w mg fa h Y G hmg0
    obtain ⟨K, KX, c, c1, c2⟩ := Y
    have hmg : mg ("law" : PySem.Str) = some (.ref fa) := by
      have e : (HandSHeadRun.topDef (OpenLaw.row PySem.Challenge.rw_termshelf_k12_terms_read_and_compared).prog 54).name = ("law" : PySem.Str) := by kernel_rfl
      rw [← e]
      exact hmg0
    exact ⟨K, TS.facts KX G hmg c c1 c2⟩

