import PyProof.Rows.All
import Wide.All
import OpenK.AllK
import Wide.FinOn
import KE.KStateDown
import Lean
import HandS.ForMost
import HandS.More
import HandS.WordsExc
import HandS.Defaults
import HandS.IsInst
import HandS.Wide
import HandS.Flow
import HandS.Conv
import HandS.Replace
import HandS.EndBits
import HandS.Head0
import HandS.Head1
import HandS.Head2
import HandS.HeadEnd
import HandS.HeadHook1
import HandS.HeadHook2
import HandS.Walk
import HandS.SetBool
import HandS.SetKeys
import KE.GoesMore
import PyProof.EnumMake
import HandS.ExcInit
import HandS.ExcField
import HandS.ExcOwn
import HandS.ClsMeth
import HandS.DictComp
import HandS.WordsDict
import PyProof.ReprLen
import HandS.MakeKwOnly
import HandS.OwnEq
import HandS.ListItems
import PyProof.InstEq
import PyProof.EqKinds
import PyProof.FactsAll.dict
import KE.KCallOwn
import HandS.FStr
import HandS.IterVal
import HandS.ExcValue
import KE.KExcIs
import PyProof.ExcRepr
import HandS.Keys
import PyProof.ExcStrAll.ValueError
import PySem.Challenge.RW_termshelf_k03_refusals_apart
set_option Elab.async false
set_option linter.all false
set_option maxRecDepth 100000
/-! ### 1. promises of defs that may show things (repr): no guard runs around -/
namespace TS
open PySem PySem.Spec PyProof.Rows L2
structure FnG (P : Program) (w : World) (K : PySem.W.Frag) (mg : Str → Option Value) (base : Heap) (CX : CXT) (k : Nat) (f : Addr) (fd : FuncData) (ps : List Str) (sp : Sp) : Prop where
  len : ∀ vs H Q E, sp vs H Q E → vs.length = ps.length
  run : ∀ (A : Around) (outer : List Env) (s : Shared) (H : Hp) (args : Args) (us : List Value) (vs : List V) (Q : VK) (E : XK), A.guards = some [] → Room k A → Env0 P w K mg base A outer s H →
    BindsTo s fd args (ps.zip us) → Vals vs us → sp vs H Q E → codeAny (model P w) A (.call (.ref f) args) (CR CX outer P w H s Q E) s
section
variable {P : Program} {w : World} {K : PySem.W.Frag} {mg : Str → Option Value} {base : Heap} {CX : CXT} {k : Nat} {f : Addr} {fd : FuncData} {ps : List Str} {sp : Sp}
theorem FnG.of (F : FnOk P w K mg base CX k f fd ps sp) : FnG P w K mg base CX k f fd ps sp := ⟨F.len, fun A outer s H args us vs Q E _ => F.run A outer s H args us vs Q E⟩
/-- the body's rule, the guards told -/
theorem okG {x qual : Str} {params : Arguments} {body : List Stmt} {scope : Scope} {dvs : List V} {kws : List (Str × V)} {N : List Str} (F : FunD K x qual params body scope dvs kws f fd) (S : FnScope N ps scope)
    (len : ∀ vs H Q E, sp vs H Q E → vs.length = ps.length)
    (hbody : ∀ (cdv : Value) (A : Around) (outer : List Env) (s : Shared) (H : Hp) (vs : List V) (Q : VK) (E : XK), (A.deeper (envOfC qual scope s.heap.objs.size f cdv)).guards = some [] →
      Room k (A.deeper (envOfC qual scope s.heap.objs.size f cdv)) → sp vs H Q E →
      ∃ t, PSs (cxOf CX P w K mg base N qual scope f cdv A outer s H E) body t ∧ t { nx := fun _ H' => Q .non H', rt := Q } (start N vs) H) : FnG P w K mg base CX (k + 1) f fd ps sp := by
  obtain ⟨oc, od, dV, kV, doc, pm, an, cdv, ct, osl, rfl, lk, hcd, _, _⟩ := F.ex
  refine ⟨len, fun A outer s H args us vs Q E hg hr e0 hb r hsp => ?_⟩
  have KX : K.In s.heap := e0.mod.kin.keeps fun b o e => (e0.bs b o e).1
  have NL : s.heap.NoLimit := e0.mod.nolimit.keeps fun b o e => (e0.bs b o e).1
  have kinds : ∀ y ∈ ps.zip us, scope.names.lookup y.1 = some .local ∨ (scope.names.lookup y.1 = some .cell ∧ ((cellsFrom (s.heap.objs.size + 1) scope.names []).lookup y.1).isSome = true) := by
    rintro ⟨n, v⟩ hy
    exact (S.par n (List.of_mem_zip hy).1).imp id fun q => ⟨q, PySem.W.cellsFrom_some _ _ _ (.inl q)⟩
  refine codeAny_call_function hr.depth (KX _ _ lk) rfl S.co S.gen rfl (PySem.W.codeRec_of KX hcd) (hb _ _ _ _ (wpAny_newFunctionEnv_cells S.kind kinds fun env he s1 x => ?_))
  subst he
  obtain ⟨t, ht, hq⟩ := hbody cdv A outer s H vs Q E hg (hr.deeper _) hsp
  have I0 := inv_start (CX := CX) (E := E) (f := f) (cd := cdv) (qual := qual) S hr.hd e0 (len _ _ _ _ hsp) r x
  refine ⟨NL.keeps x.toInCall.keep, codeAny_func (wpAny_mono (ht.run [] s1 (start N vs) H _ I0 hq) (fun fl s' hs => ?_) fun _ _ z => z)⟩
  cases fl with
  | ret u => exact let ⟨v, _, H', J, rv, q⟩ := hs; ⟨v, H', J.os, J.bare, J.base, J.hok, rv, q⟩
  | next => exact let ⟨_, H', J, q⟩ := hs; ⟨V.non, H', J.os, J.bare, J.base, J.hok, rfl, q⟩
  | brk => exact let ⟨_, _, _, q⟩ := hs; False.elim q
  | cont => exact let ⟨_, _, _, q⟩ := hs; False.elim q
end
section
variable {X : Cx} {CX : CXT} {k : Nat} {f C : Addr} {fd : FuncData} {ps : List Str} {sp : Sp} {dvs : List V} {ds : List Value} {E : XK} {x m : Str} {p pos apos : Pos} {e o : Expr} {es : List Expr} {ta : TE} {t : TA}
theorem run_G {pins : List (Addr × Obj)} {σ : L2.St} {H : Hp} {s : Shared} {Q : VK} {us : List Value} {vs : List V} (F : FnG X.prog X.w X.K X.mg X.base CX k f fd ps sp) (hgd : X.A.guards = some []) (hr : Room k X.A)
    (hb : Binds X.K fd ps ds) (hd : Vals dvs ds) (hx : Passes CX X E) (I : Inv X pins σ H s) (r : Vals vs us) (h : sp (vs ++ dvs) H Q E) : wpAny (model X.prog X.w) X.A (call (.ref f) us) (EP X pins σ Q) X.xe s := by
  have r2 := r.append hd
  have hl : (us ++ ds).length = ps.length := r2.length.symm.trans (F.len _ _ _ _ h)
  refine wpAny_call (codeAny_mono (F.run X.A X.stack s H ⟨us, []⟩ (us ++ ds) (vs ++ dvs) Q E hgd hr I.env0 (hb s us I.kIn hl) r2 h) fun r s' hq => ?_)
  match r, hq with
  | .error e, hq => exact hx pins σ H s e s' I hq
  | .ok (.ret u), hq => exact I.after hq
theorem pe_callG (F : FnG X.prog X.w X.K X.mg X.base CX k f fd ps sp) (hgd : X.A.guards = some []) (hr : Room k X.A) (hg : Gl X x) (hm : X.mg x = some (.ref f)) (hk : PySem.W.keepIn X.K (.ref f) = true)
    (hb : Binds X.K fd ps ds) (hd : Vals dvs ds) (hx : Passes CX X E) (ha : PA X (e :: es) t) (hdb : (x == ("__debug__" : Str)) = false := by decide)
    (he : starEach (e :: es) X.env = (false, eval e X.env) :: starEach es X.env := by rfl) (hpl : (backTo pos (starEach es X.env)).any (·.1) = false := by rfl) :
    PE X (.Call (.Name x p) (e :: es) [] pos) (tCall sp dvs E t) := by
  refine ⟨fun pins s σ H Q I h => wpAny_Call_Name_kw (ld_glob I hg hm ?_ hdb)⟩
  exact PySem.W.callWith_K (h₀ := X.base) I.ok.mod.kin hk (thn (ha.run pos pins s σ H _ I h) fun us s1 ⟨vs, H1, I1, r, q⟩ => ⟨I1.kIn, run_G F hgd hr hb hd hx I1 r q⟩) he hpl
end

/-! ### 2. data at any depth, dicts too, and how they are shown -/
def kD : Key → PyData
  | .inl i => .int i
  | .inr x => .str x
mutual
inductive Dt (K : PySem.W.Frag) (H : Hp) : V → PyData → Prop
  | non : Dt K H .non .none
  | bl (b : Bool) : Dt K H (.bl b) (.bool b)
  | int (i : Int) : Dt K H (.int i) (.int i)
  | str (x : Str) : Dt K H (.str x) (.str x)
  | lst {a : Addr} {xs : List V} {ds : List PyData} : SqL K H a xs → DtAll K H xs ds → Dt K H (.ref a) (.list ds)
  | tup {a : Addr} {xs : List V} {ds : List PyData} : SqT K H a xs → DtAll K H xs ds → Dt K H (.ref a) (.tuple ds)
  | dct {a : Addr} {ks : List Key} {xs : List V} {ds : List PyData} : H a = some (.dK (ks.zip xs)) → ks.length = xs.length → DtAll K H xs ds → Dt K H (.ref a) (.dict ((ks.map kD).zip ds))
inductive DtAll (K : PySem.W.Frag) (H : Hp) : List V → List PyData → Prop
  | nil : DtAll K H [] []
  | cons {v : V} {vs : List V} {d : PyData} {ds : List PyData} : Dt K H v d → DtAll K H vs ds → DtAll K H (v :: vs) (d :: ds)
end
theorem DtAll.length {K : PySem.W.Frag} {H : Hp} : ∀ {vs : List V} {ds : List PyData}, DtAll K H vs ds → vs.length = ds.length
  | _, _, .nil => rfl
  | _, _, .cons _ t => congrArg (· + 1) (DtAll.length t)
theorem SqT.same {K : PySem.W.Frag} {H H' : Hp} {a : Addr} {xs : List V} (e : Same H H') (h : SqT K H a xs) : SqT K H' a xs := by
  rcases h with (h | ⟨o, h⟩) | h
  · exact .inl (.inl (e _ _ h))
  · exact .inl (.inr ⟨o, e _ _ h⟩)
  · exact .inr h
mutual
theorem Dt.same {K : PySem.W.Frag} {H H' : Hp} (e : Same H H') : ∀ {v : V} {d : PyData}, Dt K H v d → Dt K H' v d
  | _, _, .non => .non
  | _, _, .bl b => .bl b
  | _, _, .int i => .int i
  | _, _, .str x => .str x
  | _, _, .lst h a => .lst (e.seq h) (DtAll.same e a)
  | _, _, .tup h a => .tup (SqT.same e h) (DtAll.same e a)
  | _, _, .dct h l a => .dct (e _ _ h) l (DtAll.same e a)
theorem DtAll.same {K : PySem.W.Frag} {H H' : Hp} (e : Same H H') : ∀ {v : List V} {d : List PyData}, DtAll K H v d → DtAll K H' v d
  | _, _, .nil => .nil
  | _, _, .cons a b => .cons (Dt.same e a) (DtAll.same e b)
end
/-- what the written part tells of the machine's own objects -/
structure Sys (K : PySem.W.Frag) : Prop where
  mods : ∃ o, K.lookup sysModules = some o ∧ o.cls = .type "dict"
  book : PySem.W.nsIn K cStatics sharingNotToldKey = some none
section
variable {X : Cx} {pins : List (Addr × Obj)} {σ : L2.St} {H : Hp} {s : Shared}
theorem noMods (Y : Sys X.K) (I : Inv X pins σ H s) {a : Addr} {o : Obj} (e : s.heap.get? a = some o) (h : o.cls ≠ .type "dict") : sysModules ≠ a := fun z => by
  obtain ⟨o', h1, h2⟩ := Y.mods
  have q := I.kIn _ _ h1
  rw [z, e] at q
  cases q
  exact h h2
theorem keys_read : ∀ {es : List DictEntry} {vs : List (Key × Value)}, Pairs (mixKind X.prog X.w) es vs → ReadsAll s.heap (es.map (·.key)) (vs.map fun kv => kD kv.1) []
  | _, _, .nil => .nil
  | _, _, .cons hk hv t => by
    have q := keys_read t
    rcases keyIs_shape hk with ⟨i, t, e1, e2⟩ | ⟨x, t, e1, e2⟩
    · rw [List.map_cons, List.map_cons, e2]
      show ReadsAll s.heap _ (kD _ :: _) _
      rw [e1]
      exact ReadsAll.cons (as := []) (Reads.int i t) q
    · rw [List.map_cons, List.map_cons, e2]
      show ReadsAll s.heap _ (kD _ :: _) _
      rw [e1]
      exact ReadsAll.cons (as := []) (Reads.str x t) q
theorem vals_read : ∀ {es : List DictEntry} {vs : List (Key × Value)}, Pairs (mixKind X.prog X.w) es vs → es.map (·.val) = vs.map (·.2)
  | _, _, .nil => rfl
  | _, _, .cons _ hv t => by rw [List.map_cons, List.map_cons, hv, vals_read t]
theorem kv_fst {κ : Type} : ∀ {kvs : List (κ × V)} {vs : List (κ × Value)}, KV kvs vs → kvs.map (·.1) = vs.map (·.1)
  | _, _, .nil => rfl
  | _, _, .cons r t => by rw [List.map_cons, List.map_cons, r.1, kv_fst t]
theorem kv_snd {κ : Type} : ∀ {kvs : List (κ × V)} {vs : List (κ × Value)}, KV kvs vs → Vals (kvs.map (·.2)) (vs.map (·.2))
  | _, _, .nil => .nil
  | _, _, .cons r t => .cons r.2 (kv_snd t)
theorem zip_fst {α β : Type} : ∀ {l : List α} {m : List β}, l.length = m.length → (l.zip m).map (·.1) = l
  | [], _, _ => by simp
  | a :: l, [], h => by simp at h
  | a :: l, b :: m, h => by
    rw [List.zip_cons_cons, List.map_cons, zip_fst (by simpa using h)]
theorem zip_snd {α β : Type} : ∀ {l : List α} {m : List β}, l.length = m.length → (l.zip m).map (·.2) = m
  | [], m, h => by cases m <;> simp_all
  | a :: l, [], h => by simp
  | a :: l, b :: m, h => by
    rw [List.zip_cons_cons, List.map_cons, zip_snd (by simpa using h)]
mutual
theorem Dt.reads (Y : Sys X.K) (I : Inv X pins σ H s) : ∀ {v : V} {d : PyData} {u : Value}, Dt X.K H v d → RelV v u → ∃ as, Reads s.heap u d as ∧ sysModules ∉ as
  | _, _, _, .non, r => by
    cases r
    exact ⟨_, Reads.none, by simp⟩
  | _, _, _, .bl b, r => by
    cases r
    exact ⟨_, Reads.bool b, by simp⟩
  | _, _, _, .int i, r => by
    obtain ⟨t, rfl⟩ := r
    exact ⟨_, Reads.int i t, by simp⟩
  | _, _, _, .str x, r => by
    obtain ⟨t, rfl⟩ := r
    exact ⟨_, Reads.str x t, by simp⟩
  | _, _, _, .lst hs ha, r => by
    cases r
    obtain ⟨its, rv, ⟨o, n, ho, hc, _, hd⟩, _⟩ := I.list hs
    obtain ⟨as, hr, hn⟩ := DtAll.reads Y I ha rv
    have ne := noMods Y I ho (by rw [hc]; decide +kernel)
    exact ⟨_, Reads.list ho hc hd hr, fun z => (List.mem_cons.mp z).elim ne hn⟩
  | _, _, _, .tup hs ha, r => by
    cases r
    obtain ⟨its, rv, ⟨o, ho, hc, n, hd⟩, _⟩ := I.tuple hs
    obtain ⟨as, hr, hn⟩ := DtAll.reads Y I ha rv
    exact ⟨_, Reads.tuple ho hc hd hr, hn⟩
  | _, _, _, .dct (a := a) (ks := ks) (xs := xs) (ds := ds) h l ha, r => by
    cases r
    obtain ⟨hz, hS, vs, rk, o, es, ep, ho, hx, hd, _, hp, _⟩ := (show ObjOk X.prog X.w H s.heap a (.dK (ks.zip xs)) from I.hok a _ h)
    have e1 := (kv_fst rk).symm.trans (zip_fst l)
    have e2 := kv_snd rk
    rw [zip_snd l] at e2
    obtain ⟨as, hr, hn⟩ := DtAll.reads Y I ha e2
    have q1 : ReadsAll s.heap (es.toList.map (·.key)) (ks.map kD) [] := by
      have z := keys_read (s := s) hp
      have z2 : vs.map (fun kv => kD kv.1) = ks.map kD := by rw [← e1, List.map_map]; rfl
      rw [z2] at z
      exact z
    have ln : (ks.map kD).length = ds.length := by rw [List.length_map, l, ha.length]
    have q2 := vals_read hp
    refine ⟨a :: [] ++ as, Reads.dict ho hx.1 hd (by rw [zip_fst ln]; exact q1) (by rw [zip_snd ln, q2]; exact hr), fun z => ?_⟩
    rcases List.mem_cons.mp (show sysModules ∈ a :: as from z) with z | z
    · exact absurd z.symm (by simpa using hS)
    · exact hn z
theorem DtAll.reads (Y : Sys X.K) (I : Inv X pins σ H s) : ∀ {vs : List V} {ds : List PyData} {us : List Value}, DtAll X.K H vs ds → Vals vs us → ∃ as, ReadsAll s.heap us ds as ∧ sysModules ∉ as
  | _, _, _, .nil, r => by
    cases r
    exact ⟨_, ReadsAll.nil, by simp⟩
  | _, _, _, .cons h1 h2, r => by
    cases r with
    | cons r1 r2 =>
      obtain ⟨as, q1, n1⟩ := Dt.reads Y I h1 r1
      obtain ⟨bs, q2, n2⟩ := DtAll.reads Y I h2 r2
      exact ⟨_, ReadsAll.cons q1 q2, fun z => (List.mem_append.mp z).elim n1 n2⟩
end
/-- repr(x), x data -/
def rRepr (K : PySem.W.Frag) : List V → Hp → VK → Prop := fun xs H Q => ∃ x d, xs = [x] ∧ Dt K H x d ∧ d.showable = true ∧ d.depth ≤ 40 ∧ d.shown.length ≤ sizeLine ∧ Q (.str d.shown) H
theorem call_repr (Y : Sys X.K) (hgd : X.A.guards = some []) (hu : X.A.units + 64 < cLine) : CallR X (.builtin "repr") (rRepr X.K) := by
  intro pins s σ H xs us Q I r h
  obtain ⟨x, d, rfl, hd, hs, hp, hz, q⟩ := h
  obtain ⟨u, rfl, r1⟩ := vals1 r
  obtain ⟨as, rd, hn⟩ := Dt.reads Y I hd r1
  have fin : ∀ h' v tk, (∀ b o, s.heap.get? b = some o → h'.get? b = some o) → EP X pins σ Q (.str d.shown v) { s with heap := h', toks := tk } := fun h' v tk hk => ⟨.str d.shown, H, I.kept hk, ⟨_, rfl⟩, q⟩
  cases hd with
  | non => cases r1; exact PySem.P.repr_of_none (fin _ _ _ fun _ _ z => z)
  | bl b => cases r1; exact PySem.P.repr_of_bool (fin _ _ _ fun _ _ z => z)
  | int i =>
    obtain ⟨t, rfl⟩ := r1
    exact PySem.P.repr_of_int (by simpa [PyData.showable] using hs) (fin _ _ _ fun _ _ z => z)
  | str y =>
    obtain ⟨t, rfl⟩ := r1
    exact PySem.P.repr_of_str (fin _ _ _ fun _ _ z => z) hz
  | lst h1 h2 => cases r1; exact repr_of_reads' rd hs (fun _ => hn) hgd (by omega) (fun _ _ e => e) fin hz
  | tup h1 h2 => cases r1; exact repr_of_reads' rd hs (fun _ => hn) hgd (by omega) (fun _ _ e => e) fin hz
  | dct h1 h2 h3 => cases r1; exact repr_of_reads' rd hs (fun _ => hn) hgd (by omega) (fun _ _ e => e) fin hz
theorem ns_none {K : PySem.W.Frag} {h : Heap} {a : Addr} {m : Str → Option Value} {n : Str} (X : K.In h) (G : h.Ns a m) (e : PySem.W.nsIn K a n = some none) : m n = none := by
  obtain ⟨o, es, ep, ho, hd, _, hf⟩ := G
  unfold PySem.W.nsIn at e
  split at e
  · rename_i c d es' n' sl q
    have z := X _ _ q
    rw [ho] at z
    cases z
    cases hd
    split at e
    · cases e
    · rename_i he
      rw [← hf]
      unfold nsFind findBy
      rw [← Array.find?_toList, he]
      rfl
  · cases e
theorem unbooked (Y : Sys X.K) (I : Inv X pins σ H s) : NoneBooked s.heap := by
  obtain ⟨mc, h1, h2⟩ := I.nolimit
  exact ⟨mc, h1, ns_none I.kIn h1 Y.book⟩
end
end TS

/-! ### 3. defs by their promises -/
namespace TS
open PySem PySem.Spec PyProof.Rows L2
def Def (K : PySem.W.Frag) (mg : Str → Option Value) (x : Str) (st : Stmt) : Prop := ∃ f fd, FunD K x x (defArgs st) (defBody st) (defScope st) [] [] f fd ∧ mg x = some (.ref f)
def Prom (P : Program) (w : World) (K : PySem.W.Frag) (mg : Str → Option Value) (base : Heap) (k : Nat) (x : Str) (ps : List Str) (sp : Sp) : Prop :=
  ∃ f fd, FnOk P w K mg base CX0 k f fd ps sp ∧ mg x = some (.ref f) ∧ PySem.W.keepIn K (.ref f) = true ∧ Binds K fd ps []
def PromG (P : Program) (w : World) (K : PySem.W.Frag) (mg : Str → Option Value) (base : Heap) (k : Nat) (x : Str) (ps : List Str) (sp : Sp) : Prop :=
  ∃ f fd, FnG P w K mg base CX0 k f fd ps sp ∧ mg x = some (.ref f) ∧ PySem.W.keepIn K (.ref f) = true ∧ Binds K fd ps []
section
variable {X : Cx} {k : Nat} {ps : List Str} {sp : Sp} {x : Str} {p pos : Pos} {e : Expr} {es : List Expr} {t : TA}
theorem pe_pc (pr : Prom X.prog X.w X.K X.mg X.base k x ps sp) (hr : Room k X.A) (hg : Gl X x) (ha : PA X (e :: es) t) (hdb : (x == ("__debug__" : Str)) = false := by decide)
    (he : starEach (e :: es) X.env = (false, eval e X.env) :: starEach es X.env := by rfl) (hpl : (backTo pos (starEach es X.env)).any (·.1) = false := by rfl) :
    PE X (.Call (.Name x p) (e :: es) [] pos) (tCall sp [] E0 t) := by
  obtain ⟨f, fd, F, m, kp, b⟩ := pr
  exact pe_call F hr hg m kp b .nil pass0 ha hdb he hpl
theorem pe_pcG (pr : PromG X.prog X.w X.K X.mg X.base k x ps sp) (hgd : X.A.guards = some []) (hr : Room k X.A) (hg : Gl X x) (ha : PA X (e :: es) t) (hdb : (x == ("__debug__" : Str)) = false := by decide)
    (he : starEach (e :: es) X.env = (false, eval e X.env) :: starEach es X.env := by rfl) (hpl : (backTo pos (starEach es X.env)).any (·.1) = false := by rfl) :
    PE X (.Call (.Name x p) (e :: es) [] pos) (tCall sp [] E0 t) := by
  obtain ⟨f, fd, F, m, kp, b⟩ := pr
  exact pe_callG F hgd hr hg m kp b .nil pass0 ha hdb he hpl
end
section
variable {P : Program} {w : World} {K : PySem.W.Frag} {mg : Str → Option Value} {base : Heap} {N ps : List Str} {k : Nat} {sp : Sp} {x : Str} {st : Stmt}
theorem prom_mk (D : Def K mg x st) (S : FnScope N ps (defScope st)) (len : ∀ vs H Q E, sp vs H Q E → vs.length = ps.length)
    (hb : ∀ (kV doc pm : Value) (an : Option Addr) (cdv ct : Value) (us : List Value), us.length = ps.length → bindArgs (PySem.W.fnOf x x (defArgs st) (defBody st) (defScope st) .none kV doc pm an cdv ct) ⟨us, []⟩ = pure (ps.zip us))
    (body : ∀ (f : Addr) (cdv : Value) (A : Around) (outer : List Env) (s : Shared) (H : Hp) (vs : List V) (Q : VK) (E : XK), Room k (A.deeper (envOfC x (defScope st) s.heap.objs.size f cdv)) → sp vs H Q E →
      ∃ t, PSs (cxOf CX0 P w K mg base N x (defScope st) f cdv A outer s H E).nox (defBody st) t ∧ t { nx := fun _ H' => Q .non H', rt := Q } (start N vs) H) : Prom P w K mg base (k + 1) x ps sp := by
  obtain ⟨f, fd, F, m⟩ := D
  refine ⟨f, fd, F.ok S len fun cdv A outer s H vs Q E hr h => ?_, m, F.kp, F.bindsN hb⟩
  obtain ⟨t, h1, h2⟩ := body f cdv A outer s H vs Q E hr h
  exact ⟨t, h1.nox, h2⟩
theorem promG_mk (D : Def K mg x st) (S : FnScope N ps (defScope st)) (len : ∀ vs H Q E, sp vs H Q E → vs.length = ps.length)
    (hb : ∀ (kV doc pm : Value) (an : Option Addr) (cdv ct : Value) (us : List Value), us.length = ps.length → bindArgs (PySem.W.fnOf x x (defArgs st) (defBody st) (defScope st) .none kV doc pm an cdv ct) ⟨us, []⟩ = pure (ps.zip us))
    (body : ∀ (f : Addr) (cdv : Value) (A : Around) (outer : List Env) (s : Shared) (H : Hp) (vs : List V) (Q : VK) (E : XK), (A.deeper (envOfC x (defScope st) s.heap.objs.size f cdv)).guards = some [] →
      Room k (A.deeper (envOfC x (defScope st) s.heap.objs.size f cdv)) → sp vs H Q E →
      ∃ t, PSs (cxOf CX0 P w K mg base N x (defScope st) f cdv A outer s H E).nox (defBody st) t ∧ t { nx := fun _ H' => Q .non H', rt := Q } (start N vs) H) : PromG P w K mg base (k + 1) x ps sp := by
  obtain ⟨f, fd, F, m⟩ := D
  refine ⟨f, fd, okG F S len fun cdv A outer s H vs Q E hg hr h => ?_, m, F.kp, F.bindsN hb⟩
  obtain ⟨t, h1, h2⟩ := body f cdv A outer s H vs Q E hg hr h
  exact ⟨t, h1.nox, h2⟩
end
section
variable {P : Program} {w : World} {K : PySem.W.Frag} {mg : Str → Option Value} {base : Heap} {N ps : List Str} {k : Nat} {sp : Sp} {x : Str} {st : Stmt} {f : Addr} {fd : FuncData}
theorem fnG_mk (F : FunD K x x (defArgs st) (defBody st) (defScope st) [] [] f fd) (S : FnScope N ps (defScope st)) (len : ∀ vs H Q E, sp vs H Q E → vs.length = ps.length)
    (body : ∀ (f : Addr) (cdv : Value) (A : Around) (outer : List Env) (s : Shared) (H : Hp) (vs : List V) (Q : VK) (E : XK), (A.deeper (envOfC x (defScope st) s.heap.objs.size f cdv)).guards = some [] →
      Room k (A.deeper (envOfC x (defScope st) s.heap.objs.size f cdv)) → sp vs H Q E →
      ∃ t, PSs (cxOf CX0 P w K mg base N x (defScope st) f cdv A outer s H E).nox (defBody st) t ∧ t { nx := fun _ H' => Q .non H', rt := Q } (start N vs) H) : FnG P w K mg base CX0 (k + 1) f fd ps sp := by
  refine okG F S len fun cdv A outer s H vs Q E hg hr h => ?_
  obtain ⟨t, h1, h2⟩ := body f cdv A outer s H vs Q E hg hr h
  exact ⟨t, h1.nox, h2⟩
end
/-- the built-in names that the text leaves alone -/
structure Bt (mg : Str → Option Value) : Prop where
  len_ : mg "len" = none
  isinstance_ : mg "isinstance" = none
  range_ : mg "range" = none
  max_ : mg "max" = none
  min_ : mg "min" = none
  int_ : mg "int" = none
  str_ : mg "str" = none
  bool_ : mg "bool" = none
  repr_ : mg "repr" = none
  all_ : mg "all" = none
  any_ : mg "any" = none
  list_ : mg "list" = none
  tuple_ : mg "tuple" = none
  dict_ : mg "dict" = none
  set_ : mg "set" = none
  sorted_ : mg "sorted" = none
  enumerate_ : mg "enumerate" = none
  zip_ : mg "zip" = none
  reversed_ : mg "reversed" = none
def btNames : List Str := ["len", "isinstance", "range", "max", "min", "int", "str", "bool", "repr", "all", "any", "list", "tuple", "dict", "set", "sorted", "enumerate", "zip", "reversed"]
theorem bt_of {K : PySem.W.Frag} {h : Heap} {mg : Str → Option Value} (X : K.In h) (G : h.Ns mainGlobals mg) (c : btNames.all (fun x => (He.Fa.free x).ok K) = true) : Bt mg := by
  have z : ∀ x ∈ btNames, mg x = none := fun x hx => He.free_ok X G (List.all_eq_true.mp c x hx)
  refine ⟨z _ ?_, z _ ?_, z _ ?_, z _ ?_, z _ ?_, z _ ?_, z _ ?_, z _ ?_, z _ ?_, z _ ?_, z _ ?_, z _ ?_, z _ ?_, z _ ?_, z _ ?_, z _ ?_, z _ ?_, z _ ?_, z _ ?_⟩ <;> decide +kernel

/-! ### 4. heaps: what is kept but for one object -/
def Fx (b : Addr) (H H' : Hp) : Prop := ∀ a o, a ≠ b → H a = some o → H' a = some o
def hide (H : Hp) (b : Addr) : Hp := fun a => if a = b then none else H a
theorem hide_self {H : Hp} {b : Addr} : hide H b b = none := by unfold hide; rw [if_pos rfl]
theorem hide_ne {H : Hp} {a b : Addr} (h : a ≠ b) : hide H b a = H a := by unfold hide; rw [if_neg h]
theorem hide_same {H : Hp} {b : Addr} : Same (hide H b) H := fun a o e => by
  unfold hide at e
  split at e
  · cases e
  · exact e
theorem Fx.refl (b : Addr) (H : Hp) : Fx b H H := fun _ _ _ e => e
theorem Fx.trans {b : Addr} {H H1 H2 : Hp} (x : Fx b H H1) (y : Fx b H1 H2) : Fx b H H2 := fun a o h e => y a o h (x a o h e)
theorem Fx.of {b : Addr} {H H' : Hp} (s : Same H H') : Fx b H H' := fun a o _ e => s a o e
theorem Fx.upd {b : Addr} {H H' : Hp} {o : HO} (x : Fx b H H') : Fx b H (upd H' b o) := fun a u h e => by
  rw [upd_ne h]
  exact x a u h e
theorem Fx.new {b p : Addr} {H H' : Hp} {o : HO} (x : Fx b H H') (h : H' p = none) : Fx b H (L2.upd H' p o) := fun a u ha e => by
  have q := x a u ha e
  rw [upd_ne (ne_of_none q h)]
  exact q
theorem Fx.hide {b : Addr} {H H' : Hp} (x : Fx b H H') : Same (hide H b) (hide H' b) := fun a o e => by
  have h : a ≠ b := fun z => by rw [z, hide_self] at e; cases e
  rw [hide_ne h] at e ⊢
  exact x a o h e
theorem Fx.sq {K : PySem.W.Frag} {b a : Addr} {H H' : Hp} {xs : List V} (x : Fx b H H') (h : a ≠ b) (s : SqL K H a xs) : SqL K H' a xs := by
  rcases s with (q | ⟨o, q⟩) | q
  · exact .inl (.inl (x _ _ h q))
  · exact .inl (.inr ⟨o, x _ _ h q⟩)
  · exact .inr q
theorem Same.new {H H' : Hp} {p : Addr} {o : HO} (s : Same H H') (h : H' p = none) : Same H (L2.upd H' p o) := fun a u e => by
  have q := s a u e
  rw [upd_ne (ne_of_none q h)]
  exact q
theorem sq_hide {K : PySem.W.Frag} {H : Hp} {a b : Addr} {xs : List V} (h : a ≠ b) (s : SqL K H a xs) : SqL K (hide H b) a xs := by
  rcases s with (q | ⟨o, q⟩) | q
  · exact .inl (.inl (by rw [hide_ne h]; exact q))
  · exact .inl (.inr ⟨o, by rw [hide_ne h]; exact q⟩)
  · exact .inr q
/-! ### 5. bags of draws -/
def Bag (n : Nat) (o : HO) : Prop := ∃ x y z : Int, o = .lst [.int x, .int y, .int z] ∧ 0 ≤ x ∧ 0 ≤ y ∧ y < 2147483629 ∧ 0 ≤ z ∧ z + n ≤ 1000000000
theorem Bag.mono {m n : Nat} {o : HO} (h : Bag n o) (l : m ≤ n) : Bag m o := let ⟨x, y, z, e, a, b, c, d, f⟩ := h; ⟨x, y, z, e, a, b, c, d, by omega⟩
theorem Bag.is {n : Nat} {o : HO} (h : Bag n o) : ∃ xs, o = .lst xs := let ⟨_, _, _, e, _⟩ := h; ⟨_, e⟩
/-- a cell of the script, or a number of its own -/
def spCell (K : PySem.W.Frag) : Sp := fun vs H Q _ => ∃ (a : Addr) (ns : List Int) (k : Nat), vs = [.ref a, .int k] ∧ SqL K H a (ns.map V.int) ∧ k ≤ 100 ∧ ∀ c, Q (.int c) H
def spBag : Sp := fun vs H Q _ => ∃ c : Int, vs = [.int c] ∧ ∀ p o, H p = none → Bag 900000000 o → Q (.ref p) (upd H p o)
/-- a draw below many -/
def spTake : Sp := fun vs H Q _ => ∃ (b : Addr) (o : HO) (n : Nat) (many : Int), vs = [.ref b, .int many] ∧ H b = some o ∧ Bag (n + 1) o ∧ 0 < many ∧ many < 2 ^ 200 ∧
  ∀ (d : Int) (o' : HO), 0 ≤ d → d < many → Bag n o' → Q (.int d) (upd H b o')
/-! ### 6. rules whose readings name K itself (for blocks) -/
def rLenK (K : PySem.W.Frag) : List V → Hp → VK → Prop := fun xs H Q => ∃ x n, xs = [x] ∧ LenV K x H n ∧ Q (.int n) H
def rListOf (K : PySem.W.Frag) : List V → Hp → VK → Prop := fun xs H Q => ∃ p ys, xs = [.ref p] ∧ (SqL K H p ys ∨ SqT K H p ys) ∧ ∀ l, H l = none → Q (.ref l) (upd H l (.lst ys))
def rTupleOf (K : PySem.W.Frag) : List V → Hp → VK → Prop := fun xs H Q => ∃ p ys, xs = [.ref p] ∧ ((SqL K H p ys ∧ ∀ l, H l = none → Q (.ref l) (upd H l (.tup ys))) ∨ (SqT K H p ys ∧ Q (.ref p) H))
def rJoin (K : PySem.W.Frag) : V → List V → Hp → VK → Prop := fun x xs H Q => ∃ a p, ∃ ys : List Str, x = .str a ∧ xs = [.ref p] ∧ (SqL K H p (ys.map V.str) ∨ SqT K H p (ys.map V.str)) ∧
  (ys.map (·.length)).sum + ys.length * a.length ≤ 16777216 ∧ Q (.str (Txt.join a ys)) H
section
variable {X : Cx} {K : PySem.W.Frag}
theorem ix_listK (hK : X.K = K := by rfl) : IxR X (rIxL K) := by subst hK; exact ix_list
theorem ix_tupK (hK : X.K = K := by rfl) : IxR X (rIxT K) := by subst hK; exact ix_tup
theorem sl_listK (hK : X.K = K := by rfl) : SlR X (rSlL K) := by subst hK; exact sl_list
theorem lenK (hK : X.K = K := by rfl) : CallR X (.builtin "len") (rLenK K) := by subst hK; exact call_len
theorem isiK (hK : X.K = K := by rfl) : CallR X (.builtin "isinstance") (rIsi K) := by subst hK; exact call_isi
theorem isiTK (hK : X.K = K := by rfl) : CallR X (.builtin "isinstance") (rIsiT K) := by subst hK; exact call_isiT
theorem allK (hc : X.calm = true) (hK : X.K = K := by rfl) : CallR X (.builtin "all") (rAll K) := by subst hK; exact cr_all hc
theorem listK (hK : X.K = K := by rfl) : CallR X (.type "list") (rListOf K) := by subst hK; exact call_list_of
theorem tupleK (hK : X.K = K := by rfl) : CallR X (.type "tuple") (rTupleOf K) := by subst hK; exact call_tuple_of
theorem reprK (Y : Sys K) (hgd : X.A.guards = some []) (hu : X.A.units + 64 < cLine) (hK : X.K = K := by rfl) : CallR X (.builtin "repr") (rRepr K) := by subst hK; exact call_repr Y hgd hu
theorem op_inK (hK : X.K = K := by rfl) : OpR X (compareOp .In) (rIn K false) := by subst hK; exact op_in_seq
theorem op_notInK (hK : X.K = K := by rfl) : OpR X (compareOp .NotIn) (rIn K true) := by subst hK; exact op_notIn_seq
theorem op_eqDK (hu : X.A.units + 64 < cLine) (hK : X.K = K := by rfl) : OpR X (compareOp .Eq) (rEqD K) := by subst hK; exact op_eqD hu
theorem op_neDK (hu : X.A.units + 64 < cLine) (hK : X.K = K := by rfl) : OpR X (compareOp .NotEq) (rNeD K) := by subst hK; exact op_neD hu
variable {o e : Expr} {es : List Expr} {to te : TE} {t : TA} {apos cpos : Pos}
theorem pe_joinK (hK : X.K = K) (ho : PE X o to) (he : PE X e te) (hs : starEach [e] X.env = [(false, eval e X.env)] := by rfl) (hbase : attributeBase o "join" X.env (eval o X.env) = eval o X.env := by rfl)
    (hline : (apos.endLine == cpos.line) = true := by rfl) : PE X (.Call (.Attribute o "join" apos) [e] [] cpos) (tM1 (rJoin K) to te) := by
  subst hK
  exact pe_join ho he hs hbase hline
theorem pe_appendK (hK : X.K = K) (ho : PE X o to) (he : PE X e te) (hs : starEach [e] X.env = [(false, eval e X.env)] := by rfl) (hbase : attributeBase o "append" X.env (eval o X.env) = eval o X.env := by rfl)
    (hfew : ((backTo cpos (starEach [e] X.env)).all (fun x => !x.1) && (backToKw cpos (keywordEach [] X.env)).all (fun x => x.1.isSome)
      && decide ([e].length + ([] : List Keyword).length + (if ([] : List Keyword).isEmpty then 0 else 1) < 30)) = true := by rfl)
    (hline : (apos.endLine == cpos.line) = true := by rfl) : PE X (.Call (.Attribute o "append" apos) [e] [] cpos) (tBM K "list" rAppend to (tCons te tNil)) := by
  subst hK
  exact pe_bm PySem.F.plainAttrs_list PySem.F.slot_list_append PySem.F.type_list_append mt_append ho (pa_cons he pa_nil hs) hbase hfew hline hs rfl
theorem pi_listK {tg : Expr} (hK : X.K = K) (hl : PE X e te) : PI X tg e (iList K te) := by subst hK; exact pi_list hl
theorem pi_tupK {tg : Expr} (hK : X.K = K) (hl : PE X e te) : PI X tg e (iTup K te) := by subst hK; exact pi_tup hl
theorem pi_enumK {p pos tpos : Pos} {elts : List Expr} {kk : Nat} (hK : X.K = K) (hg : Gl X "enumerate") (hm : X.mg "enumerate" = none) (ha : PA X [e] t) (hs : starEach [e] X.env = [(false, eval e X.env)] := by rfl) :
    PI X (.Tuple elts kk tpos) (.Call (.Name "enumerate" p) [e] [] pos) (iEnum K t) := by subst hK; exact pi_enum hg hm ha hs
theorem pi_revK {tg : Expr} {p pos : Pos} (hK : X.K = K) (hg : Gl X "reversed") (hm : X.mg "reversed" = none) (ha : PA X [e] t) (hs : starEach [e] X.env = [(false, eval e X.env)] := by rfl) :
    PI X tg (.Call (.Name "reversed" p) [e] [] pos) (iRev K t) := by subst hK; exact pi_reversed hg hm ha hs
end
end TS

/-! ### the end of a law, the guards told; the head's facts by any Bool of the written part -/
namespace TS
open PySem PySem.Spec PyProof.Rows L2
theorem law_callG {P : Program} {w : World} {K : PySem.W.Frag} {mg mb : Str → Option Value} {k : Nat} {fa a : Addr} {fd : FuncData} {x : Str} {sp : Sp} {s₁ : Shared} {vs : List Value} {ns : List Int}
    (KX : K.In s₁.heap) (hns : s₁.heap.Ns mainGlobals mg) (hb : s₁.heap.Ns builtinsNs mb) (hbb : ∀ x : Str, x ≠ "__name__" → mb x = bootBuiltins x) (hlim : s₁.heap.NoLimit) (hg : s₁.gens = #[])
    (ha : s₁.heap.get? a = some { cls := .type "list", data := .seq vs.toArray }) (hi : IntsAre vs ns) (hl : ns.length ≤ sizeLine) (hr : Room k callerA)
    (F : ∀ base : Heap, K.In base → base.Ns mainGlobals mg → FnG P w K mg base CX0 k fa fd [x] sp) (hbind : ∀ (s : Shared) (u : Value), BindsTo s fd ⟨[u], []⟩ [(x, u)])
    (hsp : ∀ H : Hp, Only H → SqL K H a (ns.map V.int) → sp [.ref a] H (fun v _ => v = .bl true) E0) :
    codeAny (model P w) callerA (.call (.ref fa) ⟨[.ref a], []⟩) (fun r s' => r = .ok (.ret (.bool true)) ∧ OldK s₁.heap s'.heap ∧ s'.os = s₁.os ∧ AllBare s'.gens) s₁ := by
  have rv := vals_ints hi
  have lenV := hi.length
  have go : ∀ H : Hp, Only H → SqL K H a (ns.map V.int) → HOk P w H s₁.heap → (∀ b u, H b = some u → b = a ∧ K.lookup a = none) →
      codeAny (model P w) callerA (.call (.ref fa) ⟨[.ref a], []⟩) (fun r s' => r = .ok (.ret (.bool true)) ∧ OldK s₁.heap s'.heap ∧ s'.os = s₁.os ∧ AllBare s'.gens) s₁ := by
    intro H hO hS hok hA
    have free : ∀ {b : Addr} {o : Obj}, s₁.heap.get? b = some o → (∀ n sl, o ≠ ⟨.type "list", none, .seq vs.toArray n, sl⟩ ) → H b = none := fun {b o} e d => by
      cases q : H b with
      | none => rfl
      | some u =>
        obtain ⟨rfl, _⟩ := hA b u q
        rw [ha] at e
        exact absurd (Option.some.inj e).symm (d _ _)
    have nsK : ∀ {b : Addr} {m : Str → Option Value}, s₁.heap.Ns b m → (hidT s₁.heap H).Ns b m := fun {b m} ⟨o, es, ep, e, d, r⟩ =>
      ⟨o, es, ep, hidT_get e (free e fun n sl z => by rw [z] at d; cases d), d, r⟩
    have KB : K.In (hidT s₁.heap H) := fun b o e => hidT_get (KX b o e) (by
      cases q : H b with
      | none => rfl
      | some u =>
        obtain ⟨rfl, z⟩ := hA b u q
        rw [z] at e
        cases e)
    have e0 : Env0 P w K mg (hidT s₁.heap H) callerA [] s₁ H :=
      ⟨rfl, ⟨KB, nsK hns, ⟨mb, nsK hb, hbb⟩, let ⟨mc, h1, h2⟩ := hlim; ⟨mc, nsK h1, h2⟩⟩, fun b o e => of_hidT e, Nat.le_of_eq (hidT_size _ _), trivial, (fun b z => nomatch z), hok, .of_eq hg⟩
    refine codeAny_mono ((F _ KB (nsK hns)).run callerA [] s₁ H ⟨[.ref a], []⟩ [.ref a] [.ref a] _ _ rfl hr e0 (hbind s₁ (.ref a)) (.cons rfl .nil) (hsp H hO hS)) fun r s' h => ?_
    match r, h with
    | .error e, h => exact False.elim h
    | .ok (.ret u), ⟨v, H', os, bare, un, hok', r', q⟩ =>
      obtain rfl : v = .bl true := q
      obtain rfl : u = Value.bool true := r'
      refine ⟨rfl, OldK.of_keep fun b o e => ?_, os, bare⟩
      rcases hO b with z | ⟨ob, xs, z⟩
      · exact un.keep b o e z (fun z => nomatch z) (fun z => nomatch z)
      · obtain ⟨e1, _⟩ := hok b _ z
        obtain ⟨e2, _⟩ := hok' b _ (un.frzs b ob _ z)
        rw [e] at e1
        cases e1
        exact e2
  cases hk : K.lookup a with
  | some o =>
    have e := KX a o hk
    rw [ha] at e
    cases e
    exact go (fun _ => none) (fun _ => .inl rfl) (.inr ⟨_, vs.toArray, _, hk, rfl, rfl, rfl, by rw [List.size_toArray, lenV]; exact hl, by simpa using rv⟩) (fun b u z => nomatch (show (none : Option HO) = some u from z)) (fun b u z => nomatch (show (none : Option HO) = some u from z))
  | none =>
    have one : ∀ {b : Addr} {u : HO}, (if b = a then some (HO.frz { cls := .type "list", data := .seq vs.toArray } (.lst (ns.map V.int))) else none) = some u → b = a ∧ u = .frz { cls := .type "list", data := .seq vs.toArray } (.lst (ns.map V.int)) := fun {b u} z => by
      by_cases hb : b = a
      · rw [if_pos hb] at z
        exact ⟨hb, (Option.some.inj z).symm⟩
      · rw [if_neg hb] at z
        cases z
    refine go (fun b => if b = a then some (.frz { cls := .type "list", data := .seq vs.toArray } (.lst (ns.map V.int))) else none) (fun b => ?_) (.inl (.inr ⟨_, if_pos rfl⟩)) (fun b u z => ?_) (fun b u z => ⟨(one z).1, hk⟩)
    · by_cases hb : b = a
      · exact .inr ⟨_, _, if_pos hb⟩
      · exact .inl (if_neg hb)
    · obtain ⟨rfl, rfl⟩ := one z
      exact ⟨ha, by rw [List.length_map]; exact hl, vs, _, rv, ha⟩
/-- what F gives of the law -/
structure LawAt (l : PySem.W.OpenLaw) (w : World) (mg : Str → Option Value) (k n : Nat) (x : Str) (h : Heap) (fa : Addr) (K : PySem.W.Frag) : Prop where
  kin : K.In h
  fn : ∃ (fd : FuncData) (sp : Sp), (∀ (s : Shared) (u : Value), BindsTo s fd ⟨[u], []⟩ [(x, u)]) ∧
    (∀ (H : Hp) (a : Addr) (ns : List Int), ns.length ≤ n → Only H → SqL K H a (ns.map V.int) → sp [.ref a] H (fun v _ => v = .bl true) E0) ∧
    ∀ base : Heap, K.In base → base.Ns mainGlobals mg → FnG l.prog w K mg base CX0 k fa fd [x] sp
theorem walkG {l : PySem.W.OpenLaw} {n k : Nat} {q : Program} {loose : List Str} {XP : (Str → Option Value) → Heap → Prop} {YP : World → Heap → Prop} {d : DefRec} {x : Str}
    (hn : l.most = some n) (hn2 : n ≤ sizeLine) (hdf : d.params.defaults = []) (hr : Room k callerA)
    (F : ∀ (w : World) (mg : Str → Option Value) (fa : Addr) (h : Heap), YP w h → h.Ns mainGlobals mg → mg d.name = some (.ref fa) → ∃ K, LawAt l w mg k n x h fa K) :
    PySem.W.WalkO q loose XP YP l.row.toRowW d [] (fun f vs => PySem.call f vs) := by
  refine Att.attach_call hn hdf fun w s₀ s₁ mg mb fa o pm cd doc a vs ns G Y ho hd hcd hmg hobj hints hlen hg => ?_
  obtain ⟨K, KX, fd, sp, hb, hsp, hF⟩ := F w mg fa _ Y G.T.g hmg
  exact law_callG KX G.T.g G.T.b G.T.builtins G.T.nolimit hg hobj hints (Nat.le_trans hlen hn2) hr hF hb fun H hO hS => hsp H a ns hlen hO hS
/-! ### the head -/
def asX (g : Addr → Option Obj) : Nat → List Addr
  | 0 => [mainGlobals, cStatics]
  | n + 1 => He.growD g (asX g n)
def frX (n : Nat) (g : Addr → Option Obj) : PySem.W.Frag := He.frG g (asX g n ++ [sysModules])
def obsX (n : Nat) (chk : PySem.W.Frag → Bool) (fn : List He.DefD) (g : Addr → Option Obj) : He.AlD :=
  (chk (frX n g) && fn.all (fun d => d.ok (frX n g)), fn.map fun d => He.fnW (frX n g) d.at_)
def hookX (n : Nat) (chk : PySem.W.Frag → Bool) (fn : List He.DefD) : PySem.W.Hook where
  α := He.AlD
  obs := fun s => obsX n chk fn s.heap.get?
  val := fun _ => (true, fn.map He.DefD.val)
  says := fun _ h => ∃ K : PySem.W.Frag, K.In h ∧ chk K = true ∧ fn.all (fun d => d.ok K) = true ∧ fn.map (fun d => He.fnW K d.at_) = fn.map He.DefD.val
  of := fun _ s e => ⟨_, He.frG_in, (He.ba (congrArg (·.1) e)).1, (He.ba (congrArg (·.1) e)).2, congrArg (·.2) e⟩
  keeps := fun _ _ _ ⟨K, hK, c⟩ k => ⟨K, PySem.W.Frag.In.keeps hK k, c⟩
theorem obsX_eq {n : Nat} {chk : PySem.W.Frag → Bool} {fn : List He.DefD} (s : PySem.W.SharedT) : obsX n chk fn (HandSHeadRun.getT s) = (hookX n chk fn).obs s.abs := by
  have e : HandSHeadRun.getT s = s.abs.heap.get? := funext (HandSHeadRun.getT_eq s)
  show obsX n chk fn (HandSHeadRun.getT s) = obsX n chk fn s.abs.heap.get?
  rw [e]
/-- a def's datum: a top statement -/
def defD (x : Str) (st : Stmt) : He.DefD := ⟨(x, none), x, x, defArgs st, defBody st, defScope st, [], []⟩
theorem def_of {K : PySem.W.Frag} {h : Heap} {mg : Str → Option Value} {fn : List He.DefD} (X : K.In h) (G : h.Ns mainGlobals mg) (c1 : fn.all (fun d => d.ok K) = true) (c2 : fn.map (fun d => He.fnW K d.at_) = fn.map He.DefD.val)
    {x : Str} {st : Stmt} (i : Nat) (hi : fn[i]? = some (defD x st)) (hg : (He.Fa.glo x).ok K = true) : Def K mg x st := by
  have e1 : He.fnW K (defD x st).at_ = (defD x st).val := by
    have h1 := congrArg (·[i]?) c2
    simp only [List.getElem?_map, hi, Option.map_some] at h1
    exact Option.some.inj h1
  obtain ⟨fd, F⟩ := He.DefD.funD e1 (List.all_eq_true.mp c1 _ (List.mem_of_getElem? hi))
  exact ⟨He.ga K x, fd, F, He.glo_ok X G hg⟩
/-- what is asked of the machine's own objects -/
def sysB (K : PySem.W.Frag) : Bool := (match K.lookup sysModules with | some o => decide (o.cls = .type "dict") | none => false) && decide (PySem.W.nsIn K cStatics sharingNotToldKey = some none)
theorem sysB_ok {K : PySem.W.Frag} (h : sysB K = true) : Sys K := by
  obtain ⟨h1, h2⟩ := He.ba h
  refine ⟨?_, of_decide_eq_true h2⟩
  cases e : K.lookup sysModules with
  | none => rw [e] at h1; cases h1
  | some o => rw [e] at h1; exact ⟨o, rfl, of_decide_eq_true h1⟩
def chkX (gl : List Str) (more : PySem.W.Frag → Bool) (K : PySem.W.Frag) : Bool := (sysB K && btNames.all fun x => (He.Fa.free x).ok K) && ((gl.all fun x => (He.Fa.glo x).ok K) && more K)
end TS

/-! ### the head's facts, the written part gathered by a walk that marks what it has seen in one number -/
namespace TS
open PySem PySem.Spec PyProof.Rows L2
def seenN (m a : Nat) : Bool := Nat.beq (Nat.land (Nat.shiftRight m a) 1) 1
/-- what is reached from the addresses of the list, each once; m: the marks -/
def gatherG (g : Addr → Option Obj) : Nat → List Addr → Nat → PySem.W.Frag → PySem.W.Frag
  | 0, _, _, K => K
  | _ + 1, [], _, K => K
  | n + 1, a :: r, m, K => HandSHeadRun.frNat a fun a => match seenN m a with
    | true => gatherG g n r m K
    | false => HandSHeadRun.frNat (Nat.lor m (Nat.shiftLeft 1 a)) fun m => match g a with
      | some o => gatherG g n (He.refsD o ++ r) m ((a, o) :: K)
      | none => gatherG g n r m K
theorem gatherG_in {h : Heap} : ∀ (n : Nat) (l : List Addr) (m : Nat) (K : PySem.W.Frag), K.In h → (gatherG h.get? n l m K).In h
  | 0, _, _, _, k => k
  | _ + 1, [], _, _, k => k
  | n + 1, a :: r, m, K, k => by
    unfold gatherG
    rw [HandSHeadRun.frNat_eq]
    cases seenN m a with
    | true => exact gatherG_in n r m K k
    | false =>
      show PySem.W.Frag.In (HandSHeadRun.frNat _ _) h
      rw [HandSHeadRun.frNat_eq]
      cases e : h.get? a with
      | none => exact gatherG_in n r _ K k
      | some o =>
        refine gatherG_in n _ _ _ fun b o' q => ?_
        by_cases z : b = a
        · subst z
          have q' : (match b == b with | true => some o | false => K.lookup b) = some o' := q
          rw [show (b == b) = true by simp] at q'
          cases q'
          exact e
        · have q' : (match b == a with | true => some o | false => K.lookup b) = some o' := q
          rw [show (b == a) = false by simpa using z] at q'
          exact k b o' q'
def frY (n : Nat) (g : Addr → Option Obj) : PySem.W.Frag := gatherG g n [sysModules, cStatics, mainGlobals] 0 []
def obsY (n : Nat) (chk : PySem.W.Frag → Bool) (fn : List He.DefD) (g : Addr → Option Obj) : He.AlD :=
  (chk (frY n g) && fn.all (fun d => d.ok (frY n g)), fn.map fun d => He.fnW (frY n g) d.at_)
def hookY (n : Nat) (chk : PySem.W.Frag → Bool) (fn : List He.DefD) : PySem.W.Hook where
  α := He.AlD
  obs := fun s => obsY n chk fn s.heap.get?
  val := fun _ => (true, fn.map He.DefD.val)
  says := fun _ h => ∃ K : PySem.W.Frag, K.In h ∧ chk K = true ∧ fn.all (fun d => d.ok K) = true ∧ fn.map (fun d => He.fnW K d.at_) = fn.map He.DefD.val
  of := fun _ s e => ⟨_, gatherG_in _ _ _ _ (fun _ _ z => by cases z), (He.ba (congrArg (·.1) e)).1, (He.ba (congrArg (·.1) e)).2, congrArg (·.2) e⟩
  keeps := fun _ _ _ ⟨K, hK, c⟩ k => ⟨K, PySem.W.Frag.In.keeps hK k, c⟩
theorem obsY_eq {n : Nat} {chk : PySem.W.Frag → Bool} {fn : List He.DefD} (s : PySem.W.SharedT) : obsY n chk fn (HandSHeadRun.getT s) = (hookY n chk fn).obs s.abs := by
  have e : HandSHeadRun.getT s = s.abs.heap.get? := funext (HandSHeadRun.getT_eq s)
  show obsY n chk fn (HandSHeadRun.getT s) = obsY n chk fn s.abs.heap.get?
  rw [e]
end TS

namespace TS
open PySem PySem.Spec PyProof.Rows L2
def methD (C m q : Str) (st : Stmt) : He.DefD := ⟨(C, some m), m, q, defArgs st, defBody st, defScope st, [], []⟩
def keyT : List Value := [.type "KeyError", .type "LookupError", .type "Exception", .type "BaseException", .type "object"]
def refsT (tl : List Value) : List Value → Bool
  | .ref _ :: r => refsT tl r
  | l => l == tl
def famTB (K : PySem.W.Frag) (x : Str) (ini : String) : Bool := (PySem.W.readsIn K (He.ga K x) (.type "type") && He.eqO (PySem.W.specialIn K (.ref (He.ga K x)) "__getattribute__") (some (some (.builtin "type.__getattribute__")))) &&
  (match PySem.W.findCls K (.ref (He.ga K x)) (.type "type") "__init__" with
    | some (.val (.builtin s)) => decide (s = ini)
    | _ => false)
def oexTB (K : PySem.W.Frag) (C : Addr) (nw : String) (tl : List Value) : Bool := match K.lookup C with
  | some ⟨c, dd, .cls cd, sl⟩ => (match cd.mro, sl.toList with
    | .ref C' :: bm, [k0, k1, k2, k3, some (.builtin n), k5] => decide (c = .type "type") && (decide (C' = C) && (decide (n = nw) && (cd.hasDict && (!cd.hasDel && refsT tl bm))))
    | _, _ => false)
  | _ => false
def ownTB (K : PySem.W.Frag) (x f : Str) (nw : String) (tl : List Value) : Bool := (oexTB K (He.ga K x) nw tl && (He.eqO (PySem.W.findIn K (.ref (He.ga K x)) "__setattr__") (some (some (.builtin "object.__setattr__"))) && (decide (PySem.W.subIn K (.ref (He.ga K x)) (.type "BaseException") = some true) &&
  (decide (PySem.W.typeIn K (.ref (He.ga K x)) = some (.type "type")) && PySem.W.keepIn K (.ref (He.ga K x)))))) && ((xfB K (He.ga K x) && He.eqO (PySem.W.findIn K (.ref (He.ga K x)) "__init__") (some (some (.ref (He.ma K (He.ga K x) "__init__"))))) &&
  (decide (PySem.W.typeIn K (.ref (He.ma K (He.ga K x) "__init__")) = some (.type "function")) && He.eqO (PySem.W.findIn K (.ref (He.ga K x)) f) (some none)))
def exI (K : PySem.W.Frag) (C : Addr) : Bool := (PySem.W.clsIn K C).isSome && (PySem.W.findIn K (.ref C) "__getattribute__" == some (some (.builtin "BaseException.__getattribute__")) && (PySem.W.findIn K (.ref C) "__getattr__" == some none && (PySem.W.subIn K (.ref C) (.type "BaseException") == some true &&
  (PySem.W.findIn K (.ref C) "__class__" == some (some (.builtin "object.__class__")) && (PySem.W.specialIn K (.builtin "object.__class__") "__get__" == some (some (.builtin "getset_descriptor.__get__")) && (PySem.W.takesIn K (.builtin "object.__class__") == some true && PySem.W.mroIn K C (.type "object") == some true))))))
def veT : List Value := [.type "ValueError", .type "Exception", .type "BaseException", .type "object"]
def lookT : List Value := [.type "LookupError", .type "Exception", .type "BaseException", .type "object"]
def nmE : List Str := (["NoName", "NoWords", "NoSigns", "NoSign", "NoWord", "Beyond", "Unended", "NoTerm", "NoTerms", "NoLetter", "NoPairs", "NoPutting", "NoWay", "NoNumber", "NoTruth", "NoNote", "NoList", "NoAsk"] : List Str) ++ (["NoRule", "NoRules", "NoRow", "NoShelf", "NoDeed", "NoText", "NoLine", "Unlike", "Twice", "TooMany", "TooGreat", "NotThere", "NoSpot", "NoMore", "Changed", "Endless", "TermError", "Absent", "Ended"] : List Str)
def fldE : List Str := (["found", "found", "found", "at", "found", "at", "many", "found", "found", "found", "found", "found", "found", "found", "found", "found", "found", "found"] : List Str) ++ (["found", "found", "found", "found", "at", "row", "found", "found", "found", "many", "many", "found", "found", "many", "many", "many"] : List Str)
def cE (K : PySem.W.Frag) (i : Nat) : Addr := He.ga K (nmE.getD i "")
def mroE (K : PySem.W.Frag) (i : Nat) : List Value :=
  if i < 29 then [.ref (cE K i), .ref (cE K 34), .type "ValueError", .type "Exception", .type "BaseException", .type "object"]
  else if i < 31 then [.ref (cE K i), .ref (cE K 35), .type "KeyError", .type "LookupError", .type "Exception", .type "BaseException", .type "object"]
  else if i < 34 then [.ref (cE K i), .ref (cE K 36), .type "LookupError", .type "Exception", .type "BaseException", .type "object"]
  else if i = 34 then [.ref (cE K 34), .type "ValueError", .type "Exception", .type "BaseException", .type "object"]
  else if i = 35 then [.ref (cE K 35), .type "KeyError", .type "LookupError", .type "Exception", .type "BaseException", .type "object"]
  else [.ref (cE K 36), .type "LookupError", .type "Exception", .type "BaseException", .type "object"]
def ks1 (K : PySem.W.Frag) (i : Nat) : Bool := exI K (cE K i) && (decide (PySem.W.typeIn K (.ref (cE K i)) = some (.type "type")) && match PySem.W.clsIn K (cE K i) with
  | some cd => decide (cd.mro = mroE K i)
  | none => false)
def ksB (K : PySem.W.Frag) : Bool := ((List.range 37).all fun i => ks1 K i) && (List.range 37).all fun i => (List.range i).all fun j => !Nat.beq (cE K i) (cE K j)
def famEB (K : PySem.W.Frag) (x : Str) (nw ini : String) (tl : List Value) : Bool := (oexTB K (He.ga K x) nw tl && (He.eqO (PySem.W.findIn K (.ref (He.ga K x)) "__setattr__") (some (some (.builtin "object.__setattr__"))) && (decide (PySem.W.subIn K (.ref (He.ga K x)) (.type "BaseException") = some true) &&
  (decide (PySem.W.typeIn K (.ref (He.ga K x)) = some (.type "type")) && PySem.W.keepIn K (.ref (He.ga K x)))))) && He.eqO (PySem.W.findIn K (.ref (He.ga K x)) "__init__") (some (some (.builtin ini)))
def top (i : Nat) : Stmt := PySem.Challenge.pw_termshelf_k03_refusals_apart.main.body.getD i (.Pass ⟨0, 0, 0, 0⟩)
abbrev s_NoName___init__ : Stmt := inClass (top 4) 0
abbrev s_NoWords___init__ : Stmt := inClass (top 5) 0
abbrev s_NoSigns___init__ : Stmt := inClass (top 6) 0
abbrev s_NoSign___init__ : Stmt := inClass (top 7) 0
abbrev s_NoWord___init__ : Stmt := inClass (top 8) 0
abbrev s_Beyond___init__ : Stmt := inClass (top 9) 0
abbrev s_Unended___init__ : Stmt := inClass (top 10) 0
abbrev s_NoTerm___init__ : Stmt := inClass (top 11) 0
abbrev s_NoTerms___init__ : Stmt := inClass (top 12) 0
abbrev s_NoLetter___init__ : Stmt := inClass (top 13) 0
abbrev s_NoPairs___init__ : Stmt := inClass (top 14) 0
abbrev s_NoPutting___init__ : Stmt := inClass (top 15) 0
abbrev s_NoWay___init__ : Stmt := inClass (top 16) 0
abbrev s_NoNumber___init__ : Stmt := inClass (top 17) 0
abbrev s_NoTruth___init__ : Stmt := inClass (top 18) 0
abbrev s_NoNote___init__ : Stmt := inClass (top 19) 0
abbrev s_NoList___init__ : Stmt := inClass (top 20) 0
abbrev s_NoAsk___init__ : Stmt := inClass (top 21) 0
abbrev s_NoRule___init__ : Stmt := inClass (top 22) 0
abbrev s_NoRules___init__ : Stmt := inClass (top 23) 0
abbrev s_NoRow___init__ : Stmt := inClass (top 24) 0
abbrev s_NoShelf___init__ : Stmt := inClass (top 25) 0
abbrev s_NoDeed___init__ : Stmt := inClass (top 26) 0
abbrev s_NoText___init__ : Stmt := inClass (top 27) 0
abbrev s_NoLine___init__ : Stmt := inClass (top 28) 0
abbrev s_Unlike___init__ : Stmt := inClass (top 29) 0
abbrev s_Twice___init__ : Stmt := inClass (top 30) 0
abbrev s_TooMany___init__ : Stmt := inClass (top 31) 0
abbrev s_TooGreat___init__ : Stmt := inClass (top 32) 0
abbrev s_NotThere___init__ : Stmt := inClass (top 33) 0
abbrev s_NoSpot___init__ : Stmt := inClass (top 34) 0
abbrev s_Changed___init__ : Stmt := inClass (top 36) 0
abbrev s_Endless___init__ : Stmt := inClass (top 37) 0
abbrev s_NoMore___init__ : Stmt := inClass (top 35) 0
abbrev s__law_marks_first : Stmt := top 44
abbrev s__law_marks_last : Stmt := top 45
abbrev s__law_families : Stmt := top 48
abbrev s__law_family_of : Stmt := top 49
abbrev s__law_made_first : Stmt := top 46
abbrev s__law_made_last : Stmt := top 47
abbrev s__law_any : Stmt := top 43
abbrev s__law_very : Stmt := top 42
abbrev s__law_fields_right : Stmt := top 50
abbrev s__law_taken : Stmt := top 51
abbrev s__law_by_name_right : Stmt := top 52
abbrev s__law_right : Stmt := top 53
abbrev s_law : Stmt := top 54
abbrev s__law_cell : Stmt := top 39
abbrev s__law_bag : Stmt := top 40
abbrev s__law_take : Stmt := top 41
def fn : List He.DefD := ([defD "_law_cell" s__law_cell, defD "_law_bag" s__law_bag, defD "_law_take" s__law_take, defD "_law_very" s__law_very, defD "_law_any" s__law_any, defD "_law_marks_first" s__law_marks_first, defD "_law_marks_last" s__law_marks_last, defD "_law_made_first" s__law_made_first, defD "_law_made_last" s__law_made_last, defD "_law_families" s__law_families, defD "_law_family_of" s__law_family_of, defD "_law_fields_right" s__law_fields_right, defD "_law_taken" s__law_taken, defD "_law_by_name_right" s__law_by_name_right, defD "_law_right" s__law_right, defD "law" s_law, methD "NoName" "__init__" "NoName.__init__" s_NoName___init__, methD "NoWords" "__init__" "NoWords.__init__" s_NoWords___init__, methD "NoSigns" "__init__" "NoSigns.__init__" s_NoSigns___init__, methD "NoSign" "__init__" "NoSign.__init__" s_NoSign___init__] : List He.DefD) ++ ([methD "NoWord" "__init__" "NoWord.__init__" s_NoWord___init__, methD "Beyond" "__init__" "Beyond.__init__" s_Beyond___init__, methD "Unended" "__init__" "Unended.__init__" s_Unended___init__, methD "NoTerm" "__init__" "NoTerm.__init__" s_NoTerm___init__, methD "NoTerms" "__init__" "NoTerms.__init__" s_NoTerms___init__, methD "NoLetter" "__init__" "NoLetter.__init__" s_NoLetter___init__, methD "NoPairs" "__init__" "NoPairs.__init__" s_NoPairs___init__, methD "NoPutting" "__init__" "NoPutting.__init__" s_NoPutting___init__, methD "NoWay" "__init__" "NoWay.__init__" s_NoWay___init__, methD "NoNumber" "__init__" "NoNumber.__init__" s_NoNumber___init__, methD "NoTruth" "__init__" "NoTruth.__init__" s_NoTruth___init__, methD "NoNote" "__init__" "NoNote.__init__" s_NoNote___init__, methD "NoList" "__init__" "NoList.__init__" s_NoList___init__, methD "NoAsk" "__init__" "NoAsk.__init__" s_NoAsk___init__, methD "NoRule" "__init__" "NoRule.__init__" s_NoRule___init__, methD "NoRules" "__init__" "NoRules.__init__" s_NoRules___init__, methD "NoRow" "__init__" "NoRow.__init__" s_NoRow___init__, methD "NoShelf" "__init__" "NoShelf.__init__" s_NoShelf___init__, methD "NoDeed" "__init__" "NoDeed.__init__" s_NoDeed___init__, methD "NoText" "__init__" "NoText.__init__" s_NoText___init__] : List He.DefD) ++ ([methD "NoLine" "__init__" "NoLine.__init__" s_NoLine___init__, methD "Unlike" "__init__" "Unlike.__init__" s_Unlike___init__, methD "Twice" "__init__" "Twice.__init__" s_Twice___init__, methD "TooMany" "__init__" "TooMany.__init__" s_TooMany___init__, methD "TooGreat" "__init__" "TooGreat.__init__" s_TooGreat___init__, methD "NotThere" "__init__" "NotThere.__init__" s_NotThere___init__, methD "NoSpot" "__init__" "NoSpot.__init__" s_NoSpot___init__, methD "NoMore" "__init__" "NoMore.__init__" s_NoMore___init__, methD "Changed" "__init__" "Changed.__init__" s_Changed___init__, methD "Endless" "__init__" "Endless.__init__" s_Endless___init__] : List He.DefD)
def gl : List Str := (["_law_cell", "_law_bag", "_law_take", "_law_very", "_law_any", "_law_marks_first", "_law_marks_last", "_law_made_first", "_law_made_last", "_law_families", "_law_family_of", "_law_fields_right", "_law_taken", "_law_by_name_right", "_law_right", "law", "NoName", "NoWords", "NoSigns", "NoSign"] : List Str) ++ (["NoWord", "Beyond", "Unended", "NoTerm", "NoTerms", "NoLetter", "NoPairs", "NoPutting", "NoWay", "NoNumber", "NoTruth", "NoNote", "NoList", "NoAsk", "NoRule", "NoRules", "NoRow", "NoShelf", "NoDeed", "NoText"] : List Str) ++ (["NoLine", "Unlike", "Twice", "TooMany", "TooGreat", "NotThere", "NoSpot", "NoMore", "Changed", "Endless", "TermError", "Absent", "Ended"] : List Str)
def fl (K : PySem.W.Frag) : List Bool := ([ksB K, ((List.range 29).all fun i => ownTB K (nmE.getD i "") (fldE.getD i "") "ValueError.__new__" veT), ((List.range 2).all fun i => ownTB K (nmE.getD (29 + i) "") (fldE.getD (29 + i) "") "LookupError.__new__" keyT), ((List.range 3).all fun i => ownTB K (nmE.getD (31 + i) "") (fldE.getD (31 + i) "") "LookupError.__new__" lookT), famTB K "TermError" "ValueError.__init__", famTB K "Absent" "KeyError.__init__", famTB K "Ended" "LookupError.__init__", famEB K "TermError" "ValueError.__new__" "ValueError.__init__" veT, famEB K "Absent" "LookupError.__new__" "KeyError.__init__" keyT, famEB K "Ended" "LookupError.__new__" "LookupError.__init__" lookT, ((List.range 3).all fun i => (List.range 3).all fun j => decide (PySem.W.exmOne K (.ref (cE K (34 + i))) (.ref (cE K (34 + j))) = some (decide (i = j)))), (He.Fa.free "ValueError").ok K, (He.Fa.free "KeyError").ok K, (He.Fa.free "LookupError").ok K] : List Bool)
def more (K : PySem.W.Frag) : Bool := (fl K).all id
def chk : PySem.W.Frag → Bool := chkX gl more
abbrev R : PySem.W.OpenRow := PySem.W.OpenLaw.row PySem.Challenge.rw_termshelf_k03_refusals_apart
abbrev hk : PySem.W.Hook := hookY 3000 chk fn
def ob (s : PySem.W.SharedT) : He.AlD := obsY 3000 chk fn (HandSHeadRun.getT s)
def loose : List PySem.Str := (["TermError", "Absent", "Ended", "NoName", "NoWords", "NoSigns", "NoSign", "NoWord", "Beyond", "Unended", "NoTerm", "NoTerms", "NoLetter", "NoPairs", "NoPutting", "NoWay", "NoNumber", "NoTruth", "NoNote", "NoList", "NoAsk", "NoRule", "NoRules", "NoRow", "NoShelf", "NoDeed", "NoText", "NoLine", "Unlike", "Twice"] : List PySem.Str) ++ (["TooMany", "TooGreat", "NotThere", "NoSpot", "NoMore", "Changed", "Endless", "_law_cell", "_law_bag", "_law_take", "_law_very", "_law_any", "_law_marks_first", "_law_marks_last", "_law_made_first", "_law_made_last", "_law_families", "_law_family_of", "_law_fields_right", "_law_taken", "_law_by_name_right", "_law_right"] : List PySem.Str)
theorem run (w : World) : HandSHeadRun.RunEq R (PySem.W.view R.prog [54]) hk ob 20000 loose w := by
  intro os
  kernel_rfl
end TS
set_option maxHeartbeats 2000000
/-! ### comprehensions of any kind: one walk for every clause, whatever is done with what comes -/
namespace TS
open PySem PySem.Spec PyProof.Rows L2 PpSet
/-- one turn of a clause: what comes, its store, its tests; then what is done with it -/
def Steps (P : Program) (w : World) (A : Around) (it : Value) (tg : Expr) (cs : List Expr) (env : Env) (act : (Shared → Prop) → Shared → Prop) (E : Value → Shared → Prop) (stop next : Shared → Prop) (s : Shared) : Prop :=
  wpAny (model P w) A (pyNext it) (fun r t => match r with
    | none => stop t
    | some v => wpAny (model P w) A (letOwnedTupleGo tg it v) (fun _ t => wpAny (model P w) A (assign tg env v) (fun _ t => wpAny (model P w) A (forIn cs true fun c r => if r = true then do let ok ← isTrue c env (eval c env); pure (ForInStep.yield ok) else pure (ForInStep.yield r))
        (fun b t => if b = true then act next t else next t) E t) E t) E t) E s
/-- a clause's code goes by such turns -/
def Goes (P : Program) (w : World) (A : Around) (c : Code) (it : Value) (tg : Expr) (cs : List Expr) (env : Env) (act : (Value → Shared → Prop) → (Shared → Prop) → Shared → Prop) : Prop :=
  ∀ (R : Result → Shared → Prop) (I : Nat → Shared → Prop), (∀ n s, I n s → Steps P w A it tg cs env (act (notedBy (model P w) A env fun e t => R (.error e) t)) (notedBy (model P w) A env fun e t => R (.error e) t) (R (.ok .next)) (fun t => ∃ m, m < n ∧ I m t) s) →
    ∀ n s, I n s → codeAny (model P w) A c R s
/-- the turns of one clause, as readings: W by the turn and a measure, Out behind the last one, Body what is asked of an item that passes -/
def Rounds (J : It) (g : TG) (tt : TT) (τ : L2.St) (W : Nat → Nat → Hp → Prop) (Out : Hp → Prop) (ws : L2.St → L2.St) (Body : (Hp → Prop) → L2.St → Hp → Prop) : Prop :=
  ∀ i m H, W i m H → (J.stop i H ∧ Out H) ∨ (J.go i H ∧ ∃ Nx : Hp → Prop, (∀ G, Nx G → ∃ k, k < m ∧ W (i + 1) k G) ∧ ∀ x G, J.yld i H x G → g x τ G fun σ2 H2 => ws σ2 = τ ∧ tt σ2 H2 fun b H3 => if b = true then Body Nx σ2 H3 else Nx H3)
theorem walk_clause {Y : Cx} {c : Code} {tg : Expr} {cs : List Expr} {g : TG} {tt : TT} {it : Addr} {fp : List Addr} {tn : Nat → Heap → Prop} {J : It} {act : (Value → Shared → Prop) → (Shared → Prop) → Shared → Prop} {R : Result → Shared → Prop}
    {pins : List (Addr × Obj)} {τ : L2.St} {W : Nat → Nat → Hp → Prop} {Out : Hp → Prop} {vs : List Nat} {Body : (Hp → Prop) → L2.St → Hp → Prop}
    (goes : Goes Y.prog Y.w Y.A c (.ref it) tg cs Y.env act) (calm : Y.calm = true) (mute : Y.xe = fun _ _ => False) (T : Turn Y.prog Y.w Y.K tg J fp it tn) (pg : PG Y tg g) (pt : PTs Y cs tt)
    (free : ∀ (σ : L2.St) (H : Hp) (s : Shared), Inv Y pins σ H s → ∀ b ∈ fp, H b = none → FpOk Y pins H b)
    (rounds : Rounds J g tt τ W Out (fun σ => wipe σ vs) Body)
    (done : ∀ s H, Inv Y pins τ H s → Out H → R (.ok .next) s)
    (acts : ∀ (E : Value → Shared → Prop) (h : Heap) (s : Shared) (σ2 : L2.St) (H : Hp) (Nx : Hp → Prop) (next : Shared → Prop), Inv Y (pins ++ pinsAt fp h) σ2 H s → wipe σ2 vs = τ → Body Nx σ2 H →
      (∀ s' H' σ', Inv Y (pins ++ pinsAt fp h) σ' H' s' → τ.length = σ'.length → (∀ (j : Nat) v, τ[j]? = some (some v) → σ'[j]? = some (some v)) → Nx H' → next s') → act E next s)
    {s : Shared} {H : Hp} {m : Nat} (I : Inv Y pins τ H s) (st : tn 0 s.heap) (nf : ∀ b ∈ fp, H b = none) (w0 : W 0 m H) : codeAny (model Y.prog Y.w) Y.A c R s := by
  refine goes R (fun n t => ∃ i G, Inv Y pins τ G t ∧ tn i t.heap ∧ (∀ b ∈ fp, G b = none) ∧ W i n G) (fun n t ⟨i, G, IG, sG, nG, wG⟩ => ?_) m s ⟨0, H, I, st, nf, w0⟩
  have fG := fun b hb => free _ _ _ IG b hb (nG b hb)
  rcases rounds i n G wG with ⟨hs, ho⟩ | ⟨hg, Nx, hN, step⟩
  · refine thnF (T.done Y rfl rfl rfl calm i pins t τ G (fun _ _ => False) IG fG sG hs) fun r t1 h => ?_
    obtain ⟨rfl, I1⟩ := h
    exact done t1 G I1 ho
  refine thnF (T.item Y rfl rfl rfl calm i pins t τ G (fun _ _ => False) IG fG sG hg) fun r t1 h => ?_
  obtain ⟨u, rfl, h⟩ := h
  refine thnF h fun _ t2 h => ?_
  obtain ⟨x, G2, I2, rx, hy, s2, n2⟩ := h
  have P2 := I2.pinned (fun b hb => free _ _ _ I2 b hb (n2 b hb)) (T.obj _ _ s2)
  have leave : ∀ (t' : Shared) (G' : Hp) (σ' : L2.St), Inv Y (pins ++ pinsAt fp t2.heap) σ' G' t' → τ.length = σ'.length → (∀ (j : Nat) v, τ[j]? = some (some v) → σ'[j]? = some (some v)) → Nx G' →
      ∃ k, k < n ∧ ∃ i G, Inv Y pins τ G t' ∧ tn i t'.heap ∧ (∀ b ∈ fp, G b = none) ∧ W i k G := fun t' G' σ' I' l e nx => by
    obtain ⟨k, lk, wk⟩ := hN G' nx
    have at_ : ∀ b ∈ fp, ∀ o, t2.heap.get? b = some o → t'.heap.get? b = some o ∧ G' b = none := fun b hb o eo =>
      have p := I'.pin (b, o) (List.mem_append_right _ (List.mem_append_right _ (mem_pinsAt hb eo)))
      ⟨p.1, p.2.1⟩
    exact ⟨k, lk, i + 1, G', I'.unpinned.weak l e, T.keep _ _ _ s2 fun b hb o eo => (at_ b hb o eo).1, fun b hb => let ⟨o, eo, _⟩ := T.obj _ _ s2 b hb; (at_ b hb o eo).2, wk⟩
  have stored := pg.run _ t2 τ G2 x u _ P2 rx (step x G2 hy)
  rw [mute] at stored
  refine thnF stored fun _ t3 h => ?_
  obtain ⟨σ3, G3, I3, hw, h⟩ := h
  have hl : τ.length = σ3.length := by rw [← show wipe σ3 vs = τ from hw, wipe_length]
  have he : ∀ (j : Nat) v, τ[j]? = some (some v) → σ3[j]? = some (some v) := fun j v e => by
    rw [← show wipe σ3 vs = τ from hw] at e
    exact (wipe_some e).1
  have tested := pt.run _ t3 σ3 G3 _ I3 h
  rw [mute] at tested
  refine thnF tested fun b t4 h => ?_
  obtain ⟨G4, I4, h⟩ := h
  cases b with
  | false => exact leave t4 G4 σ3 I4 hl he h
  | true => exact acts _ t2.heap t4 σ3 G4 Nx _ I4 hw h leave
section
variable {X : Cx} {pins : List (Addr × Obj)} {σ : L2.St} {H : Hp} {s : Shared}
/-- a fresh object of the block's, laid by a constructor -/
def Makes (X : Cx) (mk : Sem Value) (o : Addr → HO) : Prop := ∀ (pins : List (Addr × Obj)) (σ : L2.St) (H : Hp) (s : Shared) (Q : Value → Shared → Prop) (E : Value → Shared → Prop), Inv X pins σ H s →
  (∀ (D : Addr) (t : Shared), D = s.heap.objs.size → H D = none → (∀ b u, s.heap.get? b = some u → t.heap.get? b = some u) → t.heap.objs.size = D + 1 → Inv X pins σ (upd H D (o D)) t → Q (.ref D) t) → wpAny (model X.prog X.w) X.A mk Q E s
/-- a comprehension: its constructor, its first clause's turns; what is done with an item is told by Body and act -/
theorem comp_any {Q : VK} {ce tg iter : Expr} {cs : List Expr} {rest : List Comprehension} {scope : Scope} {own : List (PySem.Str × Nat)} {pos : Pos} {wi : TI} {g : TG} {tt : TT} {mk : Sem Value} {o : Addr → HO} {use : Option (Value → Sem Unit)} {Qf : Value → Shared → Prop}
    {act : Value → Env → (Value → Shared → Prop) → (Shared → Prop) → Shared → Prop} {Body : Addr → (Hp → Prop) → L2.St → Hp → Prop}
    (hcl : clausesOf ce = ⟨tg, iter, cs, 0⟩ :: rest) (hmk : Makes X mk o) (goes : ∀ (it acc : Addr) (env : Env), Goes X.prog X.w X.A (.compLoop ce 0 (.ref it) (.ref acc) env) (.ref it) tg cs env (act (.ref acc) env))
    (start : ∀ (R : Result → Shared → Prop) (s : Shared) (it acc : Value) (env : Env), codeAny (model X.prog X.w) X.A (.compLoop ce 0 it acc env) R s →
      wpAny (model X.prog X.w) X.A (pyIter it) (fun it' t => codeAny (model X.prog X.w) X.A (.compLoop ce 0 it' acc env) R t) (notedBy (model X.prog X.w) X.A env fun x t => R (.error x) t) s → codeAny (model X.prog X.w) X.A (.compStart ce 0 it acc env) R s)
    (calm : X.calm = true) (nod : X.N.Nodup) (I : Inv X pins σ H s) (pit : PI X tg iter wi) (bk : BlkOk X.N X.env.scope scope own)
    (ptg : ∀ (s : Shared) (H : Hp) (C : Addr) (cl : List (PySem.Str × Addr)) (fp : List Addr), PG (X.blk s H scope (compEnvC scope cl C X.env) fp) tg g) (ptt : ∀ (s : Shared) (H : Hp) (C : Addr) (cl : List (PySem.Str × Addr)) (fp : List Addr), PTs (X.blk s H scope (compEnvC scope cl C X.env) fp) cs tt)
    (fold : ∀ x, foldedSetIterable iter X.env x = pure x)
    (rd : wi σ H fun J H1 => ∀ D, H1 D = none → ∃ W : Nat → Nat → Hp → Prop, (∃ m, W 0 m (upd H1 D (o D))) ∧ Rounds J g tt (wipe σ (own.map (·.2))) W (fun G => Q (.ref D) G) (fun σ => wipe σ (own.map (·.2))) (Body D))
    (acts : ∀ (s0 : Shared) (H0 : Hp) (C : Addr) (cl : List (PySem.Str × Addr)) (fp : List Addr) (D : Addr) (E : Value → Shared → Prop) (pins : List (Addr × Obj)) (s : Shared) (σ2 : L2.St) (G : Hp) (Nx : Hp → Prop) (next : Shared → Prop), Inv (X.blk s0 H0 scope (compEnvC scope cl C X.env) fp) pins σ2 G s →
      wipe σ2 (own.map (·.2)) = wipe σ (own.map (·.2)) → Body D Nx σ2 G →
      (∀ s' H' σ', Inv (X.blk s0 H0 scope (compEnvC scope cl C X.env) fp) pins σ' H' s' → (wipe σ (own.map (·.2))).length = σ'.length → (∀ (j : Nat) v, (wipe σ (own.map (·.2)))[j]? = some (some v) → σ'[j]? = some (some v)) → Nx H' → next s') → act (.ref D) (compEnvC scope cl C X.env) E next s)
    (back : ∀ D C t m G, Inv X pins σ G t → Q (.ref D) G → t.heap.Ns C m → FpOk X pins G C → compPost (model X.prog X.w) X.A X.xe use Qf (.ref D) C (.ok .next) t) :
    wpAny (model X.prog X.w) X.A (comprehension ce scope X.env pos mk false (eval iter X.env) use) Qf X.xe s := by
  have reach : ∀ y ∈ scope.names, y.2 = .free → ∃ c, X.env.cells.lookup y.1 = some c := fun y hy e => I.ok.has _ (bk.free y hy e)
  refine wpAny_comprehension_free (use := use) hcl fold (closure_ok reach) bk.kind (fun y hy e => (bk.uniq y hy).trans (congrArg some e)) (thn (pit.run pins s σ H _ I rd) fun _ _ h1 => thn h1 fun _ t2 h2 => ?_)
  obtain ⟨it, fp, tn, J, G2, rfl, I2, T, sT, fr, h⟩ := h2
  refine hmk pins σ G2 t2 _ _ I2 fun D t3 eD nD up size I3 => newEnv_comp ?_
  obtain ⟨W, ⟨m, w0⟩, rounds⟩ := h D nD
  have old : ∀ b ∈ fp, b < t2.heap.objs.size := fun b hb => let ⟨u, e, _⟩ := T.obj _ _ sT b hb; Heap.lt_size e
  have fr3 : ∀ b ∈ fp, FpOk X pins (upd G2 D (o D)) b ∧ b < t3.heap.objs.size := fun b hb => by
    have l := old b hb
    exact ⟨⟨(upd_ne (by rw [eD]; exact Nat.ne_of_lt l)).trans (fr b hb).1, (fr b hb).2⟩, by rw [size, eD]; exact Nat.lt_succ_of_lt l⟩
  have I4 := block_start I3 bk nod fr3
  have k4 : ∀ b u, t2.heap.get? b = some u → (pushCells (t3.heap.push { cls := .type "dict", data := .dict #[] }) scope.names).get? b = some u := fun b u e => pushCells_keeps _ _ _ _ (Heap.get?_push_of_some _ (up b u e))
  generalize ecl : cellsFrom (t3.heap.objs.size + 1) scope.names (cloFrom X.env.cells scope.names []) = cl at I4
  generalize eG : upd G2 D (o D) = G3 at I3 I4 w0 fr3
  generalize eC : t3.heap.objs.size = C at I4
  have lC : (compEnvC scope cl C X.env).locals = C := rfl
  refine start _ _ _ _ _ ?_ (T.self X.A 0 _ _ _ (T.keep _ _ _ sT fun b hb u e => k4 b u e) ?_)
  all_goals
    show codeAny _ _ (.compLoop ce 0 (.ref it) (.ref D) (compEnvC scope cl C X.env)) (compPost (model X.prog X.w) X.A X.xe use Qf (.ref D) C) _
    refine walk_clause (Y := X.blk t3 G3 scope (compEnvC scope cl C X.env) fp) (pins := []) (goes it D _) calm rfl T (ptg t3 G3 C cl fp) (ptt t3 G3 C cl fp) (fun τ G t J b hb hn => ⟨hn, (J.ok.exf b hb).1, J.ok.exfs b hb, .inl hb, fun x c e => (J.ok.exf b hb).2 x c e, fun p hp => absurd (show p ∈ ([] : List (Addr × Obj)) ++ [] from hp) (by simp)⟩)
      rounds (fun t G J q => ?_) (fun E h t σ2 G Nx next J e hb fin => acts t3 G3 C cl fp D E _ t σ2 G Nx next J e hb fin) I4 (T.keep _ _ _ sT fun b hb u e => k4 b u e) (fun b hb => (fr3 b hb).1.1) w0
    have K : Inv X pins σ G t := I3.call' (ch := fp) J.os J.base J.hok J.bare fun b hb => let ⟨_, f1, _, f3, f4, f5⟩ := (fr3 b hb).1; ⟨f3, f1, f4, f5⟩
    obtain ⟨mm, hn, _⟩ := J.loc
    exact back D C t mm G K q hn (I3.fpOk (Nat.le_of_eq eC) J.free)
end
end TS

set_option maxHeartbeats 2000000
/-! ### 7. set comprehensions of ints and texts, and how many there are -/
namespace TS
open PySem PySem.Spec PyProof.Rows L2 PpSet
section
variable {X : Cx}
theorem setK_fresh {P : Program} {w : World} {h : Heap} : (h.push { cls := .type "set", dict := none, data := .set #[] 0 (.fresh 0 0 (!w.params.followText "set-order")) }).SetOf (mixKind P w) h.objs.size (fun _ => false) 0 :=
  ⟨_, #[], 0, _, Heap.get?_push_size h rfl, ⟨rfl, rfl, rfl⟩, rfl, (fun e z => by simp at z), (fun k => by simp), (by decide), (by rfl), rfl⟩
theorem makes_set : Makes X (newSet (.type "set")) fun D => SetK X.prog X.w D (fun _ => false) 0 := fun pins σ H s Q E I q => by
  refine newSet_ok (q _ _ rfl (I.hok.fresh (Nat.le_refl _)) (fun b u e => Heap.get?_push_of_some _ e) (Heap.size_push ..) ?_)
  exact I.laid (t' := s.toks) (fun b u e => Heap.get?_push_of_some _ e) (Nat.le_refl _) (setK_new setK_fresh)
theorem addK_ok {pins : List (Addr × Obj)} {σ : L2.St} {H : Hp} {s : Shared} {E : Value → Shared → Prop} {D : Addr} {S : Key → Bool} {n : Nat} {k : Key} {u : Value} {Q : Value → Shared → Prop} (J : Inv X pins σ H s) (eD : H D = some (SetK X.prog X.w D S n)) (rk : RelV (kV k) u)
    (room : n + 1 < scanBound) (q : ∀ t, Inv X pins σ (upd H D (SetK X.prog X.w D (fun j => S j || decide (j = k)) (if S k = true then n else n + 1))) t → Q .none t) : wpAny (model X.prog X.w) X.A (call (.builtin "set.add") [.ref D, u]) Q E s := by
  refine call_set_add (kV_is rk) (key_scan rk) (setK_get J eD) room fun hp sb nw => ?_
  have there : ∃ v, hp.get? D = some v := let ⟨o, _, _, _, ho, _⟩ := nw; ⟨o, ho⟩
  exact q _ (J.write (e := D) (t' := s.toks + 1) (by rw [eD]; trivial) (.inl rfl) (fun b v hb hv => (sb.2 b hb).trans hv) there (setK_new nw))
/-- what is asked of an item that goes into the set D -/
def setBody (P : Program) (w : World) (te : TE) (D : Addr) (Nx : Hp → Prop) (σ2 : L2.St) (H3 : Hp) : Prop :=
  te σ2 H3 fun y H4 => ∃ (k : Key) (S : Key → Bool) (n : Nat), y = kV k ∧ H4 D = some (SetK P w D S n) ∧ n + 1 < scanBound ∧ Nx (upd H4 D (SetK P w D (fun j => S j || decide (j = k)) (if S k = true then n else n + 1)))
/-- {elt for target in iter if ..}, elt an int or a text: D the new set -/
def tScK (P : Program) (w : World) (wi : TI) (g : TG) (tt : TT) (te : TE) (vs : List Nat) : TE := fun σ H Q => wi σ H fun J H1 => ∀ D, H1 D = none → ∃ Wt : Nat → Nat → Hp → Prop, (∃ m, Wt 0 m (upd H1 D (SetK P w D (fun _ => false) 0))) ∧ ∀ i m H, Wt i m H →
  (J.stop i H ∧ Q (.ref D) H) ∨ (J.go i H ∧ ∃ Nx : Hp → Prop, (∀ G, Nx G → ∃ m', m' < m ∧ Wt (i + 1) m' G) ∧ ∀ x G, J.yld i H x G → g x (wipe σ vs) G fun σ2 H2 => wipe σ2 vs = wipe σ vs ∧ tt σ2 H2 fun b H3 =>
    if b = true then te σ2 H3 fun y H4 => ∃ (k : Key) (S : Key → Bool) (n : Nat), y = kV k ∧ H4 D = some (SetK P w D S n) ∧ n + 1 < scanBound ∧ Nx (upd H4 D (SetK P w D (fun j => S j || decide (j = k)) (if S k = true then n else n + 1))) else Nx H3)
/-- as a value -/
theorem pe_scK {elt tg iter : Expr} {ifs : List Expr} {scope : Scope} {own : List (PySem.Str × Nat)} {pos : Pos} {wi : TI} {g : TG} {tt : TT} {te : TE} (calm : X.calm = true) (nod : X.N.Nodup) (pit : PI X tg iter wi) (bk : BlkOk X.N X.env.scope scope own)
    (ptg : ∀ (s : Shared) (H : Hp) (C : Addr) (cl : List (PySem.Str × Addr)) (fps : List Addr), PG (X.blk s H scope (compEnvC scope cl C X.env) fps) tg g) (ptt : ∀ (s : Shared) (H : Hp) (C : Addr) (cl : List (PySem.Str × Addr)) (fps : List Addr), PTs (X.blk s H scope (compEnvC scope cl C X.env) fps) ifs tt)
    (pel : ∀ (s : Shared) (H : Hp) (C : Addr) (cl : List (PySem.Str × Addr)) (fps : List Addr), PE (X.blk s H scope (compEnvC scope cl C X.env) fps) elt te) (fold : ∀ x, foldedSetIterable iter X.env x = pure x := by intro _; rfl) :
    PE X (.SetComp elt [⟨tg, iter, ifs, 0⟩] scope pos) (tScK X.prog X.w wi g tt te (own.map (·.2))) := by
  refine ⟨fun pins s σ H Q I rd => ?_⟩
  rw [eval_SetComp]
  refine comp_any (rest := []) (Body := setBody X.prog X.w te) (act := fun acc env E next s => wpAny (model X.prog X.w) X.A (eval elt env) (fun v t => wpAny (model X.prog X.w) X.A (call (.builtin "set.add") [acc, v]) (fun _ t => next t) E t) E s) rfl makes_set
    (fun it acc env R I turn n s h => compLoopS_any I turn n h) (fun R s it acc env h0 h => codeAny_compStart_set h0 h) calm nod I pit bk ptg ptt fold rd (fun s0 H0 C cl fp D E pins s σ2 G Nx next J e hb fin => ?_)
    fun D C t m G J q hn f => ⟨m, hn, fun h2 sb => ?_⟩
  · refine thnF ((pel s0 H0 C cl fp).run _ s σ2 G _ J hb) fun v t h => ?_
    obtain ⟨y, G2, J2, ry, k, S, n, rfl, eD, room, nx⟩ := h
    refine addK_ok (X := X.blk s0 H0 scope (compEnvC scope cl C X.env) fp) J2 eD ry room fun t2 J3 => fin t2 _ σ2 J3 (by rw [← e, wipe_length]) (fun j x q => ?_) nx
    rw [← e] at q
    exact (wipe_some q).1
  · obtain ⟨f0, f1, _, f3, f4, f5⟩ := f
    exact ⟨.ref D, G, J.turned (t' := t.toks) (fun b o hb e => (sb.2 b hb).trans e) f0 f1 f3 f4 f5, rfl, q⟩
def rLenSet (P : Program) (w : World) : List V → Hp → VK → Prop := fun xs H Q => ∃ (a : Addr) (S : Key → Bool) (n : Nat), xs = [.ref a] ∧ H a = some (SetK P w a S n) ∧ n < 2 ^ 40 ∧ Q (.int n) H
theorem len_setK : CallR X (.builtin "len") (rLenSet X.prog X.w) := by
  intro pins s σ H xs us Q J r rd
  obtain ⟨a, S, n, rfl, ea, hn, q⟩ := rd
  obtain ⟨u, rfl, ra⟩ := vals1 r
  cases ra
  have ⟨o, es, ep, t, ho, hx, hd, h1, h2, h3, h4, h5⟩ := setK_get J ea
  subst h5
  exact call_len_set ho hx hd h4 (by have := hn; omega) ⟨.int es.size, H, J.kept fun _ _ z => z, ⟨_, rfl⟩, q⟩
end
end TS

set_option maxHeartbeats 2000000
/-! ### 8. enumerate over a tuple; readings by either of two ways -/
namespace PySem
open Sem (wp)
open AutoSeq1 (wpAny_loadPart')
theorem ts_enum_newT (l : Addr) (items : Array Value) (n : Nat) (dct : Option Addr) (sl : Array (Option Value)) :
    Meets (Builtin.«enumerate.__new__» ⟨[.type "enumerate", .ref l], []⟩) (fun _ R s => s.heap.get? l = some { cls := .type "tuple", dict := dct, data := .seq items n, slots := sl } ∧
      R (.ok (.ret (.ref (s.heap.push { cls := .type "tuple_iterator", data := .fields #[.ref l, .int 0 0] }).objs.size)))
        { s with heap := (s.heap.push { cls := .type "tuple_iterator", data := .fields #[.ref l, .int 0 0] }).push { cls := .type "enumerate", data := .fields #[.none, .bool false, .ref s.heap.objs.size, rawInt 0, .none, .none] } }) :=
  .of_wp fun prog w A R s h => by
    obtain ⟨hp, g, d, tk, os⟩ := s
    obtain ⟨there, rest⟩ := h
    have se := sub_enumerate
    have tup : Heap.IsTuple (Shared.heap ⟨hp, g, d, tk, os⟩) l items := ⟨_, there, rfl, n, rfl⟩
    wp_walk using wpAny_loadPart' there
    refine wpAny_stack_any fun st => wpAny_pure ?_
    split
    · rename_i c _ _ _ _ _
      cases (c == Value.type "enumerate")
      · wp_walk using wpAny_loadPart' there, wpAny_pyIter_tuple tup
        exact ⟨_, rfl, rest⟩
      · wp_walk using wpAny_loadPart' there, wpAny_pyIter_tuple tup
        exact ⟨_, rfl, rest⟩
    · wp_walk using wpAny_loadPart' there, wpAny_pyIter_tuple tup
      exact ⟨_, rfl, rest⟩
theorem ts_call_enumT {prog : Program} {w : World} {A : Around} {E : Value → Shared → Prop} {s : Shared} {l : Addr} {items : Array Value} {Q : Value → Shared → Prop} (tup : s.heap.IsTuple l items)
    (q : ∀ G, IsEnum G (s.heap.objs.size + 1) s.heap.objs.size 0 .none → G.IsTupleIter s.heap.objs.size l 0 → (∀ b o, s.heap.get? b = some o → G.get? b = some o) → Q (.ref (s.heap.objs.size + 1)) { s with heap := G }) :
    wpAny (model prog w) A (call (.type "enumerate") [.ref l]) Q E s := by
  obtain ⟨⟨c, dct, dt, sl⟩, there, ec, n, ed⟩ := tup
  replace ec : c = .type "tuple" := ec
  replace ed : dt = .seq items n := ed
  subst ec ed
  refine callType_new F.called_enumerate (by decide) (F.typeCall_enumerate_1 _) (F.newCall_enumerate_1 _) (fun z => F.args_object_init_2 z _) F.entry_enumerate_new (ts_enum_newT l items n dct sl) ⟨there, ?_⟩
  have sz : (s.heap.push { cls := .type "tuple_iterator", data := .fields #[.ref l, .int 0 0] }).objs.size = s.heap.objs.size + 1 := Heap.size_push ..
  show _ ∧ _
  rw [sz]
  have en : IsEnum ((s.heap.push { cls := .type "tuple_iterator", data := .fields #[.ref l, .int 0 0] }).push
      { cls := .type "enumerate", data := .fields #[.none, .bool false, .ref s.heap.objs.size, rawInt 0, .none, .none] }) (s.heap.objs.size + 1) s.heap.objs.size 0 .none := by
    have z := Heap.get?_push_size (s.heap.push { cls := .type "tuple_iterator", data := .fields #[.ref l, .int 0 0] })
      (o := { cls := .type "enumerate", data := .fields #[.none, .bool false, .ref s.heap.objs.size, rawInt 0, .none, .none] }) rfl
    rw [sz] at z; exact z
  exact ⟨⟨_, en, rfl⟩, q _ en ⟨_, Heap.get?_push_of_some _ (Heap.get?_push_size _ rfl), rfl, rfl⟩ fun b o x => Heap.get?_push_of_some _ (Heap.get?_push_of_some _ x)⟩
end PySem
namespace TS
open PySem PySem.Spec PyProof.Rows L2
/-- the tuple at a, the items in new pairs with their places -/
def IteT (K : PySem.W.Frag) (a : Addr) : It :=
  ⟨fun i H => ∃ (xs : List V) (x : V), SqT K H a xs ∧ xs[i]? = some x,
    fun i H v G => ∃ T x, v = .ref T ∧ H T = none ∧ G = upd H T (.tup [.int (i : Nat), x]) ∧ ∀ xs, SqT K H a xs → xs[i]? = some x,
    fun i H => ∃ xs : List V, SqT K H a xs ∧ xs.length ≤ i⟩
theorem turn_enumT {P : Program} {w : World} {K : PySem.W.Frag} {elts : List Expr} {kk : Nat} {tpos : Pos} (a e it : Addr) :
    Turn P w K (.Tuple elts kk tpos) (IteT K a) [e, it] e (fun i h => (∃ old, IsEnum h e it i old) ∧ h.IsTupleIter it a i ∧ e ≠ it) where
  mem := by simp
  obj := fun i h st b hb => by
    obtain ⟨⟨old, en⟩, ⟨o, ho, hc, hd⟩, _⟩ := st
    have e' : b = e ∨ b = it := by simpa using hb
    rcases e' with z | z
    · rw [z]; exact ⟨_, en, fun v q => nomatch q⟩
    · rw [z]; exact ⟨o, ho, fun v q => by rw [hd] at q; cases q⟩
  keep := fun i h G st k => let ⟨⟨old, en⟩, ti, ne⟩ := st; ⟨⟨old, k e (by simp) _ en⟩, ti.at fun o q => k it (by simp) o q, ne⟩
  item := by
    intro X hP hw hK hc i pins s σ H E J hf st hg
    subst hP hw hK
    obtain ⟨⟨old, en⟩, ti, ne⟩ := st
    obtain ⟨xs, x, hq, hx⟩ := hg
    obtain ⟨its, rv, p, hz⟩ := J.tuple hq
    obtain ⟨u, hu, ru⟩ := rv.get hx
    have p' : s.heap.IsTuple a its.toArray := p
    have lte : e < s.heap.objs.size := Heap.lt_size en
    have lti : it < s.heap.objs.size := by obtain ⟨_, q, _⟩ := ti; exact Heap.lt_size q
    have nai : a ≠ it := fun z => by
      obtain ⟨o, ho, hc1, hd1⟩ := ti
      obtain ⟨o2, ho2, hc2, _⟩ := p'
      rw [z, ho] at ho2
      cases ho2
      rw [hc1] at hc2
      exact absurd hc2 (by decide +kernel)
    have nae : e ≠ a := fun z => by
      obtain ⟨o2, ho2, hc2, _⟩ := p'
      rw [← z] at ho2
      have en' : s.heap.get? e = some _ := en
      rw [en'] at ho2
      cases ho2
      exact absurd (show Value.type "enumerate" = Value.type "tuple" from hc2) (by decide +kernel)
    have ui : its.toArray[i]? = some u := by simpa using hu
    have lt : i < its.toArray.size := by
      rcases Nat.lt_or_ge i its.toArray.size with z | z
      · exact z
      · rw [Array.getElem?_eq_none z] at ui; cases ui
    have hd := J.ok.hd hc
    refine wpAny_pyNext_enum_itemD (Draws.tuple (by exact hd) it a nai its.toArray) en ⟨ti, p'⟩ lt ne (by simp [ne, nae]) fun y G tk hy ho st' hT hsz hk => ?_
    rw [ui] at hy
    cases hy
    refine ⟨_, rfl, wpAny_letOwnedTupleGo_enum (s := { s with heap := G, toks := tk + 1 }) ho fun G2 en' sb => ?_⟩
    have hT2 : G2.get? s.heap.objs.size = some { cls := .type "tuple", data := .seq #[.int i tk, u] } := (sb.2 _ (Nat.ne_of_gt lte)).trans hT
    have new : ObjOk X.prog X.w (upd H s.heap.objs.size (.tup [.int (i : Nat), x])) G2 s.heap.objs.size (.tup [.int (i : Nat), x]) :=
      ⟨by show 2 ≤ sizeLine; decide, [.int i tk, u], .cons ⟨_, rfl⟩ (.cons ru .nil), ⟨_, hT2, rfl, _, rfl⟩⟩
    have J1 : Inv X pins σ (upd H s.heap.objs.size (.tup [.int (i : Nat), x])) { s with heap := G2, toks := tk + 1 } :=
      J.turnedNew (ch := [e, it]) (fun b ob hb q => (sb.2 b (fun z => hb (by simp [z]))).trans (hk b ob (fun z => hb (by simp [z])) (fun z => hb (by simp [z])) q)) hf (Nat.le_refl _) new
    refine ⟨.ref s.heap.objs.size, _, J1, rfl, ⟨_, x, rfl, J.hok.fresh (Nat.le_refl _), rfl, fun ys hy => by rw [J.tuple_inj hy hq]; exact hx⟩, ⟨⟨u, ?_⟩, st'.1.at fun o q => (sb.2 it (Ne.symm ne)).trans q, ne⟩, fun b hb => ?_⟩
    · have e1 : ((i + 1 : Nat) : Int) = (i : Int) + 1 := by omega
      rw [e1]; exact en'
    · have lb : b < s.heap.objs.size := by
        have e' : b = e ∨ b = it := by simpa using hb
        rcases e' with z | z
        · rw [z]; exact lte
        · rw [z]; exact lti
      rw [upd_ne (Nat.ne_of_lt lb)]
      exact (hf b hb).1
  done := by
    intro X hP hw hK hc i pins s σ H E J hf st hg
    subst hP hw hK
    obtain ⟨⟨old, en⟩, ti, ne⟩ := st
    obtain ⟨xs, hq, hx⟩ := hg
    obtain ⟨its, rv, p, hz⟩ := J.tuple hq
    obtain ⟨f0, f1, f2, f3, f4, f5⟩ := hf it (by simp)
    have hl := rv.length
    have p' : s.heap.IsTuple a its.toArray := p
    have hT : s.TypeIs (.ref e) "enumerate" := ⟨_, en, rfl⟩
    have hd := J.ok.hd hc
    unfold pyNext
    refine wpAny_bind (wpAny_attempt (wpAny_callSpecial?_slot (name := Str.ofString "__next__") hT F.slot_enumerate_next
      (wpAny_call_entry F.slot_enumerate_next hT F.entry_enumerate_next ?_ (F.args_enumerate_next_1 _))))
    show wpAny _ _ (field (.ref e) 2 >>= _) _ _ _
    refine wpAny_bind (wpAny_field en rfl (x := .ref it) rfl ?_)
    refine wpAny_bind (wpAny_nextOf_tuple_end (by exact hd) ti p' (by simp; omega) fun G x eb hx' => ?_)
    obtain ⟨o, ho, hco⟩ := hx'
    refine wpAny_bind (wpAny_isInstance (T := "StopIteration") (b := true) ⟨o, ho, hco⟩ isSubtype_stop ?_)
    exact wpAny_pure ⟨rfl, J.turned (t' := s.toks) (fun b o hb q => eb b o hb q) f0 f1 f3 f4 f5⟩
  self := fun A i s Q E st h => let ⟨⟨_, en⟩, _⟩ := st; wpAny_pyIter_enum en h
def iEnumT (K : PySem.W.Frag) (ta : TA) : TI := fun σ H R => ta σ H fun vs H1 => ∃ a xs, vs = [.ref a] ∧ SqT K H1 a xs ∧ R (IteT K a) H1
theorem pi_enumT {X : Cx} {K : PySem.W.Frag} {e : Expr} {ta : TA} {p pos tpos : Pos} {elts : List Expr} {kk : Nat} (hK : X.K = K) (hg : Gl X "enumerate") (hm : X.mg "enumerate" = none) (ha : PA X [e] ta) (hs : starEach [e] X.env = [(false, eval e X.env)] := by rfl) :
    PI X (.Tuple elts kk tpos) (.Call (.Name "enumerate" p) [e] [] pos) (iEnumT K ta) := by
  subst hK
  refine ⟨fun pins s σ H R J h => ?_⟩
  refine Call_ (ld_blt J hg hm boot_enumerate (PyProof.Rows.callWith_type1 (thn (ha.run pos pins s σ H _ J h) fun us t ⟨vs, H1, J1, r1, q1⟩ => ?_) hs rfl))
  obtain ⟨a, xs, ex, hq, q⟩ := q1
  subst ex
  obtain ⟨u, rfl, ra⟩ := vals1 r1
  cases ra
  obtain ⟨its, rv, p', hz⟩ := J1.tuple hq
  refine ts_call_enumT (show t.heap.IsTuple a its.toArray from p') fun G en ti hk => wpAny_pyIter_enum en ?_
  have J2 : Inv X pins σ H1 { t with heap := G } := J1.kept (t' := t.toks) hk
  refine ⟨t.heap.objs.size + 1, [t.heap.objs.size + 1, t.heap.objs.size], _, _, H1, rfl, J2, turn_enumT a (t.heap.objs.size + 1) t.heap.objs.size, ⟨⟨.none, en⟩, ti, Nat.succ_ne_self _⟩, fun b hb => ?_, q⟩
  have le : t.heap.objs.size ≤ b := by
    have e' : b = t.heap.objs.size + 1 ∨ b = t.heap.objs.size := by simpa using hb
    rcases e' with z | z <;> rw [z]
    · exact Nat.le_add_right _ _
    · exact Nat.le_refl _
  exact J1.fpOk le (J1.hok.fresh le)
theorem walk_enumT {K : PySem.W.Frag} {a : Addr} {xs : List V} : Walk (IteT K a) xs.length (fun H => SqT K H a xs) (YPair (fun i => some (.int (i : Nat))) (fun i => xs[i]?)) := by
  refine ⟨fun i _ hi q => ⟨xs, xs[i], q, by simp [hi]⟩, fun _ q => ⟨xs, q, Nat.le_refl _⟩, fun i H v G _ q y => ?_⟩
  obtain ⟨T, x, h1, h2, h3, h4⟩ := y
  exact ⟨T, .int (i : Nat), x, h1, h2, h3, rfl, h4 xs q⟩
/-! either of two readings -/
section
variable {X : Cx} {e tg : Expr} {t1 t2 : TE} {i1 i2 : TI}
theorem pe_either (h1 : PE X e t1) (h2 : PE X e t2) : PE X e (fun σ H Q => t1 σ H Q ∨ t2 σ H Q) := ⟨fun pins s σ H Q J h => h.elim (h1.run pins s σ H Q J) (h2.run pins s σ H Q J)⟩
theorem pi_either (h1 : PI X tg e i1) (h2 : PI X tg e i2) : PI X tg e (fun σ H R => i1 σ H R ∨ i2 σ H R) := ⟨fun pins s σ H R J h => h.elim (h1.run pins s σ H R J) (h2.run pins s σ H R J)⟩
end
end TS

set_option maxHeartbeats 2000000
/-! ### 9. defs that raise; own exceptions with one field; several except clauses -/
namespace TS
open PySem PySem.Spec PyProof.Rows L2
/-- a method's def at f -/
def DefM (K : PySem.W.Frag) (f : Addr) (m qual : Str) (st : Stmt) : Prop := ∃ fd, FunD K m qual (defArgs st) (defBody st) (defScope st) [] [] f fd
/-- a promise by the def's place -/
def PromA (CX : CXT) (P : Program) (w : World) (K : PySem.W.Frag) (mg : Str → Option Value) (base : Heap) (k : Nat) (f : Addr) (ps : List Str) (sp : Sp) : Prop := ∃ fd, FnOk P w K mg base CX k f fd ps sp ∧ Binds K fd ps []
/-- a def that may raise, by its name -/
def PromX (P : Program) (w : World) (K : PySem.W.Frag) (mg : Str → Option Value) (base : Heap) (k : Nat) (x : Str) (ps : List Str) (sp : Sp) : Prop :=
  ∃ f, PromA (L2.CX P w) P w K mg base k f ps sp ∧ mg x = some (.ref f) ∧ PySem.W.keepIn K (.ref f) = true
section
variable {P : Program} {w : World} {K : PySem.W.Frag} {mg : Str → Option Value} {base : Heap} {N ps : List Str} {k : Nat} {sp : Sp} {x m qual : Str} {st : Stmt} {f : Addr}
theorem meth_mk (D : DefM K f m qual st) (S : FnScope N ps (defScope st)) (len : ∀ vs H Q E, sp vs H Q E → vs.length = ps.length)
    (hb : ∀ (kV doc pm : Value) (an : Option Addr) (cdv ct : Value) (us : List Value), us.length = ps.length → bindArgs (PySem.W.fnOf m qual (defArgs st) (defBody st) (defScope st) .none kV doc pm an cdv ct) ⟨us, []⟩ = pure (ps.zip us))
    (body : ∀ (cdv : Value) (A : Around) (outer : List Env) (s : Shared) (H : Hp) (vs : List V) (Q : VK) (E : XK), Room k (A.deeper (envOfC qual (defScope st) s.heap.objs.size f cdv)) → sp vs H Q E →
      ∃ t, PSs (cxOf CX0 P w K mg base N qual (defScope st) f cdv A outer s H E).nox (defBody st) t ∧ t { nx := fun _ G => Q .non G, rt := Q } (start N vs) H) : PromA CX0 P w K mg base (k + 1) f ps sp := by
  obtain ⟨fd, F⟩ := D
  refine ⟨fd, F.ok S len fun cdv A outer s H vs Q E hr h => ?_, F.bindsN hb⟩
  obtain ⟨t, h1, h2⟩ := body cdv A outer s H vs Q E hr h
  exact ⟨t, h1.nox, h2⟩
theorem methX_mk (D : DefM K f m qual st) (S : FnScope N ps (defScope st)) (len : ∀ vs H Q E, sp vs H Q E → vs.length = ps.length)
    (hb : ∀ (kV doc pm : Value) (an : Option Addr) (cdv ct : Value) (us : List Value), us.length = ps.length → bindArgs (PySem.W.fnOf m qual (defArgs st) (defBody st) (defScope st) .none kV doc pm an cdv ct) ⟨us, []⟩ = pure (ps.zip us))
    (body : ∀ (cdv : Value) (A : Around) (outer : List Env) (s : Shared) (H : Hp) (vs : List V) (Q : VK) (E : XK), Room k (A.deeper (envOfC qual (defScope st) s.heap.objs.size f cdv)) → sp vs H Q E →
      ∃ t, PSs (cxOf (L2.CX P w) P w K mg base N qual (defScope st) f cdv A outer s H E) (defBody st) t ∧ t { nx := fun _ G => Q .non G, rt := Q } (start N vs) H) : PromA (L2.CX P w) P w K mg base (k + 1) f ps sp := by
  obtain ⟨fd, F⟩ := D
  exact ⟨fd, F.ok S len body, F.bindsN hb⟩
theorem promX_mk (D : Def K mg x st) (S : FnScope N ps (defScope st)) (len : ∀ vs H Q E, sp vs H Q E → vs.length = ps.length)
    (hb : ∀ (kV doc pm : Value) (an : Option Addr) (cdv ct : Value) (us : List Value), us.length = ps.length → bindArgs (PySem.W.fnOf x x (defArgs st) (defBody st) (defScope st) .none kV doc pm an cdv ct) ⟨us, []⟩ = pure (ps.zip us))
    (body : ∀ (f : Addr) (cdv : Value) (A : Around) (outer : List Env) (s : Shared) (H : Hp) (vs : List V) (Q : VK) (E : XK), Room k (A.deeper (envOfC x (defScope st) s.heap.objs.size f cdv)) → sp vs H Q E →
      ∃ t, PSs (cxOf (L2.CX P w) P w K mg base N x (defScope st) f cdv A outer s H E) (defBody st) t ∧ t { nx := fun _ G => Q .non G, rt := Q } (start N vs) H) : PromX P w K mg base (k + 1) x ps sp := by
  obtain ⟨f, fd, F, m⟩ := D
  exact ⟨f, ⟨fd, F.ok S len (body f), F.bindsN hb⟩, m, F.kp⟩
/-- in a def that may raise, what it lets out is taken -/
theorem takesF {E : XK} {qual : Str} {scope : Scope} {f : Addr} {cdv : Value} {A : Around} {outer : List Env} {s : Shared} {H : Hp} :
    Takes (cxOf (L2.CX P w) P w K mg base N qual scope f cdv A outer s H E) (fun cls d _ G => E cls d G) := takes_of rfl rfl rfl rfl
end
/-! calls of defs that may raise: what is let out goes to W -/
section
variable {X : Cx} {k : Nat} {f C : Addr} {ps : List Str} {sp : Sp} {W : WX} {x : Str} {p pos : Pos} {e : Expr} {es : List Expr} {t : TA}
theorem pe_pcX (pr : PromX X.prog X.w X.K X.mg X.base k x ps sp) (tk : Takes X W) (hr : Room k X.A) (hg : Gl X x) (ha : PA X (e :: es) t) (hdb : (x == ("__debug__" : Str)) = false := by decide)
    (he : starEach (e :: es) X.env = (false, eval e X.env) :: starEach es X.env := by rfl) (hpl : (backTo pos (starEach es X.env)).any (·.1) = false := by rfl) :
    PE X (.Call (.Name x p) (e :: es) [] pos) (tCallS sp (WE W) t) := by
  obtain ⟨f, ⟨fd, F, b⟩, m, kp⟩ := pr
  exact pe_callS F hr hg m kp b (fun σ => passAt tk σ) ha hdb he hpl
/-- C(e, ..) of an own class whose __init__ may raise -/
def tMakeS (C : Addr) (sp : Sp) (W : WX) (t : TA) : TE := fun σ H Q => t σ H fun vs H1 => ∀ x dx, H1 x = none → H1 dx = none → dx ≠ x →
  sp (.ref x :: vs) (upd (upd H1 dx (.own x)) x (.ins C dx [])) (fun v H2 => v = .non ∧ Q (.ref x) H2) (WE W σ)
theorem make_runS {fd : FuncData} {pins : List (Addr × Obj)} {σ : L2.St} {H : Hp} {s : Shared} {Q : VK} {us : List Value} {vs : List V} (M : Mk X.K C f) (F : FnOk X.prog X.w X.K X.mg X.base (L2.CX X.prog X.w) k f fd ps sp) (hr : Room (k + 1) X.A) (hb : Binds X.K fd ps [])
    (tk : Takes X W) (J : Inv X pins σ H s) (r : Vals vs us)
    (h : ∀ x dx, H x = none → H dx = none → dx ≠ x → sp (.ref x :: vs) (upd (upd H dx (.own x)) x (.ins C dx [])) (fun v H2 => v = .non ∧ Q (.ref x) H2) (WE W σ)) :
    wpAny (model X.prog X.w) X.A (call (.ref C) us) (EP X pins σ Q) X.xe s := by
  have q := h (s.heap.objs.size + 1) s.heap.objs.size (J.hok.fresh (Nat.le_succ _)) (J.hok.fresh (Nat.le_refl _)) (Nat.ne_of_lt (Nat.lt_succ_self _))
  have J2 := Inv.made (C := C) J
  have r2 : Vals (V.ref (s.heap.objs.size + 1) :: vs) (Value.ref (s.heap.objs.size + 1) :: us) := .cons rfl r
  have hl : (Value.ref (s.heap.objs.size + 1) :: us).length = ps.length := by rw [← r2.length]; exact F.len _ _ _ _ q
  have b := hb _ (Value.ref (s.heap.objs.size + 1) :: us) J2.kIn (by rw [List.append_nil]; exact hl)
  rw [List.append_nil] at b
  refine wpAny_call (make_map (f := f) J.kIn M.makes M.init (beq_iff_eq.mp M.fn) (codeAny_mono (F.run _ X.stack _ _ ⟨Value.ref (s.heap.objs.size + 1) :: us, []⟩ (Value.ref (s.heap.objs.size + 1) :: us) _ _ (WE W σ) (hr.make C us [])
    (J2.env0.make C us []) b r2 q) fun o t z => ?_))
  match o, z with
  | .error e, z => exact passAt tk σ pins _ _ e t J2 z
  | .ok (.ret u), z =>
    obtain ⟨v, G, J3, rv, ev, q3⟩ := J2.after z
    subst ev
    exact ⟨rv, ⟨V.ref (s.heap.objs.size + 1), G, J3, rfl, q3⟩⟩
theorem pe_makeS (M : Mk X.K C f) (pr : PromA (L2.CX X.prog X.w) X.prog X.w X.K X.mg X.base k f ps sp) (tk : Takes X W) (hr : Room (k + 1) X.A) (hg : Gl X x) (hm : X.mg x = some (.ref C)) (ha : PA X (e :: es) t) (hdb : (x == ("__debug__" : Str)) = false := by decide)
    (he : starEach (e :: es) X.env = (false, eval e X.env) :: starEach es X.env := by rfl) (hpl : (backTo pos (starEach es X.env)).any (·.1) = false := by rfl) :
    PE X (.Call (.Name x p) (e :: es) [] pos) (tMakeS C sp W t) := by
  obtain ⟨fd, F, b⟩ := pr
  refine ⟨fun pins s σ H Q J h => wpAny_Call_Name_kw (ld_glob J hg hm ?_ hdb)⟩
  exact PySem.W.callWith_K (h₀ := X.base) J.ok.mod.kin M.kp (thn (ha.run pos pins s σ H _ J h) fun us t ⟨vs, H1, J1, r, q⟩ => ⟨J1.kIn, make_runS M F hr b tk J1 r q⟩) he hpl
end
/-! len of an instance with its own __len__ -/
def rLenOwn (C : Addr) (sp : Sp) : List V → Hp → VK → Prop := fun xs H Q => ∃ a dx fs, xs = [.ref a] ∧ H a = some (.ins C dx fs) ∧ sp [.ref a] H (fun v G => ∃ n : Nat, v = .int n ∧ n < 2 ^ 40 ∧ Q (.int n) G) E0
theorem len_own {X : Cx} {k : Nat} {C f : Addr} {ps : List Str} {sp : Sp} (M : Meth X.K C "__len__" f) (pr : PromA CX0 X.prog X.w X.K X.mg X.base k f ps sp) (hr : Room (k + 1) X.A) : CallR X (.builtin "len") (rLenOwn C sp) := by
  intro pins s σ H xs us Q J r rd
  obtain ⟨a, dx, fs, rfl, ea, q⟩ := rd
  obtain ⟨u, rfl, ra⟩ := vals1 r
  cases ra
  obtain ⟨fd, F, hb⟩ := pr
  obtain ⟨mA, O, rr, _, _, _⟩ := ins_get J.hok ea
  obtain ⟨od, at_, _⟩ := O.look
  have b := hb s [.ref a] J.kIn (F.len _ _ _ _ q)
  refine Calls.call_function_entry PySem.kind_len PySem.plain_len PySem.entry_len (PySem.args_len1 _) ?_
  unfold Builtin.«len»
  refine wpAny_bind (m := oneArg "len" _) (wpAny_pure ?_)
  refine wpAny_bind (m := callSpecial? (.ref a) (Str.ofString "__len__")) (PySem.W.special_fn J.kIn at_ M.at_ (beq_iff_eq.mp M.fn) ?_)
  refine wpAny_call (codeAny_mono (F.run X.A.in1 X.stack s H ⟨[.ref a], []⟩ [.ref a] [.ref a] _ E0 hr.in1 J.env0.in1 b (.cons rfl .nil) q) fun o t z => ?_)
  match o, z with
  | .error e, z => exact pass0 pins σ H s e t J z
  | .ok (.ret u), z =>
    obtain ⟨v, G, J2, rv, n, rfl, hn, q2⟩ := J.after z
    obtain ⟨tk, rfl⟩ := rv
    show wpAny _ _ _ _ _ _
    refine wpAny_bind (wpAny_holding (wpAny_pure ?_))
    refine wpAny_bind (wpAny_letGo ?_)
    show wpAny _ _ (if ((n : Nat) : Int) < 0 then _ else _) _ _ _
    rw [if_neg (by omega)]
    show wpAny _ _ (if ((n : Nat) : Int) ≥ 2 ^ 63 then _ else _) _ _ _
    rw [if_neg (by omega)]
    exact wpAny_bind (wpAny_mkInt (wpAny_pure ⟨_, rfl, .int n, G, J2.kept fun _ _ z => z, ⟨_, rfl⟩, q2⟩))
end TS

set_option maxHeartbeats 2000000
namespace TS
open PySem PySem.Spec PyProof.Rows L2
/-- B is an own class over ValueError without an __init__ of its own -/
structure FamV (K : PySem.W.Frag) (B : Addr) : Prop where
  rd : ClX.CRead K B (.type "type")
  ini : PySem.W.findCls K (.ref B) (.type "type") "__init__" = some (.val (.builtin "ValueError.__init__"))
/-- C is an own class of exceptions over ValueError, with an __init__ of its own, and no other thing called f -/
structure OwnV (K : PySem.W.Frag) (C : Addr) (f : Str) : Prop where
  ox : OexC K C
  xf : XfC K C
  ini : PySem.W.findIn K (.ref C) "__init__" = some (some (.ref (He.ma K C "__init__")))
  fn : PySem.W.typeIn K (.ref (He.ma K C "__init__")) = some (.type "function")
  no : PySem.W.findIn K (.ref C) f = some none
section
variable {X : Cx} {B : Addr} {x : Str} {e : Expr} {es : List Expr} {ta : TA} {p1 p2 pos : Pos}
/-- B.__init__(self, ..) -/
theorem pe_famInit {pl : Sem Bool} (T : FamV X.K B) (hg : Gl X x) (hm : X.mg x = some (.ref B)) (ha : PA X (e :: es) ta) (hdb : (x == ("__debug__" : Str)) = false := by decide)
    (hc : eval (.Call (.Attribute (.Name x p1) "__init__" p2) (e :: es) [] pos) X.env = (do
      let ov ← eval (.Name x p1) X.env
      standAt p2.atName
      let (f, first) ← holding [ov] (getMethod ov "__init__" pl)
      callWith pos f first (backTo pos (starEach (e :: es) X.env)) (backToKw pos (keywordEach [] X.env))) := by rfl)
    (he : starEach (e :: es) X.env = (false, eval e X.env) :: starEach es X.env := by rfl) (hpl : (backTo pos (starEach es X.env)).any (·.1) = false := by rfl) :
    PE X (.Call (.Attribute (.Name x p1) "__init__" p2) (e :: es) [] pos) (tVeI X.K ta) := by
  refine ⟨fun pins s σ H Q J h => ?_⟩
  refine PySem.W.methodCall_KW (ld_glob J hg hm ?_ hdb) hc
  refine PySem.W.method_cls J.kIn T.rd.ga (PySem.W.cls_value J.kIn T.rd.rd T.ini rfl ?_)
  show wpAny _ _ (callWith pos (Value.builtin "ValueError.__init__") [] (backTo pos (starEach (e :: es) X.env)) []) _ _ _
  refine PyProof.Rows.callWith_method1 (thn (ha.run pos pins _ σ H _ (J.tok _) h) fun us t ⟨vs, H1, J1, r1, a, C, ws, ev, hl, O, ea, q⟩ => ?_) he hpl
  subst ev
  cases r1 with
  | @cons _ u0 _ ur ra rw' =>
    obtain rfl : u0 = Value.ref a := ra
    exact oinit_ok O J1 ea (by rw [← Paired.length rw', sizeLine_eq]; omega) fun t' J2 => ⟨.non, H1, J2, rfl, q⟩
end
/-- what the __init__ of such a class keeps -/
def spIni (C : Addr) (f : Str) : Sp := fun vs H Q _ => ∃ a v, vs = [.ref a, v] ∧ H a = some (exo a C none) ∧ ∀ dx, H dx = none → dx ≠ a → Q .non (upd (upd H dx (exd dx [(f, v)])) a (exo a C (some dx)))
/-- a reading, weakened -/
def tMono (te : TE) : TE := fun σ H Q => ∃ R : VK, te σ H R ∧ ∀ v G, R v G → Q v G
theorem pe_mono {X : Cx} {e : Expr} {te : TE} (he : PE X e te) : PE X e (tMono te) := ⟨fun pins s σ H Q J ⟨R, h, m⟩ => thn (he.run pins s σ H R J h) fun _ _ ⟨v, G, J1, r, q⟩ => ⟨v, G, J1, r, m v G q⟩⟩
/-- raise C(e) -/
def tRaise1 (C : Addr) (f : Str) (te : TE) (W : WX) : TS := fun _ σ H => te σ H fun v H1 => ∀ d, H1 d = none → W (.ref C) (some d) σ (upd H1 d (.xd [(f, v)]))
theorem upd_swap {H : Hp} {a d : Addr} {o u v w : HO} (h : d ≠ a) (n : H a = none) : upd (del (upd (upd (upd H a o) d u) a v) a) d w = upd H d w := by
  funext b
  by_cases hb : b = d
  · rw [hb, upd_same, upd_same]
  · rw [upd_ne hb, upd_ne hb]
    by_cases ha : b = a
    · rw [ha, del_same, n]
    · rw [del_ne ha, upd_ne ha, upd_ne hb, upd_ne ha]
section
variable {X : Cx} {C : Addr} {f x : Str} {k : Nat} {ps : List Str} {e : Expr} {te : TE} {W : WX} {p pos pos2 : Pos}
theorem ps_raise1 (T : OwnV X.K C f) (pr : PromA CX0 X.prog X.w X.K X.mg X.base k (He.ma X.K C "__init__") ps (spIni C f)) (hc : X.calm = true) (tk : Takes X W) (hr : Room (k + 1) X.A) (hg : Gl X x) (hm : X.mg x = some (.ref C)) (he : PE X e te)
    (hdb : (x == ("__debug__" : Str)) = false := by decide) (hs : starEach [e] X.env = (false, eval e X.env) :: starEach [] X.env := by rfl) (hpl : (backTo pos (starEach [] X.env)).any (·.1) = false := by rfl) :
    PS X (.Raise (some (.Call (.Name x p) [e] [] pos)) none pos2) (tRaise1 C f te W) := by
  obtain ⟨fd, F, b⟩ := pr
  have mk := pmk_oex (p := p) (pos := pos) (dvs := []) (ds := []) T.ox T.ini T.fn F hr b .nil pass0 hg hm (pa_cons (pe_mono he) pa_nil hs) hdb hs hpl
  refine ⟨fun pins s σ H D J h => (ps_raise hc tk mk).run pins s σ H D J ?_⟩
  refine ⟨_, h, fun v H1 q => ⟨by show 1 ≤ 1000; decide, fun a na => ⟨a, v, rfl, upd_same .., fun dx nd ne => ⟨rfl, dx, [(f, v)], upd_same .., ?_, ?_, ?_⟩⟩⟩⟩
  · rw [upd_ne ne, upd_same]
  · rw [upd_ne ne] at nd; exact nd
  · rw [upd_ne ne] at nd
    rw [upd_swap ne na]
    exact q dx nd
end
end TS

set_option maxHeartbeats 2000000
/-! ### 10. try with several clauses, named ones and others; what lies behind them is never reached -/
namespace TS
open PySem PySem.Spec PyProof.Rows L2
/-- behind a named clause its name is unbound -/
def Ends.drop (D : Ends) (i : Nat) : Ends := { nx := fun τ G => D.nx (τ.set i none) G, rt := D.rt, bk := fun τ G => D.bk (τ.set i none) G, ct := fun τ G => D.ct (τ.set i none) G }
abbrev Clause := Value × Option Nat × (Addr → Value → Option Addr → TS)
def wClauses (K : PySem.W.Frag) (D : Ends) : List Clause → WX
  | [] => fun _ _ _ _ => False
  | (c, some i, ts) :: r => fun cls d σ H => ∃ b, PySem.W.exmOne K cls c = some b ∧ (b = true → ∀ a, H a = none → ts a cls d (Ends.drop D i) (σ.set i (some (.ref a))) H) ∧ (b = false → wClauses K D r cls d σ H)
  | (c, none, ts) :: r => fun cls d σ H => ∃ b, PySem.W.exmOne K cls c = some b ∧ (b = true → ∀ a, H a = none → ts a cls d D σ H) ∧ (b = false → wClauses K D r cls d σ H)
abbrev SuiteOk (X : Cx) (st : List Stmt) (ts : Addr → Value → Option Addr → TS) : Prop :=
  ∀ (a : Addr) (oe : Obj) (cls : Value) (d : Option Addr) (pn : List (Addr × Obj)), Zc cls d oe → (∃ vs, oe.data = .fields vs) → PSs (X.suite a ((a, oe) :: pn)) st (ts a cls d)
inductive ClausesOk (X : Cx) : List ExceptHandler → List Clause → Prop
  | stop {l : List ExceptHandler} : ClausesOk X l []
  | as_ {x n : Str} {i : Nat} {c : Value} {ts : Addr → Value → Option Addr → TS} {b₀ : Stmt} {suite : List Stmt} {np pp : Pos} {l : List ExceptHandler} {r : List Clause} (hi : X.N[i]? = some n) (hln : X.env.kindOf n = some .local) (hc : Names X x c)
      (hsu : SuiteOk X (b₀ :: suite) ts) (t : ClausesOk X l r) : ClausesOk X (.ExceptHandler (some (.Name x np)) (some n) (b₀ :: suite) pp :: l) ((c, some i, ts) :: r)
  | only {x : Str} {c : Value} {ts : Addr → Value → Option Addr → TS} {b₀ : Stmt} {suite : List Stmt} {np pp : Pos} {l : List ExceptHandler} {r : List Clause} (hc : Names X x c)
      (hsu : SuiteOk X (b₀ :: suite) ts) (t : ClausesOk X l r) : ClausesOk X (.ExceptHandler (some (.Name x np)) none (b₀ :: suite) pp :: l) ((c, none, ts) :: r)
section
variable {X : Cx} {body : List Stmt} {h₀ : ExceptHandler} {hs' : List ExceptHandler} {cl : List Clause} {pos : Pos} {tb : WX → TS}
theorem ps_try (stk : X.stack = X.env :: X.outer) (frm : X.env.frame = some X.env.locals) (nod : X.N.Nodup)
    (bod : ∀ (W : WX) (pn : List (Addr × Obj)) (xe : Value → Shared → Prop), Takes (X.tr pn xe) W → PassesOwn (model X.prog X.w) X.A X.env xe → PSs (X.tr pn xe) body (tb W))
    (cls' : ClausesOk X (h₀ :: hs') cl) : PS X (.Try body (h₀ :: hs') [] [] pos) (fun D σ H => tb (wClauses X.K D cl) D σ H) := by
  refine ⟨fun pins s σ H D J rd => ?_⟩
  have xok := J.ok
  have afr : X.A.frames = some (X.env :: X.outer) := by rw [xok.frames, stk]
  refine wpAny_Try_except ?_
  refine wpAny_mono ((bod (wClauses X.K D cl) (X.pn ++ pins) (fun u t1 => wpAny (model X.prog X.w) X.A (noteFrame u X.env) (fun _ t2 => wpAny (model X.prog X.w) X.A (setFlight u none) (fun _ t3 =>
    wpAny (model X.prog X.w) X.A (handleBy u X.env (h₀ :: hs')) (SP X pins D) X.xe t3) X.xe t2) X.xe t1) (fun u t air => ?_) PassesOwn.looking).run [] s σ H D (J.toTry _) rd) (fun fl t1 sp => ?_) (fun u t1 z => z)
  · obtain ⟨a, gr, sA, pins', σ', H', cls, d, rfl, J', ngr, up, sky, na, os, ag, wish⟩ := air
    have J1 : Inv X pins σ' H' sA := J'.ofTry xok
    have sky1 : Sky gr (X.env :: X.outer) a (Zc cls d) X.env.locals t.heap := by rw [← stk]; exact sky
    show wpAny (model X.prog X.w) X.A (noteFrame (.ref a) X.env) _ _ _
    refine Sky.land Zc.steady afr frm sky1 fun h3 fl3 up3 => ?_
    have J3 : Inv X pins σ' H' { t with heap := h3 } := J1.landed ngr fl3.1 (up.trans up3) os ag
    obtain ⟨oe3, vs3, get3, zc3, dat3⟩ := fl3.there
    have off : ∀ {h : Heap} {o : Obj} {vs : Array Value}, h.FunFrames gr (X.env :: X.outer) → h.get? a = some o → o.data = .fields vs → a ∉ frs (X.env :: X.outer) := fun {h o vs} ff g dd m => by
      obtain ⟨_, o', g', nf⟩ := ff.mem m
      rw [g] at g'; cases g'
      exact nf _ dd
    have offA := off fl3.2.2.1 get3 dat3
    have neL : a ≠ X.env.locals := fun z => offA (List.mem_filterMap.mpr ⟨X.env, List.mem_cons_self, by rw [frm, z]⟩)
    have neF : a ∉ X.fs := fun m => by
      obtain ⟨en, me, q⟩ := List.mem_filterMap.mp m
      exact offA (List.mem_filterMap.mpr ⟨en, List.mem_cons_of_mem _ me, q⟩)
    have S3 := J3.suite get3 dat3 na neL neF
    have ld : ∀ {x : Str} {c : Value} {np : Pos}, Names X x c → ∀ {Q : Value → Shared → Prop} {E : Value → Shared → Prop}, Q c { t with heap := h3 } → wpAny (model X.prog X.w) (X.A.mark (some (.ref a))) (eval (.Name x np) X.env) Q E { t with heap := h3 } := fun {x c np} nm {Q E} q => by
      obtain ⟨g, db, m | ⟨m, v, nn⟩⟩ := nm
      · exact ld_glob (X := X.suite a ((a, oe3) :: (X.pn ++ pins))) S3 g m q db
      · exact ld_blt (X := X.suite a ((a, oe3) :: (X.pn ++ pins))) S3 g m v q nn db
    have LT : PySem.W.Looks (model X.prog X.w) h3 (typeOf (.ref a)) cls := fun A Q E s k q => wpAny_typeOf_ref (k _ _ get3) (by rw [zc3.1]; exact q)
    have go : ∀ {l : List ExceptHandler} {r : List Clause}, ClausesOk X l r → wClauses X.K D r cls d σ' H' → wpAny (model X.prog X.w) X.A (handleBy (.ref a) X.env l) (SP X pins D) X.xe { t with heap := h3 } := by
      intro l r ck
      induction ck with
      | stop => intro w; exact False.elim w
      | @as_ x n i c ts b₀ suite np pp l r hi hln hc hsu t2 ih =>
        intro w
        obtain ⟨b, eb, yes, no⟩ := w
        refine wpAny_handleBy_cons (codeAny_handlers_test ?_) (by intro q; cases q)
        refine ld hc ((PySem.W.exm_one (M := model X.prog X.w) J3.kIn LT eb).here ?_)
        cases b with
        | false =>
          show wpAny _ X.A (handleBy (.ref a) X.env l) _ _ _
          exact ih (no rfl)
        | true =>
          refine codeAny_handlers_suite_as ?_
          refine HandSPX.lands_againZ fl3 fun h4 fl4 up4 => ?_
          have J4 : Inv X pins σ' H' { t with heap := h4 } := J1.landed ngr fl4.1 ((up.trans up3).trans up4) os ag
          obtain ⟨oe4, vs4, get4, zc4, dat4⟩ := fl4.there
          have S4 := J4.suite get4 dat4 na neL neF
          refine store_ok (X := X.suite a ((a, oe4) :: (X.pn ++ pins))) (v := .ref a) S4 nod hi (.inl hln) rfl (fun t5 S5 => ?_) (.inr hln)
          refine wpAny_mono ((hsu a oe4 cls d (X.pn ++ pins) zc4 ⟨_, dat4⟩).run [] t5 _ H' _ S5 (yes rfl a na)) (fun fl t6 sp => ?_) (fun _ _ z => False.elim z)
          have un : ∀ {σ6 : L2.St} {H6 : Hp} {Q : Shared → Prop}, Inv (X.suite a ((a, oe4) :: (X.pn ++ pins))) [] σ6 H6 t6 → (∀ t7, Inv X pins (σ6.set i none) H6 t7 → Q t7) →
              wpAny (model X.prog X.w) X.A (do bindName X.env n .none; unbindBehindTheSuite X.env n pp) (fun _ t7 => Q t7) X.xe t6 := fun {σ6 H6 Q} S6 q => gone_ok (S6.unsuite xok) nod hi hln q
          cases fl with
          | next => exact let ⟨_, _, S6, q6⟩ := sp; un S6 fun t7 J7 => ⟨_, _, J7, q6⟩
          | brk => exact let ⟨_, _, S6, q6⟩ := sp; un S6 fun t7 J7 => ⟨_, _, J7, q6⟩
          | cont => exact let ⟨_, _, S6, q6⟩ := sp; un S6 fun t7 J7 => ⟨_, _, J7, q6⟩
          | ret u => exact let ⟨_, _, _, S6, r6, q6⟩ := sp; un S6 fun t7 J7 => ⟨_, _, _, J7, r6, q6⟩
      | @only x c ts b₀ suite np pp l r hc hsu t2 ih =>
        intro w
        obtain ⟨b, eb, yes, no⟩ := w
        refine wpAny_handleBy_cons (codeAny_handlers_test ?_) (by intro q; cases q)
        refine ld hc ((PySem.W.exm_one (M := model X.prog X.w) J3.kIn LT eb).here ?_)
        cases b with
        | false =>
          show wpAny _ X.A (handleBy (.ref a) X.env l) _ _ _
          exact ih (no rfl)
        | true =>
          refine codeAny_handlers_suite ?_
          refine HandSPX.lands_againZ fl3 fun h4 fl4 up4 => ?_
          have J4 : Inv X pins σ' H' { t with heap := h4 } := J1.landed ngr fl4.1 ((up.trans up3).trans up4) os ag
          obtain ⟨oe4, vs4, get4, zc4, dat4⟩ := fl4.there
          have S4 := J4.suite get4 dat4 na neL neF
          refine wpAny_mono ((hsu a oe4 cls d (X.pn ++ pins) zc4 ⟨_, dat4⟩).run [] _ _ H' _ S4 (yes rfl a na)) (fun fl t6 sp => ?_) (fun _ _ z => False.elim z)
          cases fl with
          | next => exact let ⟨_, _, S6, q6⟩ := sp; ⟨_, _, S6.unsuite xok, q6⟩
          | brk => exact let ⟨_, _, S6, q6⟩ := sp; ⟨_, _, S6.unsuite xok, q6⟩
          | cont => exact let ⟨_, _, S6, q6⟩ := sp; ⟨_, _, S6.unsuite xok, q6⟩
          | ret u => exact let ⟨_, _, _, S6, r6, q6⟩ := sp; ⟨_, _, _, S6.unsuite xok, r6, q6⟩
    exact go cls' wish
  · cases fl with
    | next => exact let ⟨σ', H', J', q⟩ := sp; wpAny_execs_nil ⟨σ', H', J'.ofTry xok, q⟩
    | brk => exact let ⟨σ', H', J', q⟩ := sp; ⟨σ', H', J'.ofTry xok, q⟩
    | cont => exact let ⟨σ', H', J', q⟩ := sp; ⟨σ', H', J'.ofTry xok, q⟩
    | ret u => exact let ⟨v, σ', H', J', r, q⟩ := sp; ⟨v, σ', H', J'.ofTry xok, r, q⟩
end
end TS

/-! ### 11. data: kinds, sizes -/
namespace TS
open PySem PySem.Spec PyProof.Rows L2
def tyN : PyData → String
  | .none => "NoneType"
  | .bool _ => "bool"
  | .int _ => "int"
  | .str _ => "str"
  | .list _ => "list"
  | .tuple _ => "tuple"
  | .dict _ => "dict"
theorem Dt.ty {K : PySem.W.Frag} {H : Hp} : ∀ {v : V} {d : PyData}, Dt K H v d → TyX K H v (.type (tyN d))
  | _, _, .non => .base .non
  | _, _, .bl b => .base (.bl b)
  | _, _, .int i => .base (.int i)
  | _, _, .str x => .base (.str x)
  | _, _, .lst h _ => by
    rcases h with (h | ⟨o, h⟩) | ⟨o, its, n, hk, hc, _⟩
    · exact .base (.lst h)
    · exact .base (.frz h)
    · exact .kList hk hc
  | _, _, .tup h _ => by
    rcases h with (h | ⟨o, h⟩) | ⟨o, its, n, hk, hc, _⟩
    · exact .base (.tup h)
    · exact .fTuple h
    · exact .kTuple hk hc
  | _, _, .dct h _ _ => .base (.dK h)
/-- isinstance of data -/
def isD (c : String) (d : PyData) : Bool := kitB (tyN d) c == some true
def kinds : List String := ["NoneType", "bool", "int", "str", "list", "tuple", "dict"]
theorem tyN_mem (d : PyData) : tyN d ∈ kinds := by cases d <;> simp [tyN, kinds]
section
variable {K : PySem.W.Frag} {d : PyData}
theorem isi_str : PySem.W.kitOne K (.type (tyN d)) (.type "str") = some (isD "str" d) := kit_ty ((by decide +kernel : ∀ n ∈ kinds, kitB n "str" = some (kitB n "str" == some true)) _ (tyN_mem d))
theorem isi_int : PySem.W.kitOne K (.type (tyN d)) (.type "int") = some (isD "int" d) := kit_ty ((by decide +kernel : ∀ n ∈ kinds, kitB n "int" = some (kitB n "int" == some true)) _ (tyN_mem d))
theorem isi_bool : PySem.W.kitOne K (.type (tyN d)) (.type "bool") = some (isD "bool" d) := kit_ty ((by decide +kernel : ∀ n ∈ kinds, kitB n "bool" = some (kitB n "bool" == some true)) _ (tyN_mem d))
theorem isi_list : PySem.W.kitOne K (.type (tyN d)) (.type "list") = some (isD "list" d) := kit_ty ((by decide +kernel : ∀ n ∈ kinds, kitB n "list" = some (kitB n "list" == some true)) _ (tyN_mem d))
theorem isi_tuple : PySem.W.kitOne K (.type (tyN d)) (.type "tuple") = some (isD "tuple" d) := kit_ty ((by decide +kernel : ∀ n ∈ kinds, kitB n "tuple" = some (kitB n "tuple" == some true)) _ (tyN_mem d))
theorem isi_dict : PySem.W.kitOne K (.type (tyN d)) (.type "dict") = some (isD "dict" d) := kit_ty ((by decide +kernel : ∀ n ∈ kinds, kitB n "dict" = some (kitB n "dict" == some true)) _ (tyN_mem d))
theorem isi_lt : PySem.W.kitAny K (.type (tyN d)) [.type "list", .type "tuple"] = some (isD "list" d || isD "tuple" d) :=
  kitAny_cons isi_list (fun h1 => kitAny_cons isi_tuple (fun h => by rw [h1, h]; rfl) (fun h => by rw [h, Bool.or_true])) (fun h => by rw [h, Bool.true_or])
theorem isD_str (h : isD "str" d = true) : ∃ z, d = .str z := by
  have e := (by decide +kernel : ∀ n ∈ kinds, (kitB n "str" == some true) = true → n = "str") _ (tyN_mem d) h
  cases d <;> first | exact ⟨_, rfl⟩ | exact absurd e (by simp [tyN])
theorem isD_int (h : isD "int" d = true) : (∃ i, d = .int i) ∨ ∃ b, d = .bool b := by
  have e := (by decide +kernel : ∀ n ∈ kinds, (kitB n "int" == some true) = true → n = "int" ∨ n = "bool") _ (tyN_mem d) h
  cases d <;> first | exact .inl ⟨_, rfl⟩ | exact .inr ⟨_, rfl⟩ | exact absurd e (by simp [tyN])
theorem isD_bool (h : isD "bool" d = true) : ∃ b, d = .bool b := by
  have e := (by decide +kernel : ∀ n ∈ kinds, (kitB n "bool" == some true) = true → n = "bool") _ (tyN_mem d) h
  cases d <;> first | exact ⟨_, rfl⟩ | exact absurd e (by simp [tyN])
theorem isD_list (h : isD "list" d = true) : ∃ l, d = .list l := by
  have e := (by decide +kernel : ∀ n ∈ kinds, (kitB n "list" == some true) = true → n = "list") _ (tyN_mem d) h
  cases d <;> first | exact ⟨_, rfl⟩ | exact absurd e (by simp [tyN])
theorem isD_tuple (h : isD "tuple" d = true) : ∃ l, d = .tuple l := by
  have e := (by decide +kernel : ∀ n ∈ kinds, (kitB n "tuple" == some true) = true → n = "tuple") _ (tyN_mem d) h
  cases d <;> first | exact ⟨_, rfl⟩ | exact absurd e (by simp [tyN])
theorem isD_dict (h : isD "dict" d = true) : ∃ l, d = .dict l := by
  have e := (by decide +kernel : ∀ n ∈ kinds, (kitB n "dict" == some true) = true → n = "dict") _ (tyN_mem d) h
  cases d <;> first | exact ⟨_, rfl⟩ | exact absurd e (by simp [tyN])
theorem isD_strs (z : Str) : isD "str" (.str z) = true := by show (kitB "str" "str" == some true) = true; decide +kernel
theorem isD_lists (l : List PyData) : isD "list" (.list l) = true := by show (kitB "list" "list" == some true) = true; decide +kernel
theorem isD_tuples (l : List PyData) : isD "tuple" (.tuple l) = true := by show (kitB "tuple" "tuple" == some true) = true; decide +kernel
theorem isD_ints (i : Int) : isD "int" (.int i) = true := by show (kitB "int" "int" == some true) = true; decide +kernel
theorem isD_intb (i : Int) : isD "bool" (.int i) = false := by show (kitB "int" "bool" == some true) = false; decide +kernel
theorem isD_bools (i : Bool) : isD "bool" (.bool i) = true := by show (kitB "bool" "bool" == some true) = true; decide +kernel
theorem isD_boolt (i : Bool) : isD "int" (.bool i) = true := by show (kitB "bool" "int" == some true) = true; decide +kernel
end
/-! values of data by their kind -/
section
variable {K : PySem.W.Frag} {H : Hp} {v : V}
theorem Dt.str_inv {z : Str} (h : Dt K H v (.str z)) : v = .str z := by cases h; rfl
theorem Dt.int_inv {i : Int} (h : Dt K H v (.int i)) : v = .int i := by cases h; rfl
theorem Dt.bool_inv {i : Bool} (h : Dt K H v (.bool i)) : v = .bl i := by cases h; rfl
theorem Dt.list_inv {l : List PyData} (h : Dt K H v (.list l)) : ∃ a xs, v = .ref a ∧ SqL K H a xs ∧ DtAll K H xs l := by cases h with | lst a b => exact ⟨_, _, rfl, a, b⟩
theorem Dt.tup_inv {l : List PyData} (h : Dt K H v (.tuple l)) : ∃ a xs, v = .ref a ∧ SqT K H a xs ∧ DtAll K H xs l := by cases h with | tup a b => exact ⟨_, _, rfl, a, b⟩
theorem DtAll.get : ∀ {xs : List V} {ds : List PyData} {i : Nat} {x : V}, DtAll K H xs ds → xs[i]? = some x → ∃ d, ds[i]? = some d ∧ Dt K H x d
  | _, _, 0, _, .cons h _, e => by cases e; exact ⟨_, rfl, h⟩
  | _ :: _, _ :: _, i + 1, _, .cons _ t, e => DtAll.get (i := i) t (by simpa using e)
  | _, _, _, _, .nil, e => by simp at e
theorem DtAll.getD : ∀ {xs : List V} {ds : List PyData} {i : Nat} {d : PyData}, DtAll K H xs ds → ds[i]? = some d → ∃ x, xs[i]? = some x ∧ Dt K H x d
  | _, _, 0, _, .cons h _, e => by cases e; exact ⟨_, rfl, h⟩
  | _ :: _, _ :: _, i + 1, _, .cons _ t, e => DtAll.getD (i := i) t (by simpa using e)
  | _, _, _, _, .nil, e => by simp at e
theorem DtAll.append : ∀ {xs ys : List V} {ds es : List PyData}, DtAll K H xs ds → DtAll K H ys es → DtAll K H (xs ++ ys) (ds ++ es)
  | _, _, _, _, .nil, b => b
  | _, _, _, _, .cons h t, b => .cons h (DtAll.append t b)
theorem DtAll.set : ∀ {xs : List V} {ds : List PyData} {i : Nat} {x : V} {d : PyData}, DtAll K H xs ds → Dt K H x d → DtAll K H (xs.set i x) (ds.set i d)
  | _, _, _, _, _, .nil, _ => .nil
  | _, _, 0, _, _, .cons _ t, h => .cons h t
  | _, _, i + 1, _, _, .cons a t, h => .cons a (DtAll.set t h)
theorem DtAll.of : ∀ {xs : List V} {ds : List PyData}, xs.length = ds.length → (∀ (i : Nat) (x : V) (d : PyData), xs[i]? = some x → ds[i]? = some d → Dt K H x d) → DtAll K H xs ds
  | [], [], _, _ => .nil
  | x :: xs, d :: ds, h, q => .cons (q 0 x d rfl rfl) (DtAll.of (by simpa using h) fun i y e a b => q (i + 1) y e a b)
end
/-! ### sizes: what may be shown -/
structure Shows (d : PyData) : Prop where
  ok : d.showable = true
  deep : d.depth ≤ 40
  size : d.shown.length ≤ sizeLine
def smB (k n : Nat) (d : PyData) : Bool := d.showable && decide (d.depth ≤ k) && d.leavesShort 40 && decide (d.weight ≤ n)
def Sm (k n : Nat) (d : PyData) : Prop := smB k n d = true
theorem Sm.of {k n : Nat} {d : PyData} (a : d.showable = true) (b : d.depth ≤ k) (c : d.leavesShort 40 = true) (e : d.weight ≤ n) : Sm k n d := by
  unfold Sm smB
  rw [a, decide_eq_true b, c, decide_eq_true e]; rfl
theorem Sm.to {k n : Nat} {d : PyData} (h : Sm k n d) : d.showable = true ∧ d.depth ≤ k ∧ d.leavesShort 40 = true ∧ d.weight ≤ n := by
  unfold Sm smB at h
  simp only [Bool.and_eq_true, decide_eq_true_eq] at h
  exact ⟨h.1.1.1, h.1.1.2, h.1.2, h.2⟩
theorem Sm.mono {k n k' n' : Nat} {d : PyData} (h : Sm k n d) (hk : k ≤ k') (hn : n ≤ n') : Sm k' n' d := let ⟨a, b, c, e⟩ := h.to; .of a (by omega) c (by omega)
theorem Sm.shows {k n : Nat} {d : PyData} (h : Sm k n d) (hk : k ≤ 40 := by decide) (hn : n ≤ 300000 := by decide) : Shows d := by
  obtain ⟨a, b, c, e⟩ := h.to
  refine ⟨a, by omega, Nat.le_trans (PyData.shown_le 40 (by decide) d c) ?_⟩
  rw [sizeLine_eq]
  omega
theorem Sm.str {z : Str} {k n : Nat} (hc : ∀ c ∈ z.cps.toList, c < 16 ^ 8) (h : z.length ≤ n) : Sm k n (.str z) := by
  refine .of rfl (Nat.zero_le _) ?_ h
  unfold PyData.leavesShort
  rw [List.all_eq_true]
  exact fun c m => decide_eq_true (hc c m)
section
variable {k n : Nat}
theorem all_show : ∀ {ds : List PyData}, (∀ d ∈ ds, d.showable = true) → PyData.showableAll ds = true
  | [], _ => rfl
  | d :: r, h => by unfold PyData.showableAll; rw [h d (by simp), all_show fun x m => h x (List.mem_cons_of_mem _ m)]; rfl
theorem all_deep : ∀ {ds : List PyData}, (∀ d ∈ ds, d.depth ≤ k) → PyData.depthAll ds ≤ k
  | [], _ => Nat.zero_le _
  | d :: r, h => by
    unfold PyData.depthAll
    have a := h d (by simp)
    have b := all_deep fun x m => h x (List.mem_cons_of_mem d m)
    omega
theorem all_short : ∀ {ds : List PyData}, (∀ d ∈ ds, d.leavesShort 40 = true) → PyData.leavesShortAll 40 ds = true
  | [], _ => rfl
  | d :: r, h => by unfold PyData.leavesShortAll; rw [h d (by simp), all_short fun x m => h x (List.mem_cons_of_mem _ m)]; rfl
theorem all_weight : ∀ {ds : List PyData}, (∀ d ∈ ds, d.weight ≤ n) → PyData.weightAll ds ≤ ds.length * (n + 1)
  | [], _ => Nat.zero_le _
  | d :: r, h => by
    unfold PyData.weightAll
    have a := h d (by simp)
    have b := all_weight fun x m => h x (List.mem_cons_of_mem d m)
    rw [List.length_cons, Nat.succ_mul]
    omega
theorem Sm.list {ds : List PyData} {m : Nat} (h : ∀ d ∈ ds, Sm k n d) (hl : ds.length ≤ m) : Sm (k + 1) (m * (n + 1)) (.list ds) := by
  refine .of (by unfold PyData.showable; exact all_show fun d m => (h d m).to.1) (by unfold PyData.depth; have := all_deep fun d m => (h d m).to.2.1; omega) (by unfold PyData.leavesShort; exact all_short fun d m => (h d m).to.2.2.1) ?_
  unfold PyData.weight
  exact Nat.le_trans (all_weight fun d m => (h d m).to.2.2.2) (Nat.mul_le_mul_right _ hl)
theorem Sm.tuple {ds : List PyData} {m : Nat} (h : ∀ d ∈ ds, Sm k n d) (hl : ds.length ≤ m) : Sm (k + 1) (m * (n + 1)) (.tuple ds) := by
  refine .of (by unfold PyData.showable; exact all_show fun d m => (h d m).to.1) (by unfold PyData.depth; have := all_deep fun d m => (h d m).to.2.1; omega) (by unfold PyData.leavesShort; exact all_short fun d m => (h d m).to.2.2.1) ?_
  unfold PyData.weight
  exact Nat.le_trans (all_weight fun d m => (h d m).to.2.2.2) (Nat.mul_le_mul_right _ hl)
end
/-! small numbers -/
theorem Sm.int {i : Int} {k : Nat} (h0 : -100 ≤ i) (h1 : i ≤ 150) : Sm k 10 (.int i) := by
  have all : ∀ j ∈ (List.range 251).map (fun n : Nat => (n : Int) - 100), smB 0 10 (.int j) = true := by decide +kernel
  have m : i ∈ (List.range 251).map (fun n : Nat => (n : Int) - 100) := List.mem_map.mpr ⟨(i + 100).toNat, List.mem_range.mpr (by omega), by omega⟩
  exact Sm.mono (k := 0) (all i m) (Nat.zero_le _) (Nat.le_refl _)
theorem Sm.bool {b : Bool} {k n : Nat} : Sm k n (.bool b) := .of rfl (Nat.zero_le _) rfl (Nat.zero_le _)
theorem Sm.none {k n : Nat} : Sm k n .none := .of rfl (Nat.zero_le _) rfl (Nat.zero_le _)
end TS

/-! ### 12. walks over lists or tuples; comprehensions whose turns only add to the heap -/
namespace TS
open PySem PySem.Spec PyProof.Rows L2
theorem yes {σ : L2.St} {H : Hp} {C : Bool → Hp → Prop} (h : C true H) : tYes σ H C := h
/-- a list or a tuple -/
def Sq (K : PySem.W.Frag) (H : Hp) (a : Addr) (xs : List V) : Prop := SqL K H a xs ∨ SqT K H a xs
theorem Sq.same {K : PySem.W.Frag} {H H' : Hp} {a : Addr} {xs : List V} (e : Same H H') (h : Sq K H a xs) : Sq K H' a xs := h.imp (fun q => e.seq q) (fun q => SqT.same e q)
theorem Sq.len {K : PySem.W.Frag} {H : Hp} {a : Addr} {xs : List V} (h : Sq K H a xs) : LenV K (.ref a) H xs.length := h.imp (fun q => ⟨xs, q, rfl⟩) (fun q => ⟨xs, q, rfl⟩)
theorem seq_it {K : PySem.W.Frag} {H : Hp} {a : Addr} {xs : List V} {i : Nat} {σ : L2.St} {R : It → Hp → Prop} (hv : σ[i]? = some (some (.ref a))) (h : Sq K H a xs)
    (k : ∀ (J : It) (G : Hp → Prop), Walk J xs.length G (YAt xs) → (∀ H', Same H H' → G H') → R J H) : iList K (tVar i) σ H R ∨ iTup K (tVar i) σ H R := by
  rcases h with h | h
  · exact .inl ⟨_, hv, a, rfl, ⟨xs, h⟩, k _ _ walk_list fun _ e => e.seq h⟩
  · exact .inr ⟨_, hv, a, rfl, ⟨xs, h⟩, k _ _ walk_tup fun _ e => SqT.same e h⟩
theorem seq_it0 {K : PySem.W.Frag} {H0 H : Hp} {a : Addr} {xs : List V} {i : Nat} {σ : L2.St} {R : It → Hp → Prop} (hv : σ[i]? = some (some (.ref a))) (h : Sq K H0 a xs) (s : Same H0 H)
    (k : ∀ (J : It) (G : Hp → Prop), Walk J xs.length G (YAt xs) → (∀ H', Same H0 H' → G H') → R J H) : iList K (tVar i) σ H R ∨ iTup K (tVar i) σ H R := by
  rcases h with h | h
  · exact .inl ⟨_, hv, a, rfl, ⟨xs, s.seq h⟩, k _ _ walk_list fun _ e => e.seq h⟩
  · exact .inr ⟨_, hv, a, rfl, ⟨xs, SqT.same s h⟩, k _ _ walk_tup fun _ e => SqT.same e h⟩
section
variable {J : It} {n : Nat} {G : Hp → Prop} {Y : Nat → Hp → V → Hp → Prop}
theorem scK_it {P : Program} {w : World} (wk : Walk J n G Y) {g : TG} {tt : TT} {te : TE} {vs : List Nat} {σ : L2.St} {H1 : Hp} {D : Addr} {Qd : Hp → Prop} (Pv : Nat → Hp → Prop) (h0 : Pv 0 (upd H1 D (SetK P w D (fun _ => false) 0))) (hG : ∀ i H, i ≤ n → Pv i H → G H)
    (hs : ∀ i x H H', i < n → Pv i H → Y i H x H' → g x (wipe σ vs) H' fun σ2 H2 => wipe σ2 vs = wipe σ vs ∧ tt σ2 H2 fun b H3 =>
      if b = true then te σ2 H3 fun y H4 => ∃ (k : Key) (S : Key → Bool) (m : Nat), y = kV k ∧ H4 D = some (SetK P w D S m) ∧ m + 1 < scanBound ∧ Pv (i + 1) (upd H4 D (SetK P w D (fun j => S j || decide (j = k)) (if S k = true then m else m + 1))) else Pv (i + 1) H3) (hd : ∀ H, Pv n H → Qd H) :
    ∃ W : Nat → Nat → Hp → Prop, (∃ m, W 0 m (upd H1 D (SetK P w D (fun _ => false) 0))) ∧ ∀ i m H, W i m H →
      (J.stop i H ∧ Qd H) ∨ (J.go i H ∧ ∃ Nx : Hp → Prop, (∀ H', Nx H' → ∃ m', m' < m ∧ W (i + 1) m' H') ∧ ∀ x H', J.yld i H x H' → g x (wipe σ vs) H' fun σ2 H2 => wipe σ2 vs = wipe σ vs ∧ tt σ2 H2 fun b H3 =>
        if b = true then te σ2 H3 fun y H4 => ∃ (k : Key) (S : Key → Bool) (m : Nat), y = kV k ∧ H4 D = some (SetK P w D S m) ∧ m + 1 < scanBound ∧ Nx (upd H4 D (SetK P w D (fun j => S j || decide (j = k)) (if S k = true then m else m + 1))) else Nx H3) := by
  refine ⟨fun i m H => m = n - i ∧ i ≤ n ∧ Pv i H, ⟨n, by simp, Nat.zero_le _, h0⟩, ?_⟩
  rintro i m H ⟨rfl, hi, p⟩
  have q := hG i H hi p
  rcases Nat.lt_or_ge i n with hlt | hge
  · exact .inr ⟨wk.goes i H hlt q, Pv (i + 1), fun G' p' => ⟨n - (i + 1), by omega, rfl, hlt, p'⟩, fun x G' y => hs i x H G' hlt p (wk.yields i H x G' hlt q y)⟩
  · obtain rfl : i = n := by omega
    exact .inl ⟨wk.stops H q, hd H p⟩
theorem dc_it (wk : Walk J n G Y) {g : TG} {tt : TT} {tk tv : TE} {vs : List Nat} {σ : L2.St} {H1 : Hp} {D : Addr} {Qd : Hp → Prop} (Pv : Nat → Hp → Prop) (h0 : Pv 0 (upd H1 D (.dK []))) (hG : ∀ i H, i ≤ n → Pv i H → G H)
    (hs : ∀ i x H H', i < n → Pv i H → Y i H x H' → g x (wipe σ vs) H' fun σ2 H2 => wipe σ2 vs = wipe σ vs ∧ tt σ2 H2 fun b H3 =>
      if b = true then tk σ2 H3 fun y H4 => tv σ2 H4 fun z H5 => ∃ kvs k, y = kV k ∧ H5 D = some (.dK kvs) ∧ kvs.length < sizeLine ∧ Pv (i + 1) (upd H5 D (.dK (putK kvs k z))) else Pv (i + 1) H3) (hd : ∀ H, Pv n H → Qd H) :
    ∃ W : Nat → Nat → Hp → Prop, (∃ m, W 0 m (upd H1 D (.dK []))) ∧ ∀ i m H, W i m H →
      (J.stop i H ∧ Qd H) ∨ (J.go i H ∧ ∃ Nx : Hp → Prop, (∀ H', Nx H' → ∃ m', m' < m ∧ W (i + 1) m' H') ∧ ∀ x H', J.yld i H x H' → g x (wipe σ vs) H' fun σ2 H2 => wipe σ2 vs = wipe σ vs ∧ tt σ2 H2 fun b H3 =>
        if b = true then tk σ2 H3 fun y H4 => tv σ2 H4 fun z H5 => ∃ kvs k, y = kV k ∧ H5 D = some (.dK kvs) ∧ kvs.length < sizeLine ∧ Nx (upd H5 D (.dK (putK kvs k z))) else Nx H3) := by
  refine ⟨fun i m H => m = n - i ∧ i ≤ n ∧ Pv i H, ⟨n, by simp, Nat.zero_le _, h0⟩, ?_⟩
  rintro i m H ⟨rfl, hi, p⟩
  have q := hG i H hi p
  rcases Nat.lt_or_ge i n with hlt | hge
  · exact .inr ⟨wk.goes i H hlt q, Pv (i + 1), fun G' p' => ⟨n - (i + 1), by omega, rfl, hlt, p'⟩, fun x G' y => hs i x H G' hlt p (wk.yields i H x G' hlt q y)⟩
  · obtain rfl : i = n := by omega
    exact .inl ⟨wk.stops H q, hd H p⟩
end
/-- a list comprehension without tests, each turn adding to the heap alone: the i-th value is f i -/
theorem lc_same {J : It} {G : Hp → Prop} {xs : List V} (wk : Walk J xs.length G (YAt xs)) {H H1 : Hp} {te : TE} {vs : List Nat} {j : Nat} {σ : L2.St} {D : Addr} {Qd : Hp → Prop} (hG : ∀ H', Same H H' → G H') (hl : xs.length ≤ 100000) (s1 : Same H H1) (hD : H1 D = none) (f : Nat → V)
    (hw : ∀ x, wipe ((wipe σ vs).set j (some x)) vs = wipe σ vs)
    (step : ∀ i x H2 (C : VK), xs[i]? = some x → Same H H2 → (∀ H4, Same H2 H4 → C (f i) H4) → te ((wipe σ vs).set j (some x)) H2 C)
    (fin : ∀ H2, Same H1 H2 → H2 D = some (.lst ((List.range xs.length).map f)) → Qd H2) :
    ∃ W : Nat → Nat → Hp → Prop, (∃ m, W 0 m (upd H1 D (.lst []))) ∧ ∀ i m H, W i m H →
      (J.stop i H ∧ Qd H) ∨ (J.go i H ∧ ∃ Nx : Hp → Prop, (∀ H', Nx H' → ∃ m', m' < m ∧ W (i + 1) m' H') ∧ ∀ x H', J.yld i H x H' → gName j x (wipe σ vs) H' fun σ2 H2 => wipe σ2 vs = wipe σ vs ∧ tYes σ2 H2 fun b H3 =>
        if b = true then te σ2 H3 fun y H4 => ∃ acc, H4 D = some (.lst acc) ∧ acc.length < sizeLine ∧ Nx (upd H4 D (.lst (acc ++ [y]))) else Nx H3) := by
  refine lc_it wk (fun i G' => Same H1 G' ∧ G' D = some (.lst ((List.range i).map f))) ⟨Same.new (Same.refl _) hD, upd_same ..⟩ (fun i G' _ p => hG G' (s1.trans p.1)) ?_ (fun G' p => fin G' p.1 p.2)
  rintro i x H2 H3 hi ⟨p1, p2⟩ ⟨rfl, hx⟩
  refine ⟨hw x, ?_⟩
  unfold tYes
  dsimp only
  rw [if_pos rfl]
  refine step i x _ _ hx (s1.trans p1) fun H4 s4 => ⟨_, s4 _ _ p2, ?_, ?_, ?_⟩
  · rw [List.length_map, List.length_range]
    exact Nat.lt_of_lt_of_le hi (Nat.le_trans hl (by decide))
  · intro a o e
    rw [upd_ne (ne_of_none e hD)]
    exact s4 _ _ (p1 _ _ e)
  · rw [upd_same, List.range_succ, List.map_append]
    rfl
theorem pg_tupK {X : Cx} {K : PySem.W.Frag} {es : List Expr} {k : Nat} {t : TGs} {n : Nat} {pos : Pos} (hK : X.K = K) (hc : X.calm = true) (h : PGs X es t)
    (hn : (assignEach es X.env).length = n := by rfl) (hst : (assignEach es X.env).findIdx? (·.1) = none := by rfl) : PG X (.Tuple es k pos) (gTup K n t) := by subst hK; exact pg_tup hc h hn hst
/-- enumerate over a list or a tuple -/
theorem enum_it {K : PySem.W.Frag} {H : Hp} {a : Addr} {xs : List V} {i : Nat} {σ : L2.St} {R : It → Hp → Prop} (hv : σ[i]? = some (some (.ref a))) (h : Sq K H a xs)
    (k : ∀ (J : It) (G : Hp → Prop), Walk J xs.length G (YPair (fun i => some (.int (i : Nat))) (fun i => xs[i]?)) → (∀ H', Same H H' → G H') → R J H) : iEnum K (tCons (tVar i) tNil) σ H R ∨ iEnumT K (tCons (tVar i) tNil) σ H R := by
  rcases h with h | h
  · exact .inl ⟨_, hv, a, xs, rfl, h, k _ _ walk_enum fun _ e => e.seq h⟩
  · exact .inr ⟨_, hv, a, xs, rfl, h, k _ _ walk_enumT fun _ e => SqT.same e h⟩
end TS

/-! ### 13. draws: what a def of a bag gives back; comprehensions and loops that draw -/
namespace TS
open PySem PySem.Spec PyProof.Rows L2
theorem atI_in {α : Type} {xs : List α} {i : Int} (h0 : 0 ≤ i) (h1 : i < xs.length) : ∃ v, atI xs i = some v ∧ v ∈ xs := by
  have hj : i.toNat < xs.length := by omega
  refine ⟨xs[i.toNat], ?_, List.getElem_mem _⟩
  have e : ((i.toNat : Nat) : Int) = i := by omega
  have h := atI_nat (xs := xs) (List.getElem?_eq_getElem hj)
  rw [e] at h
  exact h
/-- the bag b drawn of (n draws left at least), all else as it was -/
structure Dr (b : Addr) (n : Nat) (H H' : Hp) : Prop where
  fx : Fx b H H'
  bag : ∃ o, H' b = some o ∧ Bag n o
theorem Dr.trans {b : Addr} {m n : Nat} {H H1 H2 : Hp} (x : Dr b m H H1) (y : Dr b n H1 H2) : Dr b n H H2 := ⟨x.fx.trans y.fx, y.bag⟩
theorem Dr.refl {b : Addr} {n : Nat} {H : Hp} (h : ∃ o, H b = some o ∧ Bag n o) : Dr b n H H := ⟨Fx.refl b H, h⟩
theorem Dr.mono {b : Addr} {m n : Nat} {H H' : Hp} (x : Dr b m H H') (h : n ≤ m) : Dr b n H H' := ⟨x.fx, let ⟨o, e, g⟩ := x.bag; ⟨o, e, g.mono h⟩⟩
theorem Dr.same {b : Addr} {n : Nat} {H H' : Hp} (e : Same H H') (h : ∃ o, H b = some o ∧ Bag n o) : Dr b n H H' := ⟨Fx.of e, let ⟨o, q, g⟩ := h; ⟨o, e _ _ q, g⟩⟩
theorem Dr.draw {b : Addr} {n : Nat} {H : Hp} {o : HO} (g : Bag n o) : Dr b n H (upd H b o) := ⟨(Fx.refl b H).upd, o, upd_same .., g⟩
theorem Dr.new {b p : Addr} {n : Nat} {H H' : Hp} {o : HO} (x : Dr b n H H') (h : H' p = none) : Dr b n H (upd H' p o) := x.trans (.same (Same.new (Same.refl _) h) x.bag)
theorem Dr.ne {b p : Addr} {n : Nat} {H H' : Hp} (x : Dr b n H H') (h : H' p = none) : p ≠ b := fun e => by
  obtain ⟨o, q, _⟩ := x.bag
  rw [e, q] at h
  cases h
theorem Dr.at {b a : Addr} {n : Nat} {H H' : Hp} {o : HO} (x : Dr b n H H') (h : a ≠ b) (e : H a = some o) : H' a = some o := x.fx a o h e
theorem Dr.hide {b : Addr} {n : Nat} {H H' : Hp} (x : Dr b n H H') : Same (hide H b) (hide H' b) := x.fx.hide
theorem Dr.free {b p : Addr} {n : Nat} {H H' : Hp} (x : Dr b n H H') (h : H' p = none) : H p = none := by
  cases e : H p with
  | none => rfl
  | some o =>
    have := x.fx p o (x.ne h) e
    rw [h] at this
    cases this
/-- a draw, by spTake -/
theorem take_of {b : Addr} {n : Nat} {H : Hp} {many : Int} {Q : VK} {E : XK} (h : ∃ o, H b = some o ∧ Bag (n + 1) o) (m0 : 0 < many) (m1 : many < 2 ^ 200) (q : ∀ (d : Int) (H' : Hp), 0 ≤ d → d < many → Dr b n H H' → Q (.int d) H') : spTake [.ref b, .int many] H Q E := by
  obtain ⟨o, e, g⟩ := h
  exact ⟨b, o, n, many, rfl, e, g, m0, m1, fun d o' h0 h1 g' => q d _ h0 h1 (.draw g')⟩
/-- the heap without the bag and the list that is being made -/
abbrev hide2 (H : Hp) (b D : Addr) : Hp := hide (hide H b) D
theorem hide2_at {H : Hp} {b D p : Addr} {o : HO} (h1 : p ≠ b) (h2 : p ≠ D) (e : H p = some o) : hide2 H b D p = some o := by show hide (hide H b) D p = some o; rw [hide_ne h2, hide_ne h1]; exact e
theorem hide2_fx {H H' : Hp} {b D : Addr} (h : ∀ a o, a ≠ b → a ≠ D → H a = some o → H' a = some o) : Same (hide2 H b D) (hide2 H' b D) := fun a o e => by
  show hide (hide H' b) D a = some o
  replace e : hide (hide H b) D a = some o := e
  have h2 : a ≠ D := fun z => by rw [z, hide_self] at e; cases e
  rw [hide_ne h2] at e ⊢
  have h1 : a ≠ b := fun z => by rw [z, hide_self] at e; cases e
  rw [hide_ne h1] at e ⊢
  exact h a o h1 h2 e
/-- a comprehension without tests, each turn drawing at most k times -/
theorem lc_draw {J : It} {m : Nat} {G : Hp → Prop} {f : Nat → V} (wk : Walk J m G (YFn f)) {b : Addr} {k N : Nat} {H1 : Hp} {te : TE} {vs : List Nat} {j : Nat} {σ : L2.St} {D : Addr} {Qd : Hp → Prop} (F : Nat → Hp → V → Prop)
    (hF : ∀ i H H' v, Same H H' → F i H v → F i H' v) (hG : ∀ H', Fx b H1 H' → G H') (hm : m ≤ 100000) (hD : H1 D = none) (hb : ∃ o, H1 b = some o ∧ Bag (N + k * m) o) (hw : ∀ x, wipe ((wipe σ vs).set j (some x)) vs = wipe σ vs)
    (step : ∀ (i n : Nat) (H2 : Hp) (C : VK), i < m → Fx b H1 H2 → (∃ o, H2 b = some o ∧ Bag (n + k) o) → (∃ o, H2 D = some o) → (∀ v H4, F i (hide2 H4 b D) v → Dr b n H2 H4 → C v H4) → te ((wipe σ vs).set j (some (f i))) H2 C)
    (fin : ∀ H2 (xs : List V), Dr b N H1 H2 → xs.length = m → (∀ (i : Nat) (v : V), xs[i]? = some v → F i (hide2 H2 b D) v) → H2 D = some (.lst xs) → D ≠ b → Qd H2) :
    ∃ W : Nat → Nat → Hp → Prop, (∃ m, W 0 m (upd H1 D (.lst []))) ∧ ∀ i m H, W i m H →
      (J.stop i H ∧ Qd H) ∨ (J.go i H ∧ ∃ Nx : Hp → Prop, (∀ H', Nx H' → ∃ m', m' < m ∧ W (i + 1) m' H') ∧ ∀ x H', J.yld i H x H' → gName j x (wipe σ vs) H' fun σ2 H2 => wipe σ2 vs = wipe σ vs ∧ tYes σ2 H2 fun b H3 =>
        if b = true then te σ2 H3 fun y H4 => ∃ acc, H4 D = some (.lst acc) ∧ acc.length < sizeLine ∧ Nx (upd H4 D (.lst (acc ++ [y]))) else Nx H3) := by
  have neD : D ≠ b := fun e => by
    obtain ⟨o, q, _⟩ := hb
    rw [e, q] at hD
    cases hD
  refine lc_it wk (fun i G' => Dr b (N + k * (m - i)) H1 G' ∧ ∃ xs : List V, xs.length = i ∧ (∀ (i : Nat) (v : V), xs[i]? = some v → F i (hide2 G' b D) v) ∧ G' D = some (.lst xs)) ⟨.same (Same.new (Same.refl _) hD) hb, [], rfl, fun i v e => by simp at e, upd_same ..⟩ (fun i G' _ p => hG G' p.1.fx) ?_ ?_
  · rintro i x H2 H3 hi ⟨dr, xs, hl, hx, eD⟩ ⟨rfl, rfl⟩
    refine ⟨hw _, yes (iteT ?_)⟩
    have ek : N + k * (m - (i + 1)) + k = N + k * (m - i) := by
      have : m - i = m - (i + 1) + 1 := by omega
      rw [this, Nat.mul_add, Nat.mul_one, Nat.add_assoc]
    refine step i (N + k * (m - (i + 1))) _ _ hi dr.fx (by rw [ek]; exact dr.bag) ⟨_, eD⟩ fun v H4 hv d4 => ⟨xs, d4.at neD eD, by rw [hl]; exact Nat.lt_of_lt_of_le hi (Nat.le_trans hm (by decide)), ⟨fun a o ha e => ?_, ?_⟩, xs ++ [v], by simp [hl], fun i2 v2 e2 => ?_, upd_same ..⟩
    · rw [upd_ne (ne_of_none e hD)]
      exact (dr.trans d4).fx a o ha e
    · obtain ⟨o, q, g⟩ := d4.bag
      exact ⟨o, by rw [upd_ne neD.symm]; exact q, g⟩
    · have s5 : Same (hide2 H4 b D) (hide2 (upd H4 D (.lst (xs ++ [v]))) b D) := hide2_fx fun a o _ h e => by rw [upd_ne h]; exact e
      rcases Nat.lt_or_ge i2 i with z | z
      · rw [List.getElem?_append_left (by omega)] at e2
        exact hF _ _ _ _ ((hide2_fx fun a o h _ e => d4.fx a o h e).trans s5) (hx i2 v2 e2)
      · rw [List.getElem?_append_right (by omega)] at e2
        have e3 : i2 = i := by
          rcases Nat.lt_or_ge i i2 with y | y
          · rw [List.getElem?_eq_none (by simp; omega)] at e2
            cases e2
          · omega
        rw [e3, hl, Nat.sub_self] at e2
        cases e2
        rw [e3]
        exact hF _ _ _ _ s5 hv
  · rintro G' ⟨dr, xs, hl, hx, eD⟩
    exact fin G' xs (by rw [Nat.sub_self] at dr; exact dr) hl hx eD neD
/-- a comprehension without tests that only adds to the heap, by any walk -/
theorem lc_sameF {J : It} {n : Nat} {G : Hp → Prop} {g : Nat → V} (wk : Walk J n G (YFn g)) {H : Hp} {te : TE} {vs : List Nat} {j : Nat} {σ : L2.St} {D : Addr} {Qd : Hp → Prop} (hG : ∀ H', Same H H' → G H') (hl : n ≤ 100000) (hD : H D = none) (f : Nat → V)
    (hw : ∀ x, wipe ((wipe σ vs).set j (some x)) vs = wipe σ vs)
    (step : ∀ i H2 (C : VK), i < n → Same H H2 → (∀ H4, Same H2 H4 → C (f i) H4) → te ((wipe σ vs).set j (some (g i))) H2 C)
    (fin : ∀ H2, Same H H2 → H2 D = some (.lst ((List.range n).map f)) → Qd H2) :
    ∃ W : Nat → Nat → Hp → Prop, (∃ m, W 0 m (upd H D (.lst []))) ∧ ∀ i m H, W i m H →
      (J.stop i H ∧ Qd H) ∨ (J.go i H ∧ ∃ Nx : Hp → Prop, (∀ H', Nx H' → ∃ m', m' < m ∧ W (i + 1) m' H') ∧ ∀ x H', J.yld i H x H' → gName j x (wipe σ vs) H' fun σ2 H2 => wipe σ2 vs = wipe σ vs ∧ tYes σ2 H2 fun b H3 =>
        if b = true then te σ2 H3 fun y H4 => ∃ acc, H4 D = some (.lst acc) ∧ acc.length < sizeLine ∧ Nx (upd H4 D (.lst (acc ++ [y]))) else Nx H3) := by
  refine lc_it wk (fun i G' => Same H G' ∧ G' D = some (.lst ((List.range i).map f))) ⟨Same.new (Same.refl _) hD, upd_same ..⟩ (fun i G' _ p => hG G' p.1) ?_ (fun G' p => fin G' p.1 p.2)
  rintro i x H2 H3 hi ⟨p1, p2⟩ ⟨rfl, rfl⟩
  refine ⟨hw _, yes (iteT (step i _ _ hi p1 fun H4 s4 => ⟨_, s4 _ _ p2, ?_, ?_, ?_⟩))⟩
  · rw [List.length_map, List.length_range]
    exact Nat.lt_of_lt_of_le hi (Nat.le_trans hl (by decide))
  · intro a o e
    rw [upd_ne (ne_of_none e hD)]
    exact s4 _ _ (p1 _ _ e)
  · rw [upd_same, List.range_succ, List.map_append]
    rfl
theorem walk_at {J : It} {n : Nat} {G : Hp → Prop} {xs : List V} (w : Walk J n G (YAt xs)) : Walk J n G (YFn fun i => xs.getD i .non) :=
  w.mono (fun _ h => h) fun i H x H' _ _ y => ⟨y.1, by show x = xs.getD i .non; rw [List.getD_eq_getElem?_getD, y.2]; rfl⟩
theorem same_of {H G : Hp} {p : Addr} {o : HO} (h : L2.upd H p o = G) (hp : H p = none) : Same H G := h ▸ Same.new (Same.refl _) hp
theorem at_of {H G : Hp} {p : Addr} {o : HO} (h : L2.upd H p o = G) : G p = some o := h ▸ upd_same ..
theorem dr_of {H G : Hp} {b : Addr} {n : Nat} {o : HO} (h : L2.upd H b o = G) (g : Bag n o) : Dr b n H G := h ▸ Dr.draw g
/-- list == [] -/
def rEqNil (K : PySem.W.Frag) : R2 := fun x y H Q => ∃ a p xs, x = .ref a ∧ y = .ref p ∧ SqL K H a xs ∧ SqL K H p [] ∧ Q (.bl xs.isEmpty) H
theorem op_eqNil {X : Cx} {K : PySem.W.Frag} (hu : X.A.units + 64 < cLine) (hK : X.K = K := by rfl) : OpR X (compareOp .Eq) (rEqNil K) := by
  subst hK
  intro pins s σ H x y v u Q J rx ry h
  obtain ⟨a, p, xs, rfl, rfl, ha, hp, q⟩ := h
  cases rx
  cases ry
  obtain ⟨its, rv, l1, _⟩ := J.list ha
  obtain ⟨its2, rv2, l2, _⟩ := J.list hp
  cases rv2
  have hl := rv.length
  cases xs with
  | nil =>
    cases rv
    exact SeqAt.eq_listAt (e := fun _ => true) l1.isList l2.isList rfl (by omega) (fun i h => by simp at h) ⟨.bl true, H, J.kept fun _ _ z => z, rfl, q⟩
  | cons x r =>
    exact SeqAt.eq_list_lengthsAt l1.isList l2.isList (by simp; intro z; rw [z] at hl; simp at hl) (by omega) ⟨.bl false, H, J.kept fun _ _ z => z, rfl, q⟩
end TS

/-! ### what the head tells of classes -/
namespace TS
open PySem PySem.Spec PyProof.Rows L2
theorem meth_of {K : PySem.W.Frag} {fn : List He.DefD} (c1 : fn.all (fun d => d.ok K) = true) (c2 : fn.map (fun d => He.fnW K d.at_) = fn.map He.DefD.val)
    {C m q : Str} {st : Stmt} (i : Nat) (hi : fn[i]? = some (methD C m q st)) : DefM K (He.ma K (He.ga K C) m) m q st := by
  have e1 : He.fnW K (methD C m q st).at_ = (methD C m q st).val := by
    have h1 := congrArg (·[i]?) c2
    simp only [List.getElem?_map, hi, Option.map_some] at h1
    exact Option.some.inj h1
  obtain ⟨fd, F⟩ := He.DefD.funD e1 (List.all_eq_true.mp c1 _ (List.mem_of_getElem? hi))
  exact ⟨fd, F⟩
def famB (K : PySem.W.Frag) (x : Str) : Bool := (PySem.W.readsIn K (He.ga K x) (.type "type") && He.eqO (PySem.W.specialIn K (.ref (He.ga K x)) "__getattribute__") (some (some (.builtin "type.__getattribute__")))) &&
  (match PySem.W.findCls K (.ref (He.ga K x)) (.type "type") "__init__" with
    | some (.val (.builtin s)) => decide (s = "ValueError.__init__")
    | _ => false)
theorem famB_ok {K : PySem.W.Frag} {x : Str} (h : famB K x = true) : FamV K (He.ga K x) := by
  obtain ⟨h1, h2⟩ := He.ba h
  obtain ⟨h3, h4⟩ := He.ba h1
  refine ⟨⟨h3, He.eqO_ok h4⟩, ?_⟩
  split at h2
  · rename_i s e
    rw [e, of_decide_eq_true h2]
  · cases h2
def oexB (K : PySem.W.Frag) (C : Addr) : Bool := match K.lookup C with
  | some ⟨c, dd, .cls cd, sl⟩ => (match cd.mro, sl.toList with
    | .ref C' :: bm, [k0, k1, k2, k3, some (.builtin n), k5] => decide (c = .type "type") && (decide (C' = C) && (decide (n = "ValueError.__new__") && (cd.hasDict && (!cd.hasDel && PySem.HandSPX.refsVE bm))))
    | _, _ => false)
  | _ => false
theorem oexB_ok {K : PySem.W.Frag} {C : Addr} (h : oexB K C = true) : ∃ nm q N bs bm sn sub ab col dd k0 k1 k2 k3 k5, K.lookup C = some (excClassObj nm q C N bs bm true sn sub ab col dd k0 k1 k2 k3 k5 "ValueError.__new__") ∧ PySem.HandSPX.refsVE bm = true := by
  unfold oexB at h
  split at h
  · rename_i c dd cd sl ho
    split at h
    · rename_i C' bm k0 k1 k2 k3 n k5 hm hs
      obtain ⟨a1, h⟩ := He.ba h
      obtain ⟨a2, h⟩ := He.ba h
      obtain ⟨a3, h⟩ := He.ba h
      obtain ⟨a4, h⟩ := He.ba h
      obtain ⟨a5, a6⟩ := He.ba h
      have a1 := of_decide_eq_true a1
      have a2 := of_decide_eq_true a2
      have a3 := of_decide_eq_true a3
      obtain ⟨nm, bs, mro, ns, qn, hd, sn, sb, ab, col, del⟩ := cd
      dsimp only at hm a4 a5
      have a5 : del = false := by simpa using a5
      subst a1 a2 a3 hm a4 a5
      have hsl : sl = #[k0, k1, k2, k3, some (.builtin "ValueError.__new__"), k5] := by
        obtain ⟨l⟩ := sl
        simp only at hs
        rw [hs]
      subst hsl
      exact ⟨nm, qn, ns, bs, bm, sn, sb, ab, col, dd, k0, k1, k2, k3, k5, ho, a6⟩
    · cases h
  · cases h
def ownB (K : PySem.W.Frag) (x f : Str) : Bool := (oexB K (He.ga K x) && (He.eqO (PySem.W.findIn K (.ref (He.ga K x)) "__setattr__") (some (some (.builtin "object.__setattr__"))) && (decide (PySem.W.subIn K (.ref (He.ga K x)) (.type "BaseException") = some true) &&
  (decide (PySem.W.typeIn K (.ref (He.ga K x)) = some (.type "type")) && PySem.W.keepIn K (.ref (He.ga K x)))))) && ((xfB K (He.ga K x) && He.eqO (PySem.W.findIn K (.ref (He.ga K x)) "__init__") (some (some (.ref (He.ma K (He.ga K x) "__init__"))))) &&
  (decide (PySem.W.typeIn K (.ref (He.ma K (He.ga K x) "__init__")) = some (.type "function")) && He.eqO (PySem.W.findIn K (.ref (He.ga K x)) f) (some none)))
theorem ownB_ok {K : PySem.W.Frag} {x f : Str} (h : ownB K x f = true) : OwnV K (He.ga K x) f := by
  obtain ⟨h1, h⟩ := He.ba h
  obtain ⟨a1, h1⟩ := He.ba h1
  obtain ⟨a2, h1⟩ := He.ba h1
  obtain ⟨a3, h1⟩ := He.ba h1
  obtain ⟨a4, a5⟩ := He.ba h1
  obtain ⟨h2, h⟩ := He.ba h
  obtain ⟨b1, b2⟩ := He.ba h2
  obtain ⟨b3, b4⟩ := He.ba h
  exact ⟨⟨oexB_ok a1, He.eqO_ok a2, of_decide_eq_true a3, of_decide_eq_true a4, a5⟩, xfB_ok b1, He.eqO_ok b2, of_decide_eq_true b3, He.eqO_ok b4⟩
end TS

/-! ### 14. keyword-only parameters with defaults, no other defaults -/
namespace TS
open PySem PySem.Spec PyProof.Rows L2
def DefK (K : PySem.W.Frag) (mg : Str → Option Value) (x : Str) (st : Stmt) (kws : List (Str × V)) : Prop := ∃ f fd, FunD K x x (defArgs st) (defBody st) (defScope st) [] kws f fd ∧ mg x = some (.ref f)
/-- a call with n positional values and the keywords ks keeps sp, the lacking ones being ms -/
def PromK (P : Program) (w : World) (K : PySem.W.Frag) (mg : Str → Option Value) (base : Heap) (k : Nat) (x : Str) (ps : List Str) (sp : Sp) (n : Nat) (ks : List Str) (gV : List V → List V → List V) : Prop :=
  ∃ f fd g, FnOk P w K mg base CX0 k f fd ps sp ∧ mg x = some (.ref f) ∧ PySem.W.keepIn K (.ref f) = true ∧ KBn K fd ps n ks g gV
theorem kbinds0 {K : PySem.W.Frag} {x qual : Str} {params : Arguments} {body : List Stmt} {scope : Scope} {kws : List (Str × V)} {f : Addr} {fd : FuncData} {ps : List Str} (F : FunD K x qual params body scope [] kws f fd) (n : Nat) (ks : List Str) (ms : List (Str × V))
    (g : {α : Type} → List α → List α → List α → List α) (hk : kws ≠ []) (hms : ∀ q ∈ ms, q ∈ kws) (hrel : ∀ {vs mz zs : List V} {us mv ws : List Value}, Vals vs us → Vals mz mv → Vals zs ws → Vals (g vs mz zs) (g us mv ws))
    (h : ∀ (D : Addr) (doc pm : Value) (an : Option Addr) (cdv ct : Value) (us mv ws : List Value), us.length = n → mv.length = ms.length → ws.length = ks.length →
      KwChain D ((ms.map (·.1)).zip mv) (bindArgs (PySem.W.fnOf x qual params body scope .none (.ref D) doc pm an cdv ct) ⟨us, ks.zip ws⟩) (ps.zip (g us mv ws))) :
    ∃ mv : List Value, KBn K fd ps n ks (fun us ws => g us mv ws) (fun vs zs => g vs (ms.map (·.2)) zs) := by
  obtain ⟨oc, od, dV, kV, doc, pm, an, cdv, ct, osl, rfl, lk, hcd, dd, kk⟩ := F.ex
  rcases dd with ⟨_, rfl⟩ | ⟨e, _⟩
  · rcases kk with e | ⟨D, rfl, hq⟩
    · exact absurd e hk
    · obtain ⟨mv, l, r, a⟩ := kwd_vals (ms := ms) fun q m => hq q (hms q m)
      exact ⟨mv, ⟨fun s us ws X l1 l2 => BindsTo.of_looks fun M => KwChain.looks X a (h D doc pm an cdv ct us mv ws l1 l l2), fun r1 r2 => hrel r1 r r2⟩⟩
  · exact absurd rfl e
section
variable {X : Cx} {k n : Nat} {ps ks : List Str} {sp : Sp} {x : Str} {p pos : Pos} {e : Expr} {es : List Expr} {kws : List Keyword} {t tk : TA} {gV : List V → List V → List V}
theorem pe_pcK (pr : PromK X.prog X.w X.K X.mg X.base k x ps sp n ks gV) (hr : Room k X.A) (hg : Gl X x) (ha : PA X (e :: es) t) (hkw : PK X kws tk) (hall : (backToKw pos (keywordEach kws X.env)).all (·.1.isSome) = true := by rfl)
    (hks : (backToKw pos (keywordEach kws X.env)).filterMap (·.1) = ks := by rfl) (hdb : (x == ("__debug__" : Str)) = false := by decide) (he : starEach (e :: es) X.env = (false, eval e X.env) :: starEach es X.env := by rfl)
    (hpl : ((backTo pos (starEach (e :: es) X.env)).any (·.1) || (backToKw pos (keywordEach kws X.env)).any (·.1.isNone)) = false := by rfl) :
    PE X (.Call (.Name x p) (e :: es) kws pos) (tCallN n ks.length sp gV E0 t tk) := by
  obtain ⟨f, fd, g, F, m, kp, b⟩ := pr
  exact pe_callN F hr hg m kp b pass0 ha hkw hall hks hdb he hpl
end
section
variable {P : Program} {w : World} {K : PySem.W.Frag} {mg : Str → Option Value} {base : Heap} {N ps ks : List Str} {k n : Nat} {sp : Sp} {x : Str} {st : Stmt} {kws ms : List (Str × V)}
theorem promK_mk (D : DefK K mg x st kws) (S : FnScope N ps (defScope st)) (len : ∀ vs H Q E, sp vs H Q E → vs.length = ps.length) (ms : List (Str × V)) (g : {α : Type} → List α → List α → List α → List α) (hk : kws ≠ []) (hms : ∀ q ∈ ms, q ∈ kws)
    (hrel : ∀ {vs mz zs : List V} {us mv ws : List Value}, Vals vs us → Vals mz mv → Vals zs ws → Vals (g vs mz zs) (g us mv ws))
    (h : ∀ (D : Addr) (doc pm : Value) (an : Option Addr) (cdv ct : Value) (us mv ws : List Value), us.length = n → mv.length = ms.length → ws.length = ks.length →
      KwChain D ((ms.map (·.1)).zip mv) (bindArgs (PySem.W.fnOf x x (defArgs st) (defBody st) (defScope st) .none (.ref D) doc pm an cdv ct) ⟨us, ks.zip ws⟩) (ps.zip (g us mv ws)))
    (body : ∀ (f : Addr) (cdv : Value) (A : Around) (outer : List Env) (s : Shared) (H : Hp) (vs : List V) (Q : VK) (E : XK), Room k (A.deeper (envOfC x (defScope st) s.heap.objs.size f cdv)) → sp vs H Q E →
      ∃ t, PSs (cxOf CX0 P w K mg base N x (defScope st) f cdv A outer s H E).nox (defBody st) t ∧ t { nx := fun _ H' => Q .non H', rt := Q } (start N vs) H) : PromK P w K mg base (k + 1) x ps sp n ks (fun vs zs => g vs (ms.map (·.2)) zs) := by
  obtain ⟨f, fd, F, m⟩ := D
  obtain ⟨mv, b⟩ := kbinds0 F n ks ms g hk hms hrel h
  refine ⟨f, fd, _, F.ok S len fun cdv A outer s H vs Q E hr h => ?_, m, F.kp, b⟩
  obtain ⟨t, h1, h2⟩ := body f cdv A outer s H vs Q E hr h
  exact ⟨t, h1.nox, h2⟩
end
/-- its datum -/
def defKD (x : Str) (st : Stmt) (kwd : List (Str × He.Dv)) : He.DefD := ⟨(x, none), x, x, defArgs st, defBody st, defScope st, [], kwd⟩
theorem defK_of {K : PySem.W.Frag} {h : Heap} {mg : Str → Option Value} {fn : List He.DefD} (X : K.In h) (G : h.Ns mainGlobals mg) (c1 : fn.all (fun d => d.ok K) = true) (c2 : fn.map (fun d => He.fnW K d.at_) = fn.map He.DefD.val)
    {x : Str} {st : Stmt} {kwd : List (Str × He.Dv)} (i : Nat) (hi : fn[i]? = some (defKD x st kwd)) (hg : (He.Fa.glo x).ok K = true) : DefK K mg x st (kwd.map fun q => (q.1, q.2.v K)) := by
  have e1 : He.fnW K (defKD x st kwd).at_ = (defKD x st kwd).val := by
    have h1 := congrArg (·[i]?) c2
    simp only [List.getElem?_map, hi, Option.map_some] at h1
    exact Option.some.inj h1
  obtain ⟨fd, F⟩ := He.DefD.funD e1 (List.all_eq_true.mp c1 _ (List.mem_of_getElem? hi))
  exact ⟨He.ga K x, fd, F, He.glo_ok X G hg⟩
end TS

/-! ### 15. C(e, .., k = v, ..) of an own class whose __init__ may raise -/
namespace TS
open PySem PySem.Spec PyProof.Rows L2
/-- a method with keyword-only parameters, called with n positional values (self among them) and the keywords ks -/
def PromAK (P : Program) (w : World) (K : PySem.W.Frag) (mg : Str → Option Value) (base : Heap) (k : Nat) (f : Addr) (ps : List Str) (sp : Sp) (n : Nat) (ks : List Str) (gV : List V → List V → List V) : Prop :=
  ∃ fd g, FnOk P w K mg base (L2.CX P w) k f fd ps sp ∧ KBn K fd ps n ks g gV
def tMakeSK (C : Addr) (n m : Nat) (sp : Sp) (gV : List V → List V → List V) (W : WX) (t tk : TA) : TE := fun σ H Q => t σ H fun vs H1 => tk σ H1 fun zs H2 => vs.length = n ∧ zs.length = m ∧ ∀ x dx, H2 x = none → H2 dx = none → dx ≠ x →
  sp (gV (.ref x :: vs) zs) (upd (upd H2 dx (.own x)) x (.ins C dx [])) (fun v H3 => v = .non ∧ Q (.ref x) H3) (WE W σ)
section
variable {X : Cx} {k n : Nat} {f C : Addr} {ps ks : List Str} {sp : Sp} {W : WX} {x : Str} {p pos : Pos} {e : Expr} {es : List Expr} {kws : List Keyword} {t tk : TA} {gV : List V → List V → List V}
theorem make_runSK {fd : FuncData} {g : List Value → List Value → List Value} {pins : List (Addr × Obj)} {σ : L2.St} {H : Hp} {s : Shared} {Q : VK} {us ws : List Value} {vs zs : List V} (M : Mk X.K C f) (F : FnOk X.prog X.w X.K X.mg X.base (L2.CX X.prog X.w) k f fd ps sp)
    (hr : Room (k + 1) X.A) (hb : KBn X.K fd ps (n + 1) ks g gV) (tkn : Takes X W) (J : Inv X pins σ H s) (r : Vals vs us) (rz : Vals zs ws) (l1 : vs.length = n) (l2 : zs.length = ks.length)
    (h : ∀ x dx, H x = none → H dx = none → dx ≠ x → sp (gV (.ref x :: vs) zs) (upd (upd H dx (.own x)) x (.ins C dx [])) (fun v H2 => v = .non ∧ Q (.ref x) H2) (WE W σ)) :
    wpAny (model X.prog X.w) X.A (call (.ref C) us (ks.zip ws)) (EP X pins σ Q) X.xe s := by
  have q := h (s.heap.objs.size + 1) s.heap.objs.size (J.hok.fresh (Nat.le_succ _)) (J.hok.fresh (Nat.le_refl _)) (Nat.ne_of_lt (Nat.lt_succ_self _))
  have J2 := Inv.made (C := C) J
  have r1 : Vals (V.ref (s.heap.objs.size + 1) :: vs) (Value.ref (s.heap.objs.size + 1) :: us) := .cons rfl r
  have n1 : (Value.ref (s.heap.objs.size + 1) :: us).length = n + 1 := by rw [List.length_cons, ← r.length, l1]
  refine wpAny_call (make_map (f := f) J.kIn M.makes M.init (beq_iff_eq.mp M.fn) (codeAny_mono (F.run _ X.stack _ _ ⟨Value.ref (s.heap.objs.size + 1) :: us, ks.zip ws⟩ (g (Value.ref (s.heap.objs.size + 1) :: us) ws) _ _ (WE W σ) (hr.make C us (ks.zip ws))
    (J2.env0.make C us (ks.zip ws)) (hb.to _ (Value.ref (s.heap.objs.size + 1) :: us) ws J2.kIn n1 (rz.length.symm.trans l2)) (hb.rel r1 rz) q) fun o t z => ?_))
  match o, z with
  | .error e, z => exact passAt tkn σ pins _ _ e t J2 z
  | .ok (.ret u), z =>
    obtain ⟨v, G, J3, rv, ev, q3⟩ := J2.after z
    subst ev
    exact ⟨rv, ⟨V.ref (s.heap.objs.size + 1), G, J3, rfl, q3⟩⟩
theorem pe_makeSK (M : Mk X.K C f) (pr : PromAK X.prog X.w X.K X.mg X.base k f ps sp (n + 1) ks gV) (tkn : Takes X W) (hr : Room (k + 1) X.A) (hg : Gl X x) (hm : X.mg x = some (.ref C)) (ha : PA X (e :: es) t) (hkw : PK X kws tk)
    (hall : (backToKw pos (keywordEach kws X.env)).all (·.1.isSome) = true := by rfl) (hks : (backToKw pos (keywordEach kws X.env)).filterMap (·.1) = ks := by rfl) (hdb : (x == ("__debug__" : Str)) = false := by decide)
    (he : starEach (e :: es) X.env = (false, eval e X.env) :: starEach es X.env := by rfl) (hpl : ((backTo pos (starEach (e :: es) X.env)).any (·.1) || (backToKw pos (keywordEach kws X.env)).any (·.1.isNone)) = false := by rfl) :
    PE X (.Call (.Name x p) (e :: es) kws pos) (tMakeSK C n ks.length sp gV W t tk) := by
  obtain ⟨fd, g, F, b⟩ := pr
  refine ⟨fun pins s σ H Q J h => wpAny_Call_Name_kw (ld_glob J hg hm ?_ hdb)⟩
  refine PySem.W.callWith_KW (h₀ := X.base) J.ok.mod.kin M.kp hall (thn (ha.run pos pins s σ H _ J h) fun us s1 ⟨vs, H1, J1, r, q⟩ => ?_) hpl he
  refine thn (hkw.run pos pins s1 σ H1 _ J1 q) fun ws s2 ⟨zs, H2, J2, rz, l1, l2, q2⟩ => ⟨J2.kIn, ?_⟩
  rw [hks]
  exact make_runSK M F hr b tkn J2 r rz l1 l2 q2
end
theorem units1 {k : Nat} {A : Around} (r : Room k A) : A.units + 1 < cLine := by
  have := r.units
  omega
/-! methods by their promises -/
section
variable {X : Cx} {k : Nat} {f C : Addr} {ps : List Str} {sp : Sp} {m : Str} {pos apos : Pos} {e o : Expr} {es : List Expr} {ta : TE} {t : TA}
theorem pe_pm {pl : Sem Bool} (c : Cls X.K C) (hm : Meth X.K C m f) (pr : PromA CX0 X.prog X.w X.K X.mg X.base k f ps sp) (hr : Room k X.A) (he : PE X o ta) (ha : PA X (e :: es) t)
    (hst : starEach (e :: es) X.env = (false, eval e X.env) :: starEach es X.env := by rfl) (hpl : (backTo pos (starEach es X.env)).any (·.1) = false := by rfl)
    (ht : eval (.Call (.Attribute o m apos) (e :: es) [] pos) X.env = (do
      let ov ← eval o X.env
      standAt apos.atName
      let (f, first) ← holding [ov] (getMethod ov m pl)
      callWith pos f first (backTo pos (starEach (e :: es) X.env)) (backToKw pos (keywordEach [] X.env))) := by rfl) : PE X (.Call (.Attribute o m apos) (e :: es) [] pos) (tMeth C m sp [] E0 ta t) := by
  obtain ⟨fd, F, b⟩ := pr
  exact pe_meth he c hm F hr b .nil pass0 ha hst hpl ht
theorem pe_pm0 {pl : Sem Bool} (c : Cls X.K C) (hm : Meth X.K C m f) (pr : PromA CX0 X.prog X.w X.K X.mg X.base k f ps sp) (hr : Room k X.A) (he : PE X o ta)
    (ht : eval (.Call (.Attribute o m apos) [] [] pos) X.env = (do
      let ov ← eval o X.env
      standAt apos.atName
      let (f, first) ← holding [ov] (getMethod ov m pl)
      callWith pos f first (backTo pos (starEach [] X.env)) (backToKw pos (keywordEach [] X.env))) := by rfl) : PE X (.Call (.Attribute o m apos) [] [] pos) (tMeth C m sp [] E0 ta tNil) := by
  obtain ⟨fd, F, b⟩ := pr
  exact pe_meth0 he c hm F hr b .nil pass0 ht
end
end TS

/-! ### 16. isinstance by an own class -/
namespace TS
open PySem PySem.Spec PyProof.Rows L2
structure IsC (K : PySem.W.Frag) (C : Addr) : Prop where
  cl : Cls K C
  ha : PySem.W.findIn K (.ref C) "__class__" = some (some (.builtin "object.__class__"))
  hn : PySem.W.specialIn K (.builtin "object.__class__") "__get__" = some (some (.builtin "getset_descriptor.__get__"))
  ht : PySem.W.takesIn K (.builtin "object.__class__") = some true
  hm : PySem.W.mroIn K C (.type "object") = some true
  yes : PySem.W.kitOne K (.ref C) (.ref C) = some true
  no : ∀ n ∈ kinds, PySem.W.kitOne K (.type n) (.ref C) = some false
def isCB (K : PySem.W.Frag) (C : Addr) : Bool := (He.eqO (PySem.W.findIn K (.ref C) "__class__") (some (some (.builtin "object.__class__"))) && (He.eqO (PySem.W.specialIn K (.builtin "object.__class__") "__get__") (some (some (.builtin "getset_descriptor.__get__"))) &&
  (decide (PySem.W.takesIn K (.builtin "object.__class__") = some true) && decide (PySem.W.mroIn K C (.type "object") = some true)))) && (decide (PySem.W.kitOne K (.ref C) (.ref C) = some true) && kinds.all fun n => decide (PySem.W.kitOne K (.type n) (.ref C) = some false))
theorem isCB_ok {K : PySem.W.Frag} {C : Addr} (c : Cls K C) (h : isCB K C = true) : IsC K C := by
  obtain ⟨h1, h2⟩ := He.ba h
  obtain ⟨a1, h1⟩ := He.ba h1
  obtain ⟨a2, h1⟩ := He.ba h1
  obtain ⟨a3, a4⟩ := He.ba h1
  obtain ⟨b1, b2⟩ := He.ba h2
  exact ⟨c, He.eqO_ok a1, He.eqO_ok a2, of_decide_eq_true a3, of_decide_eq_true a4, of_decide_eq_true b1, fun n m => of_decide_eq_true (List.all_eq_true.mp b2 n m)⟩
theorem IsC.ty {K : PySem.W.Frag} {C : Addr} (T : IsC K C) {H : Hp} {a dx : Addr} {fs : List (Str × V)} (e : H a = some (.ins C dx fs)) : TyX K H (.ref a) (.ref C) := .base (.ins e T.cl T.ha T.hn T.ht T.hm)
theorem IsC.data {K : PySem.W.Frag} {C : Addr} (T : IsC K C) (d : PyData) : PySem.W.kitOne K (.type (tyN d)) (.ref C) = some false := T.no _ (tyN_mem d)
end TS

/-! ### 17. terms as trees: signs in reading order, where parts end -/
namespace TS
open PySem
mutual
inductive Tm where
  | mk (s : Str) (ts : Fs)
inductive Fs where
  | nil
  | cons (t : Tm) (r : Fs)
end
def Fs.len : Fs → Nat
  | .nil => 0
  | .cons _ r => r.len + 1
mutual
def Tm.size : Tm → Nat
  | .mk _ ts => ts.size + 1
def Fs.size : Fs → Nat
  | .nil => 0
  | .cons t r => t.size + r.size
end
mutual
def Tm.flat : Tm → List Str
  | .mk s ts => s :: ts.flat
def Fs.flat : Fs → List Str
  | .nil => []
  | .cons t r => t.flat ++ r.flat
end
/-! each sign with its places -/
mutual
def Tm.wf (pl : Str → Option Nat) : Tm → Prop
  | .mk s ts => pl s = some ts.len ∧ ts.wf pl
def Fs.wf (pl : Str → Option Nat) : Fs → Prop
  | .nil => True
  | .cons t r => t.wf pl ∧ r.wf pl
end
/-! where each part ends, from the place o on -/
mutual
def Tm.ends (o : Nat) : Tm → List Nat
  | .mk s ts => (o + ts.size + 1) :: ts.ends (o + 1)
def Fs.ends (o : Nat) : Fs → List Nat
  | .nil => []
  | .cons t r => t.ends o ++ r.ends (o + t.size)
end
mutual
theorem Tm.flat_len : ∀ t : Tm, t.flat.length = t.size
  | .mk s ts => by
    unfold Tm.flat Tm.size
    rw [List.length_cons, Fs.flat_len ts]
theorem Fs.flat_len : ∀ r : Fs, r.flat.length = r.size
  | .nil => rfl
  | .cons t r => by
    unfold Fs.flat Fs.size
    rw [List.length_append, Tm.flat_len t, Fs.flat_len r]
end
mutual
theorem Tm.ends_len : ∀ (t : Tm) (o : Nat), (t.ends o).length = t.size
  | .mk s ts, o => by
    unfold Tm.ends Tm.size
    rw [List.length_cons, Fs.ends_len ts]
theorem Fs.ends_len : ∀ (r : Fs) (o : Nat), (r.ends o).length = r.size
  | .nil, _ => rfl
  | .cons t r, o => by
    unfold Fs.ends Fs.size
    rw [List.length_append, Tm.ends_len t, Fs.ends_len r]
end
theorem Tm.size_pos (t : Tm) : 0 < t.size := by
  cases t with
  | mk s ts => unfold Tm.size; omega
/-! how a list of signs is read: k parts lack -/
/-- what is lacking behind the signs; none: a sign that is none, or a sign behind the end -/
def lacks (pl : Str → Option Nat) : Nat → List Str → Option Nat
  | k, [] => some k
  | 0, _ :: _ => none
  | k + 1, z :: r => (pl z).bind fun p => lacks pl (k + p) r
def Fs.app : Fs → Fs → Fs
  | .nil, b => b
  | .cons t r, b => .cons t (r.app b)
theorem Fs.split : ∀ (r : Fs) (p k : Nat), r.len = k + p → ∃ a b : Fs, r = a.app b ∧ a.len = p ∧ b.len = k
  | r, 0, k, h => ⟨.nil, r, rfl, rfl, by simpa using h⟩
  | .nil, p + 1, k, h => by simp [Fs.len] at h
  | .cons t r, p + 1, k, h => by
    obtain ⟨a, b, e, ha, hb⟩ := Fs.split r p k (by simp only [Fs.len] at h; omega)
    exact ⟨.cons t a, b, by rw [e]; rfl, by simp only [Fs.len]; omega, hb⟩
theorem Fs.flat_app : ∀ a b : Fs, (a.app b).flat = a.flat ++ b.flat
  | .nil, b => rfl
  | .cons t r, b => by
    show t.flat ++ (r.app b).flat = (t.flat ++ r.flat) ++ b.flat
    rw [Fs.flat_app r b, List.append_assoc]
theorem Fs.wf_app {pl : Str → Option Nat} : ∀ {a b : Fs}, (a.app b).wf pl → a.wf pl ∧ b.wf pl
  | .nil, b, h => ⟨by simp [Fs.wf], h⟩
  | .cons t r, b, h => by
    have h' : t.wf pl ∧ (r.app b).wf pl := h
    obtain ⟨h1, h2⟩ := Fs.wf_app h'.2
    exact ⟨⟨h'.1, h1⟩, h2⟩
/-- signs that are read to their end are k trees -/
theorem parse {pl : Str → Option Nat} : ∀ (zs : List Str) (k : Nat), lacks pl k zs = some 0 → ∃ r : Fs, r.flat = zs ∧ r.wf pl ∧ r.len = k
  | [], k, h => by
    have e : k = 0 := by simpa [lacks] using h
    subst e
    exact ⟨.nil, rfl, by simp [Fs.wf], rfl⟩
  | z :: r, 0, h => by simp [lacks] at h
  | z :: r, k + 1, h => by
    cases hp : pl z with
    | none => simp [lacks, hp] at h
    | some p =>
      have h' : lacks pl (k + p) r = some 0 := by simpa [lacks, hp] using h
      obtain ⟨f, hf, hw, hl⟩ := parse r (k + p) h'
      obtain ⟨a, b, rfl, ha, hb⟩ := f.split p k hl
      obtain ⟨w1, w2⟩ := Fs.wf_app hw
      refine ⟨.cons (.mk z a) b, ?_, ⟨⟨by rw [ha]; exact hp, w1⟩, w2⟩, by simp only [Fs.len]; omega⟩
      show (z :: a.flat) ++ b.flat = z :: r
      rw [← hf, Fs.flat_app]
      rfl
/-! jumps from part to part -/
def jump (E : List Nat) : Nat → Nat → Option Nat
  | 0, s => some s
  | n + 1, s => (E[s]?).bind (jump E n)
theorem Tm.ends_head (t : Tm) (o : Nat) : (t.ends o)[0]? = some (o + t.size) := by
  cases t with
  | mk s ts =>
    unfold Tm.ends Tm.size
    rw [List.getElem?_cons_zero, Nat.add_assoc]
theorem Fs.jumps : ∀ (r : Fs) (o : Nat) (E : List Nat), (∀ i, i < r.size → E[o + i]? = (r.ends o)[i]?) → jump E r.len o = some (o + r.size)
  | .nil, o, E, _ => by simp [Fs.len, Fs.size, jump]
  | .cons t r, o, E, h => by
    have tp := t.size_pos
    have h0 : E[o]? = some (o + t.size) := by
      have := h 0 (by unfold Fs.size; omega)
      rw [Nat.add_zero] at this
      rw [this]
      show (t.ends o ++ r.ends (o + t.size))[0]? = _
      rw [List.getElem?_append_left (by rw [Tm.ends_len]; exact tp), Tm.ends_head]
    show (E[o]?).bind (jump E r.len) = _
    rw [h0]
    show jump E r.len (o + t.size) = _
    rw [Fs.jumps r (o + t.size) E fun i hi => ?_]
    · show _ = some (o + (t.size + r.size))
      rw [Nat.add_assoc]
    · have := h (t.size + i) (by unfold Fs.size; omega)
      rw [← Nat.add_assoc] at this
      rw [this]
      show (t.ends o ++ r.ends (o + t.size))[t.size + i]? = _
      rw [List.getElem?_append_right (by rw [Tm.ends_len]; omega), Tm.ends_len, Nat.add_sub_cancel_left]
/-- what stands at a place: its sign, its parts behind it, where it ends -/
structure NodeAt (pl : Str → Option Nat) (flat : List Str) (ends : List Nat) (o i : Nat) (s : Str) (ts : Fs) : Prop where
  sign : flat[i]? = some s
  wf : ts.wf pl
  many : pl s = some ts.len
  stop : ends[i]? = some (o + i + 1 + ts.size)
  in_ : i + ts.size < flat.length
  kids : ∀ j, j < ts.size → ends[i + 1 + j]? = (ts.ends (o + i + 1))[j]?
mutual
theorem Tm.node {pl : Str → Option Nat} : ∀ (t : Tm) (o i : Nat), t.wf pl → i < t.size → ∃ s ts, NodeAt pl t.flat (t.ends o) o i s ts
  | .mk s ts, o, 0, hw, _ => by
    have hw' : pl s = some ts.len ∧ ts.wf pl := hw
    refine ⟨s, ts, rfl, hw'.2, hw'.1, ?_, ?_, fun j hj => ?_⟩
    · show some (o + ts.size + 1) = _
      congr 1
      omega
    · rw [Tm.flat_len]
      show 0 + ts.size < ts.size + 1
      omega
    · show ((o + ts.size + 1) :: ts.ends (o + 1))[0 + 1 + j]? = _
      rw [show 0 + 1 + j = j + 1 by omega, List.getElem?_cons_succ]
  | .mk s ts, o, i + 1, hw, hi => by
    have hw' : pl s = some ts.len ∧ ts.wf pl := hw
    obtain ⟨s2, ts2, n⟩ := Fs.node ts (o + 1) i hw'.2 (by unfold Tm.size at hi; omega)
    refine ⟨s2, ts2, ?_, n.wf, n.many, ?_, ?_, fun j hj => ?_⟩
    · show (s :: ts.flat)[i + 1]? = _
      rw [List.getElem?_cons_succ]; exact n.sign
    · show ((o + ts.size + 1) :: ts.ends (o + 1))[i + 1]? = _
      rw [List.getElem?_cons_succ, n.stop]
      congr 1
      omega
    · have := n.in_
      rw [Fs.flat_len] at this
      rw [Tm.flat_len]
      show i + 1 + ts2.size < ts.size + 1
      omega
    · show ((o + ts.size + 1) :: ts.ends (o + 1))[i + 1 + 1 + j]? = _
      rw [show i + 1 + 1 + j = (i + 1 + j) + 1 by omega, List.getElem?_cons_succ, n.kids j hj, show o + 1 + i + 1 = o + (i + 1) + 1 by omega]
theorem Fs.node {pl : Str → Option Nat} : ∀ (r : Fs) (o i : Nat), r.wf pl → i < r.size → ∃ s ts, NodeAt pl r.flat (r.ends o) o i s ts
  | .nil, o, i, _, hi => absurd hi (by unfold Fs.size; omega)
  | .cons t r, o, i, hw, hi => by
    have hw' : t.wf pl ∧ r.wf pl := hw
    by_cases h : i < t.size
    · obtain ⟨s, ts, n⟩ := Tm.node t o i hw'.1 h
      have ni := n.in_
      rw [Tm.flat_len] at ni
      refine ⟨s, ts, ?_, n.wf, n.many, ?_, ?_, fun j hj => ?_⟩
      · show (t.flat ++ r.flat)[i]? = _
        rw [List.getElem?_append_left (by rw [Tm.flat_len]; exact h)]; exact n.sign
      · show (t.ends o ++ r.ends (o + t.size))[i]? = _
        rw [List.getElem?_append_left (by rw [Tm.ends_len]; exact h)]; exact n.stop
      · rw [Fs.flat_len]
        show i + ts.size < t.size + r.size
        omega
      · show (t.ends o ++ r.ends (o + t.size))[i + 1 + j]? = _
        rw [List.getElem?_append_left (by rw [Tm.ends_len]; omega)]; exact n.kids j hj
    · have hi2 : i - t.size < r.size := by unfold Fs.size at hi; omega
      obtain ⟨s, ts, n⟩ := Fs.node r (o + t.size) (i - t.size) hw'.2 hi2
      have ni := n.in_
      rw [Fs.flat_len] at ni
      refine ⟨s, ts, ?_, n.wf, n.many, ?_, ?_, fun j hj => ?_⟩
      · show (t.flat ++ r.flat)[i]? = _
        rw [List.getElem?_append_right (by rw [Tm.flat_len]; omega), Tm.flat_len]; exact n.sign
      · show (t.ends o ++ r.ends (o + t.size))[i]? = _
        rw [List.getElem?_append_right (by rw [Tm.ends_len]; omega), Tm.ends_len, n.stop]
        congr 1
        omega
      · rw [Fs.flat_len]
        show i + ts.size < t.size + r.size
        omega
      · show (t.ends o ++ r.ends (o + t.size))[i + 1 + j]? = _
        rw [List.getElem?_append_right (by rw [Tm.ends_len]; omega), Tm.ends_len, show i + 1 + j - t.size = i - t.size + 1 + j by omega, n.kids j hj, show o + t.size + (i - t.size) + 1 = o + i + 1 by omega]
end
theorem Fs.len_size : ∀ r : Fs, r.len ≤ r.size
  | .nil => Nat.le_refl _
  | .cons t r => by
    have h1 := t.size_pos
    have h2 := Fs.len_size r
    show r.len + 1 ≤ t.size + r.size
    omega
end TS

/-! ### 18. methods with keyword-only parameters -/
namespace TS
open PySem PySem.Spec PyProof.Rows L2
def DefMK (K : PySem.W.Frag) (f : Addr) (m qual : Str) (st : Stmt) (kws : List (Str × V)) : Prop := ∃ fd, FunD K m qual (defArgs st) (defBody st) (defScope st) [] kws f fd
section
variable {P : Program} {w : World} {K : PySem.W.Frag} {mg : Str → Option Value} {base : Heap} {N ps ks : List Str} {k n : Nat} {sp : Sp} {m qual : Str} {st : Stmt} {f : Addr} {kws : List (Str × V)}
theorem methXK_mk (D : DefMK K f m qual st kws) (S : FnScope N ps (defScope st)) (len : ∀ vs H Q E, sp vs H Q E → vs.length = ps.length)
    (body : ∀ (cdv : Value) (A : Around) (outer : List Env) (s : Shared) (H : Hp) (vs : List V) (Q : VK) (E : XK), Room k (A.deeper (envOfC qual (defScope st) s.heap.objs.size f cdv)) → sp vs H Q E →
      ∃ t, PSs (cxOf (L2.CX P w) P w K mg base N qual (defScope st) f cdv A outer s H E) (defBody st) t ∧ t { nx := fun _ G => Q .non G, rt := Q } (start N vs) H) :
    ∃ fd, FunD K m qual (defArgs st) (defBody st) (defScope st) [] kws f fd ∧ FnOk P w K mg base (L2.CX P w) (k + 1) f fd ps sp := by
  obtain ⟨fd, F⟩ := D
  exact ⟨fd, F, F.ok S len body⟩
theorem promAK_of (h : ∃ fd, FunD K m qual (defArgs st) (defBody st) (defScope st) [] kws f fd ∧ FnOk P w K mg base (L2.CX P w) k f fd ps sp) (n : Nat) (ks : List Str) (ms : List (Str × V)) (g : {α : Type} → List α → List α → List α → List α) (hk : kws ≠ []) (hms : ∀ q ∈ ms, q ∈ kws)
    (hrel : ∀ {vs mz zs : List V} {us mv ws : List Value}, Vals vs us → Vals mz mv → Vals zs ws → Vals (g vs mz zs) (g us mv ws))
    (hb : ∀ (D : Addr) (doc pm : Value) (an : Option Addr) (cdv ct : Value) (us mv ws : List Value), us.length = n → mv.length = ms.length → ws.length = ks.length →
      KwChain D ((ms.map (·.1)).zip mv) (bindArgs (PySem.W.fnOf m qual (defArgs st) (defBody st) (defScope st) .none (.ref D) doc pm an cdv ct) ⟨us, ks.zip ws⟩) (ps.zip (g us mv ws))) :
    PromAK P w K mg base k f ps sp n ks (fun vs zs => g vs (ms.map (·.2)) zs) := by
  obtain ⟨fd, F, ok⟩ := h
  obtain ⟨mv, b⟩ := kbinds0 F n ks ms g hk hms hrel hb
  exact ⟨fd, _, ok, b⟩
end
def methKD (C m q : Str) (st : Stmt) (kwd : List (Str × He.Dv)) : He.DefD := ⟨(C, some m), m, q, defArgs st, defBody st, defScope st, [], kwd⟩
theorem methK_of {K : PySem.W.Frag} {fn : List He.DefD} (c1 : fn.all (fun d => d.ok K) = true) (c2 : fn.map (fun d => He.fnW K d.at_) = fn.map He.DefD.val)
    {C m q : Str} {st : Stmt} {kwd : List (Str × He.Dv)} (i : Nat) (hi : fn[i]? = some (methKD C m q st kwd)) : DefMK K (He.ma K (He.ga K C) m) m q st (kwd.map fun q => (q.1, q.2.v K)) := by
  have e1 : He.fnW K (methKD C m q st kwd).at_ = (methKD C m q st kwd).val := by
    have h1 := congrArg (·[i]?) c2
    simp only [List.getElem?_map, hi, Option.map_some] at h1
    exact Option.some.inj h1
  obtain ⟨fd, F⟩ := He.DefD.funD e1 (List.all_eq_true.mp c1 _ (List.mem_of_getElem? hi))
  exact ⟨fd, F⟩
section
variable {X : Cx} {k : Nat} {ps : List Str} {sp : Sp} {x : Str} {p pos : Pos}
/-- a guarded def called with nothing -/
theorem pe_pcG0 (pr : PromG X.prog X.w X.K X.mg X.base k x ps sp) (hgd : X.A.guards = some []) (hr : Room k X.A) (hg : Gl X x) (hdb : (x == ("__debug__" : Str)) = false := by decide) :
    PE X (.Call (.Name x p) [] [] pos) (tCall sp [] E0 tNil) := by
  obtain ⟨f, fd, F, m, kp, b⟩ := pr
  refine ⟨fun pins s σ H Q I h => wpAny_Call_Name_kw (ld_glob I hg m ?_ hdb)⟩
  exact PySem.W.callWith_K0 I.kIn kp (run_G (us := []) F hgd hr b .nil pass0 I .nil h)
end
end TS

/-! ### 23. x == y by an own __eq__, both of one own class -/
namespace TS
open PySem PySem.Spec PyProof.Rows L2
def rEqOwn (C : Addr) (sp : Sp) : R2 := fun x y H Q => ∃ a b dx dy fs gs, x = .ref a ∧ y = .ref b ∧ H a = some (.ins C dx fs) ∧ H b = some (.ins C dy gs) ∧ sp [.ref a, .ref b] H (fun v G => ∃ c, v = .bl c ∧ Q (.bl c) G) E0
theorem op_eqOwn {X : Cx} {k : Nat} {C f : Addr} {ps : List Str} {sp : Sp} (M : Meth X.K C "__eq__" f) (pr : PromA CX0 X.prog X.w X.K X.mg X.base k f ps sp) (hr : Room k X.A) : OpR X (compareOp .Eq) (rEqOwn C sp) := by
  intro pins s σ H x y v u Q J rx ry rd
  obtain ⟨a, b, dx, dy, fs, gs, rfl, rfl, ha, hb, q⟩ := rd
  cases rx
  cases ry
  obtain ⟨fd, F, bn⟩ := pr
  obtain ⟨mA, O, _⟩ := ins_get J.hok ha
  obtain ⟨mB, O2, _⟩ := ins_get J.hok hb
  obtain ⟨od, look, _⟩ := O.look
  obtain ⟨od2, look2, _⟩ := O2.look
  obtain ⟨m, hF⟩ := J.fr
  show wpAny (model X.prog X.w) X.A (richCompare .Eq (.ref a) (.ref b)) (EP X pins σ Q) X.xe s
  refine PySem.W.cmp_K (op := .Eq) (tb := .ref C) hr.units0 hF J.ok.mod.kin look look2.type (by simp [PySem.W.notFirst]) M.at_ M.fn ?_
  have r2 : Vals [V.ref a, V.ref b] [Value.ref a, Value.ref b] := .cons rfl (.cons rfl .nil)
  have bd := bn s [.ref a, .ref b] J.kIn (by rw [List.append_nil]; exact F.len _ _ _ _ q)
  rw [List.append_nil] at bd
  refine wpAny_call (codeAny_mono (F.run X.A X.stack s H ⟨[.ref a, .ref b], []⟩ [.ref a, .ref b] [.ref a, .ref b] _ E0 hr J.env0 bd r2 q) fun o t z => ?_)
  match o, z with
  | .error e, z => exact pass0 pins σ H s e t J z
  | .ok (.ret u), z =>
    obtain ⟨v, G, J2, rv, c, rfl, q2⟩ := J.after z
    cases rv
    exact ⟨.bl c, G, J2, rfl, q2⟩
end TS

/-! ### C(k = v, ..) of an own class whose __init__ may raise, no positional values -/
namespace TS
open PySem PySem.Spec PyProof.Rows L2
section
variable {X : Cx} {k : Nat} {f C : Addr} {ps ks : List Str} {sp : Sp} {W : WX} {x : Str} {p pos : Pos} {kws : List Keyword} {tk : TA} {gV : List V → List V → List V}
theorem pe_makeSK0 (M : Mk X.K C f) (pr : PromAK X.prog X.w X.K X.mg X.base k f ps sp 1 ks gV) (tkn : Takes X W) (hr : Room (k + 1) X.A) (hg : Gl X x) (hm : X.mg x = some (.ref C)) (hkw : PK X kws tk)
    (hall : (backToKw pos (keywordEach kws X.env)).all (·.1.isSome) = true := by rfl) (hks : (backToKw pos (keywordEach kws X.env)).filterMap (·.1) = ks := by rfl) (hdb : (x == ("__debug__" : Str)) = false := by decide)
    (hpl : ((backTo pos (starEach [] X.env)).any (·.1) || (backToKw pos (keywordEach kws X.env)).any (·.1.isNone)) = false := by rfl) :
    PE X (.Call (.Name x p) [] kws pos) (tMakeSK C 0 ks.length sp gV W tNil tk) := by
  obtain ⟨fd, g, F, b⟩ := pr
  refine ⟨fun pins s σ H Q J h => wpAny_Call_Name_kw (ld_glob J hg hm ?_ hdb)⟩
  refine PySem.W.callWith_KW0 (h₀ := X.base) J.ok.mod.kin M.kp hall ?_ hpl
  refine thn (hkw.run pos pins s σ H _ J h) fun ws s2 ⟨zs, H2, J2, rz, l1, l2, q2⟩ => ⟨J2.kIn, ?_⟩
  rw [hks]
  exact make_runSK (us := []) (vs := []) M F hr b tkn J2 .nil rz rfl l2 q2
end
end TS

/-! ### 25. x != y by an own __eq__, both of one own class: object.__ne__ turns the answer about -/
namespace TS
open PySem PySem.Spec PyProof.Rows L2
theorem ne_bind (self : Value) : bindSpecial (.builtin "object.__ne__") self = pure (.builtin "object.__ne__", [self]) :=
  (Slot.of (T := "object") (name := "__ne__") (owner := "object") (n := "__ne__") (by rw [typeLookup_type, builtinLookup_eq_fast]; kernel_rfl) (by decide +kernel) (by decide +kernel) (by decide +kernel)
    (.inl (by decide +kernel)) (by rw [isSubtype_type]; kernel_rfl)).bind self
def neB (K : PySem.W.Frag) (C : Addr) : Bool := PySem.W.findIn K (.ref C) "__ne__" == some (some (.builtin "object.__ne__")) && PySem.W.mroIn K C (.type "object") == some true
structure NeC (K : PySem.W.Frag) (C : Addr) : Prop where
  at_ : PySem.W.findIn K (.ref C) "__ne__" = some (some (.builtin "object.__ne__"))
  top : PySem.W.mroIn K C (.type "object") = some true
theorem neB_ok {K : PySem.W.Frag} {C : Addr} (h : neB K C = true) : NeC K C := by
  obtain ⟨a, b⟩ := He.ba h
  exact ⟨beq_iff_eq.mp a, beq_iff_eq.mp b⟩
section
variable {prog : Program} {w : World} {A : Around} {E : Value → Shared → Prop} {s : Shared} {K : PySem.W.Frag} {x C L f : Addr} {h₀ : Heap} {m : Str → Option Value} {ox : Obj} {od : Option Obj} {b tb : Value}
theorem ne_slotK {Q : Option Value → Shared → Prop} (hu : A.units + 1 < cLine) (X : K.In s.heap) (I : PySem.W.InstAt s.heap x ox C od) (N : NeC K C) (hs : PySem.W.findIn K (.ref C) "__eq__" = some (some (.ref f))) (hf : PySem.W.isFn K (.ref f) = true)
    (h : wpAny (model prog w) A.in1 (call (.ref f) [.ref x, b]) (fun v s' => ∃ c, v = .bool c ∧ Q (some (.bool (!c))) s') E s) : wpAny (model prog w) A (callSpecialIfBound? (.ref x) "__ne__" [b]) Q E s := by
  have body : wpAny (model prog w) A (call (.builtin "object.__ne__") [.ref x, b]) (fun v => Q (some v)) E s := by
    refine wpAny_call (codeAny_call_builtin (by decide +kernel) F.cmpEntry_ne (PySem.W.check_slot F.cmpKind_ne F.cmpSplit_ne (I.type.andThen (PySem.W.looks_subIn X N.top)) (F.cmpArgs_ne _ _) ?_))
    unfold Builtin.«object.__ne__»
    refine wpAny_bind (wpAny_of_eq rfl ?_)
    show wpAny _ _ (cRoomFor "comparison" [.ref x, b] >>= _) _ _ _
    refine wpAny_bind (wpAny_cRoomFor hu ?_)
    refine wpAny_bind (PySem.W.ifBound_K X I hs hf (wpAny_mono h (fun v s' hv => ?_) fun _ _ e => e))
    obtain ⟨c, rfl, q⟩ := hv
    refine wpAny_bind (wpAny_truthy_bool ?_)
    exact wpAny_pure q
  simp only [callSpecialIfBound?, bindSpecialIfBound?]
  refine wpAny_holding (wpAny_bind (wpAny_bind (wpAny_bind (I.type.here ((PySem.W.looks_findIn X N.at_).here ?_)))))
  refine wpAny_bind (wpAny_askSetting (wpAny_ite ?_))
  have fin : wpAny (model prog w) A (call (.builtin "object.__ne__") ([.ref x] ++ [b]) >>= fun v => pure (some v)) Q E s := wpAny_bind (wpAny_mono body (fun v s' h' => wpAny_pure h') fun _ _ h' => h')
  split
  · exact wpAny_bind (wpAny_of_eq (ne_bind _) (wpAny_pure (by exact fin)))
  · exact wpAny_tryCatch (wpAny_bind (wpAny_of_eq (ne_bind _) (wpAny_pure (by exact fin))))
theorem cmp_neK {Q : Value → Shared → Prop} (hu : A.units + 1 < cLine) (F : Fr h₀ L s.heap m) (X₀ : K.In h₀) (I : PySem.W.InstAt s.heap x ox C od) (hb : PySem.W.Looks (model prog w) s.heap (typeOf b) tb) (hn : PySem.W.notFirst K C tb = true)
    (N : NeC K C) (hs : PySem.W.findIn K (.ref C) "__eq__" = some (some (.ref f))) (hf : PySem.W.isFn K (.ref f) = true)
    (h : wpAny (model prog w) A.in1 (call (.ref f) [.ref x, b]) (fun v s' => ∃ c, v = .bool c ∧ Q (.bool (!c)) s') E s) : wpAny (model prog w) A (richCompare .NotEq (.ref x) b) Q E s := by
  have X := X₀.keeps F.keep
  have one : wpAny (model prog w) A (tryCompare (.ref x) (cmpInfo .NotEq).2.1 b) (fun r s' => ∃ v, r = some v ∧ Q v s') E s := by
    unfold tryCompare
    refine wpAny_bind (ne_slotK hu X I N hs hf (wpAny_mono h (fun v s' hv => ?_) fun _ _ e => e))
    obtain ⟨c, rfl, q⟩ := hv
    exact ⟨c, rfl, wpAny_pure ⟨_, rfl, q⟩⟩
  unfold richCompare
  simp only [oneThing_ref]
  refine wpAny_holding (wpAny_bind (wpAny_cRoomFor (Nat.lt_of_succ_lt hu) ?_))
  refine wpAny_bind (I.type.here (wpAny_bind (hb.here ?_)))
  split
  · rename_i q
    have e : PySem.W.subIn K tb (.ref C) = some false := by
      rcases Bool.or_eq_true_iff.mp hn with e | e
      · rw [beq_iff_eq.mp e] at q; simp at q
      · exact beq_iff_eq.mp e
    refine wpAny_bind ((PySem.W.looks_subIn X e).here ?_)
    simp only [Bool.false_eq_true, if_false]
    refine wpAny_bind (wpAny_mono one (fun r s' z => ?_) fun _ _ e => e)
    obtain ⟨v, rfl, hq⟩ := z
    exact wpAny_pure hq
  · refine wpAny_bind (wpAny_pure ?_)
    simp only [Bool.false_eq_true, if_false]
    refine wpAny_bind (wpAny_mono one (fun r s' z => ?_) fun _ _ e => e)
    obtain ⟨v, rfl, hq⟩ := z
    exact wpAny_pure hq
end
def rNeOwn (C : Addr) (sp : Sp) : R2 := fun x y H Q => ∃ a b dx dy fs gs, x = .ref a ∧ y = .ref b ∧ H a = some (.ins C dx fs) ∧ H b = some (.ins C dy gs) ∧ sp [.ref a, .ref b] H (fun v G => ∃ c, v = .bl c ∧ Q (.bl (!c)) G) E0
theorem op_neOwn {X : Cx} {k : Nat} {C f : Addr} {ps : List Str} {sp : Sp} (M : Meth X.K C "__eq__" f) (N : NeC X.K C) (pr : PromA CX0 X.prog X.w X.K X.mg X.base k f ps sp) (hr : Room (k + 1) X.A) : OpR X (compareOp .NotEq) (rNeOwn C sp) := by
  intro pins s σ H x y v u Q J rx ry rd
  obtain ⟨a, b, dx, dy, fs, gs, rfl, rfl, ha, hb, q⟩ := rd
  cases rx
  cases ry
  obtain ⟨fd, F, bn⟩ := pr
  obtain ⟨mA, O, _⟩ := ins_get J.hok ha
  obtain ⟨mB, O2, _⟩ := ins_get J.hok hb
  obtain ⟨od, look, _⟩ := O.look
  obtain ⟨od2, look2, _⟩ := O2.look
  obtain ⟨m, hF⟩ := J.fr
  show wpAny (model X.prog X.w) X.A (richCompare .NotEq (.ref a) (.ref b)) (EP X pins σ Q) X.xe s
  have hu := hr.units
  refine cmp_neK (tb := .ref C) (by omega) hF J.ok.mod.kin look look2.type (by simp [PySem.W.notFirst]) N M.at_ M.fn ?_
  have r2 : Vals [V.ref a, V.ref b] [Value.ref a, Value.ref b] := .cons rfl (.cons rfl .nil)
  have bd := bn s [.ref a, .ref b] J.kIn (by rw [List.append_nil]; exact F.len _ _ _ _ q)
  rw [List.append_nil] at bd
  have e0 : Env0 X.prog X.w X.K X.mg X.base X.A.in1 X.stack s H := J.env0.in1
  refine wpAny_call (codeAny_mono (F.run X.A.in1 X.stack s H ⟨[.ref a, .ref b], []⟩ [.ref a, .ref b] [.ref a, .ref b] _ E0 hr.in1 e0 bd r2 q) fun o t z => ?_)
  match o, z with
  | .error e, z => exact pass0 pins σ H s e t J z
  | .ok (.ret u), z =>
    obtain ⟨v, G, J2, rv, c, rfl, q2⟩ := J.after z
    cases rv
    exact ⟨c, rfl, .bl (!c), G, J2, rfl, q2⟩
end TS

/-! ### 27. x == y, x != y, x in [..] by an own __eq__, where one of both is data or of another own class -/
namespace TS
open PySem PySem.Spec PyProof.Rows L2
/-- an own class stands apart from the kinds of data -/
structure ApK (K : PySem.W.Frag) (C : Addr) : Prop where
  l : ∀ n ∈ kinds, PySem.W.subIn K (.type n) (.ref C) = some false
  r : ∀ n ∈ kinds, PySem.W.subIn K (.ref C) (.type n) = some false
def apKB (K : PySem.W.Frag) (C : Addr) : Bool := kinds.all fun n => decide (PySem.W.subIn K (.type n) (.ref C) = some false) && decide (PySem.W.subIn K (.ref C) (.type n) = some false)
theorem apKB_ok {K : PySem.W.Frag} {C : Addr} (h : apKB K C = true) : ApK K C :=
  ⟨fun n m => of_decide_eq_true (He.ba (List.all_eq_true.mp h n m)).1, fun n m => of_decide_eq_true (He.ba (List.all_eq_true.mp h n m)).2⟩
/-! what the built-in __eq__ of data says to an instance -/
section
variable {prog : Program} {w : World} {A : Around} {E : Value → Shared → Prop} {s : Shared} {K : PySem.W.Frag} {x C dx : Addr} {Q : Value → Shared → Prop}
open SeqAt AutoSeq1 MeetsSeq in
theorem dec_int (b : Int) (u : Tok) (e : s.heap.get? x = some (PySem.W.instObj C dx)) (q : Q .notImplemented s) : wpAny (model prog w) A (call (.builtin "int.__eq__") [.int b u, .ref x]) Q E s := by
  have m : Meets (Builtin.«int.__eq__» ⟨[.int b u, .ref x], []⟩) (fun _ R s => s.heap.get? x = some (PySem.W.instObj C dx) ∧ R (.ok (.ret .notImplemented)) s) :=
    .of_wp fun prog w A R t z => by obtain ⟨h0, g, d, k, os⟩ := t; obtain ⟨hl, z⟩ := z; wp_walk using wpAny_loadPart' hl, wpAny_load hl; exact ⟨_, rfl, z⟩
  exact call_meets F.slot_int_eq rfl F.entry_int_eq (F.args_int_eq_2 _ _) m ⟨e, q⟩
open SeqAt AutoSeq1 MeetsSeq in
theorem dec_bool (b : Bool) (e : s.heap.get? x = some (PySem.W.instObj C dx)) (q : Q .notImplemented s) : wpAny (model prog w) A (call (.builtin "int.__eq__") [.bool b, .ref x]) Q E s := by
  have m : Meets (Builtin.«int.__eq__» ⟨[.bool b, .ref x], []⟩) (fun _ R s => s.heap.get? x = some (PySem.W.instObj C dx) ∧ R (.ok (.ret .notImplemented)) s) :=
    .of_wp fun prog w A R t z => by obtain ⟨h0, g, d, k, os⟩ := t; obtain ⟨hl, z⟩ := z; wp_walk using wpAny_loadPart' hl, wpAny_load hl; exact ⟨_, rfl, z⟩
  exact call_meets F.slot_bool_eq rfl F.entry_int_eq (F.args_int_eq_2 _ _) m ⟨e, q⟩
open SeqAt AutoSeq1 MeetsSeq in
theorem dec_str (b : Str) (u : Tok) (e : s.heap.get? x = some (PySem.W.instObj C dx)) (q : Q .notImplemented s) : wpAny (model prog w) A (call (.builtin "str.__eq__") [.str b u, .ref x]) Q E s := by
  have m : Meets (Builtin.«str.__eq__» ⟨[.str b u, .ref x], []⟩) (fun _ R s => s.heap.get? x = some (PySem.W.instObj C dx) ∧ R (.ok (.ret .notImplemented)) s) :=
    .of_wp fun prog w A R t z => by obtain ⟨h0, g, d, k, os⟩ := t; obtain ⟨hl, z⟩ := z; wp_walk using wpAny_loadPart' hl, wpAny_load hl; exact ⟨_, rfl, z⟩
  exact call_meets F.slot_str_eq rfl F.entry_str_eq (F.args_str_eq_2 _ _) m ⟨e, q⟩

open SeqAt in
theorem dec_non (x : Addr) (q : Q .notImplemented s) : wpAny (model prog w) A (call (.builtin "NoneType.__eq__") [.none, .ref x]) Q E s :=
  call_gives F.slot_NoneType_eq rfl F.entry_NoneType_eq (F.args_NoneType_eq_2 _ _) (NoneType___eq___none_ref_0 x) q
theorem dec_list {l : Addr} (hT : s.TypeIs (.ref l) "list") (sub : PySem.W.Looks (model prog w) s.heap (isInstance (.ref x) (.type "list")) false) (q : Q .notImplemented s) : wpAny (model prog w) A (call (.builtin "list.__eq__") [.ref l, .ref x]) Q E s := by
  refine call_meetsIn (S := fun _ R t => t = s ∧ R (.ok (.ret .notImplemented)) t) F.slot_list_eq hT F.entry_list_eq (F.args_list_eq_2 _ _) (fun A R t z => ?_) ⟨rfl, q⟩
  obtain ⟨rfl, z⟩ := z
  refine wpAny_bind (wpAny_of_eq rfl ?_)
  refine wpAny_bind (sub.here ?_)
  exact wpAny_pure z
theorem dec_tuple {l : Addr} (hT : s.TypeIs (.ref l) "tuple") (sub : PySem.W.Looks (model prog w) s.heap (isInstance (.ref x) (.type "tuple")) false) (q : Q .notImplemented s) : wpAny (model prog w) A (call (.builtin "tuple.__eq__") [.ref l, .ref x]) Q E s := by
  refine call_meetsIn (S := fun _ R t => t = s ∧ R (.ok (.ret .notImplemented)) t) F.slot_tuple_eq hT F.entry_tuple_eq (F.args_tuple_eq_2 _ _) (fun A R t z => ?_) ⟨rfl, q⟩
  obtain ⟨rfl, z⟩ := z
  refine wpAny_bind (wpAny_of_eq rfl ?_)
  refine wpAny_bind (sub.here ?_)
  exact wpAny_pure z
theorem dec_dict {l : Addr} (hT : s.TypeIs (.ref l) "dict") (sub : PySem.W.Looks (model prog w) s.heap (isInstance (.ref x) (.type "dict")) false) (q : Q .notImplemented s) : wpAny (model prog w) A (call (.builtin "dict.__eq__") [.ref l, .ref x]) Q E s := by
  refine call_meetsIn (S := fun _ R t => t = s ∧ R (.ok (.ret .notImplemented)) t) F.slot_dict_eq hT F.entry_dict_eq (F.args_dict_eq_2 _ _) (fun A R t z => ?_) ⟨rfl, q⟩
  obtain ⟨rfl, z⟩ := z
  refine wpAny_bind (wpAny_of_eq rfl ?_)
  refine wpAny_bind (sub.here ?_)
  exact wpAny_bind (wpAny_rule (wpAny_pure z))
end

section
variable {X : Cx} {pins : List (Addr × Obj)} {σ : L2.St} {H : Hp} {s : Shared} {v : V} {d : PyData} {u : Value}
theorem Dt.typ (J : Inv X pins σ H s) (h : Dt X.K H v d) (r : RelV v u) : s.TypeIs u (tyN d) := by
  cases h with
  | non => cases r; rfl
  | bl b => cases r; rfl
  | int i => obtain ⟨t, rfl⟩ := r; rfl
  | str z => obtain ⟨t, rfl⟩ := r; rfl
  | lst a b =>
    cases r
    obtain ⟨its, rv, ⟨o, n, ho, hc, _⟩, _⟩ := J.list a
    exact ⟨o, ho, hc⟩
  | tup a b =>
    cases r
    obtain ⟨its, rv, ⟨o, ho, hc, _⟩, _⟩ := J.tuple a
    exact ⟨o, ho, hc⟩
  | @dct a ks xs ds h l ha =>
    cases r
    obtain ⟨hz, hS, vs, rk, o, es, ep, ho, hx, _⟩ := (show ObjOk X.prog X.w H s.heap a (.dK (ks.zip xs)) from J.hok a _ h)
    exact ⟨o, ho, hx.1⟩
theorem Dt.looks (J : Inv X pins σ H s) (h : Dt X.K H v d) (r : RelV v u) : PySem.W.Looks (model X.prog X.w) s.heap (typeOf u) (.type (tyN d)) := by
  cases h with
  | non => cases r; exact .now
  | bl b => cases r; exact .now
  | int i => obtain ⟨t, rfl⟩ := r; exact .now
  | str z => obtain ⟨t, rfl⟩ := r; exact .now
  | lst a b =>
    cases r
    obtain ⟨its, rv, ⟨o, n, ho, hc, _⟩, _⟩ := J.list a
    exact fun A Q E s k q => wpAny_typeOf_ref (k _ _ ho) (by rw [hc]; exact q)
  | tup a b =>
    cases r
    obtain ⟨its, rv, ⟨o, ho, hc, _⟩, _⟩ := J.tuple a
    exact fun A Q E s k q => wpAny_typeOf_ref (k _ _ ho) (by rw [hc]; exact q)
  | @dct a ks xs ds h l ha =>
    cases r
    obtain ⟨hz, hS, vs, rk, o, es, ep, ho, hx, _⟩ := (show ObjOk X.prog X.w H s.heap a (.dK (ks.zip xs)) from J.hok a _ h)
    exact fun A Q E s k q => wpAny_typeOf_ref (k _ _ ho) (by rw [hx.1]; exact q)
theorem Dt.declines (J : Inv X pins σ H s) (h : Dt X.K H v d) (r : RelV v u) {x C dx : Addr} {fs : List (Str × V)} (e : H x = some (.ins C dx fs)) (ap : ApK X.K C) :
    ∃ id, Slot (tyN d) (cmpInfo .Eq).2.1 id ∧ ∀ (A : Around) (E : Value → Shared → Prop) (Q : Value → Shared → Prop), Q .notImplemented s → wpAny (model X.prog X.w) A (call (.builtin id) [u, .ref x]) Q E s := by
  have ty := Dt.typ J h r
  obtain ⟨mA, O, _⟩ := ins_get J.hok e
  obtain ⟨od, look, _⟩ := O.look
  have no : ∀ n ∈ kinds, PySem.W.Looks (model X.prog X.w) s.heap (isInstance (.ref x) (.type n)) false := fun n m => look.type.andThen (PySem.W.looks_subIn J.kIn (ap.r n m))
  have ob : s.heap.get? x = some (PySem.W.instObj C dx) := (show ObjOk X.prog X.w H s.heap x (.ins C dx fs) from J.hok x _ e).2.2.2.1
  cases h with
  | non => cases r; exact ⟨_, F.slot_NoneType_eq, fun A E Q q => dec_non x q⟩
  | bl b => cases r; exact ⟨_, F.slot_bool_eq, fun A E Q q => dec_bool b ob q⟩
  | int i => obtain ⟨t, rfl⟩ := r; exact ⟨_, F.slot_int_eq, fun A E Q q => dec_int i t ob q⟩
  | str z => obtain ⟨t, rfl⟩ := r; exact ⟨_, F.slot_str_eq, fun A E Q q => dec_str z t ob q⟩
  | lst a b => cases r; exact ⟨_, F.slot_list_eq, fun A E Q q => dec_list ty (no "list" (by decide)) q⟩
  | tup a b => cases r; exact ⟨_, F.slot_tuple_eq, fun A E Q q => dec_tuple ty (no "tuple" (by decide)) q⟩
  | dct a b c => cases r; exact ⟨_, F.slot_dict_eq, fun A E Q q => dec_dict ty (no "dict" (by decide)) q⟩
end
section
variable {prog : Program} {w : World} {A : Around} {E : Value → Shared → Prop} {s : Shared} {K : PySem.W.Frag} {x C L f : Addr} {h₀ : Heap} {m : Str → Option Value} {ox : Obj} {od : Option Obj} {a : Value}
/-- data == x: the built-in one declines, the own one is asked -/
theorem cmp_right {n id : String} {Q : Value → Shared → Prop} (hu : A.units < cLine) (Fm : Fr h₀ L s.heap m) (X₀ : K.In h₀) (I : PySem.W.InstAt s.heap x ox C od) (ha : s.TypeIs a n) (sl : Slot n (cmpInfo .Eq).2.1 id) (hr : PySem.W.subIn K (.ref C) (.type n) = some false)
    (dec : ∀ Q' : Value → Shared → Prop, Q' .notImplemented s → wpAny (model prog w) A (call (.builtin id) [a, .ref x]) Q' E s) (hs : PySem.W.findIn K (.ref C) "__eq__" = some (some (.ref f))) (hf : PySem.W.isFn K (.ref f) = true)
    (h : wpAny (model prog w) A (call (.ref f) [.ref x, a]) (PySem.W.CmpBack Q) E s) : wpAny (model prog w) A (richCompare .Eq a (.ref x)) Q E s := by
  have X := X₀.keeps Fm.keep
  have two : wpAny (model prog w) A (tryCompare (.ref x) (cmpInfo .Eq).2.2 a) (fun r s' => ∃ v, r = some v ∧ Q v s') E s := by
    unfold tryCompare
    refine wpAny_bind (PySem.W.ifBound_K X I hs hf (wpAny_mono h (fun v s' hv => ?_) fun _ _ e => e))
    cases v <;> first | exact hv.elim | exact wpAny_pure ⟨_, rfl, hv⟩
  rcases hi : cmpInfo CmpOp.Eq with ⟨sym, f1, r1⟩
  rw [hi] at sl two
  simp only [richCompare, hi, ha.oneThing_none]
  refine wpAny_holding (wpAny_bind (wpAny_cRoomFor hu ?_))
  refine wpAny_bind (wpAny_typeOf ha (wpAny_bind (I.type.here ?_)))
  have ne : (Value.type n != Value.ref C) = true := by simp
  simp only [ne, if_true]
  refine wpAny_bind ((PySem.W.looks_subIn X hr).here ?_)
  simp only [Bool.false_eq_true, if_false, Bool.not_false, if_true]
  refine wpAny_bind (m := tryCompare a _ _) (wpAny_tryCompare_declines ha sl (dec _ ⟨rfl, ?_⟩))
  refine wpAny_bind (m := tryCompare (.ref x) _ _) (wpAny_mono two (fun r s' z => ?_) fun _ _ e => e)
  obtain ⟨v, rfl, hq⟩ := z
  exact wpAny_pure hq
end
/-- y beside an instance of C: data, or an instance that C's own look is asked of first -/
def Beside (K : PySem.W.Frag) (C : Addr) (H : Hp) (y : V) : Prop := (∃ d, Dt K H y d) ∨ ∃ b C2 dy gs, y = .ref b ∧ H b = some (.ins C2 dy gs) ∧ (C2 = C ∨ PySem.W.subIn K (.ref C2) (.ref C) = some false)
/-- a place where the defs may be called -/
structure Plc (X : Cx) (k : Nat) (A : Around) : Prop where
  room : Room k A
  env : ∀ {pins : List (Addr × Obj)} {σ : L2.St} {H : Hp} {s : Shared}, Inv X pins σ H s → Env0 X.prog X.w X.K X.mg X.base A X.stack s H
theorem Plc.own {X : Cx} {k : Nat} (h : Room k X.A) : Plc X k X.A := ⟨h, fun J => J.env0⟩
theorem Plc.in1 {X : Cx} {k : Nat} {A : Around} (h : Plc X (k + 1) A) : Plc X k A.in1 := ⟨h.room.in1, fun J => (h.env J).in1⟩
/-- what a rule of == says at a place -/
def EqP (X : Cx) (A : Around) (r : R2) : Prop := ∀ (pins : List (Addr × Obj)) (s : Shared) (σ : L2.St) (H : Hp) (x y : V) (v u : Value) (Q : VK), Inv X pins σ H s → RelV x v → RelV y u → r x y H Q → wpAny (model X.prog X.w) A (richCompare .Eq v u) (EP X pins σ Q) X.xe s
theorem EqP.or {X : Cx} {A : Around} {r r' : R2} (a : EqP X A r) (b : EqP X A r') : EqP X A (fun x y H Q => r x y H Q ∨ r' x y H Q) := fun pins s σ H x y v u Q J rx ry h => h.elim (a pins s σ H x y v u Q J rx ry) (b pins s σ H x y v u Q J rx ry)
theorem EqP.op {X : Cx} {r : R2} (h : EqP X X.A r) : OpR X (compareOp .Eq) r := fun {pins s σ H x y v u Q} J rx ry rd => h pins s σ H x y v u Q J rx ry rd
def rEqL (K : PySem.W.Frag) (C : Addr) (sp : Sp) : R2 := fun x y H Q => ∃ a dx fs, x = .ref a ∧ H a = some (.ins C dx fs) ∧ Beside K C H y ∧ sp [.ref a, y] H (fun v G => ∃ c, v = .bl c ∧ Q (.bl c) G) E0
def rEqR (K : PySem.W.Frag) (C : Addr) (sp : Sp) : R2 := fun x y H Q => ∃ d a dx fs, Dt K H x d ∧ y = .ref a ∧ H a = some (.ins C dx fs) ∧ sp [.ref a, x] H (fun v G => ∃ c, v = .bl c ∧ Q (.bl c) G) E0
def rNeL (K : PySem.W.Frag) (C : Addr) (sp : Sp) : R2 := fun x y H Q => ∃ a dx fs, x = .ref a ∧ H a = some (.ins C dx fs) ∧ Beside K C H y ∧ sp [.ref a, y] H (fun v G => ∃ c, v = .bl c ∧ Q (.bl (!c)) G) E0
section
variable {X : Cx} {A : Around} {k : Nat} {C f : Addr} {ps : List Str} {sp : Sp}
theorem Beside.looks {pins : List (Addr × Obj)} {σ : L2.St} {H : Hp} {s : Shared} {y : V} {u : Value} (ap : ApK X.K C) (J : Inv X pins σ H s) (h : Beside X.K C H y) (r : RelV y u) : ∃ tb, PySem.W.Looks (model X.prog X.w) s.heap (typeOf u) tb ∧ PySem.W.notFirst X.K C tb = true := by
  rcases h with ⟨d, h⟩ | ⟨b, C2, dy, gs, rfl, e, h⟩
  · exact ⟨_, Dt.looks J h r, by unfold PySem.W.notFirst; rw [ap.l _ (tyN_mem d)]; simp⟩
  · cases r
    obtain ⟨mA, O, _⟩ := ins_get J.hok e
    obtain ⟨od, look, _⟩ := O.look
    refine ⟨_, look.type, ?_⟩
    unfold PySem.W.notFirst
    rcases h with rfl | h
    · simp
    · rw [h]; simp
theorem call_own2 {pins : List (Addr × Obj)} {σ : L2.St} {H : Hp} {s : Shared} {a : Addr} {y : V} {u : Value} {R : VK} (p : Plc X k A) (pr : PromA CX0 X.prog X.w X.K X.mg X.base k f ps sp) (J : Inv X pins σ H s) (ry : RelV y u) (q : sp [.ref a, y] H R E0) :
    wpAny (model X.prog X.w) A (call (.ref f) [.ref a, u]) (EP X pins σ R) X.xe s := by
  obtain ⟨fd, Fn, bn⟩ := pr
  have r2 : Vals [V.ref a, y] [Value.ref a, u] := .cons rfl (.cons ry .nil)
  have bd := bn s [.ref a, u] J.kIn (by rw [List.append_nil]; exact r2.length.symm.trans (Fn.len _ _ _ _ q))
  rw [List.append_nil] at bd
  refine wpAny_call (codeAny_mono (Fn.run A X.stack s H ⟨[.ref a, u], []⟩ [.ref a, u] [.ref a, y] _ E0 p.room (p.env J) bd r2 q) fun o t z => ?_)
  match o, z with
  | .error e, z => exact pass0 pins σ H s e t J z
  | .ok (.ret u), z => exact J.after z
theorem eq_left (M : Meth X.K C "__eq__" f) (ap : ApK X.K C) (pr : PromA CX0 X.prog X.w X.K X.mg X.base k f ps sp) (p : Plc X k A) : EqP X A (rEqL X.K C sp) := by
  intro pins s σ H x y v u Q J rx ry rd
  obtain ⟨a, dx, fs, rfl, ha, bs, q⟩ := rd
  cases rx
  obtain ⟨mA, O, _⟩ := ins_get J.hok ha
  obtain ⟨od, look, _⟩ := O.look
  obtain ⟨m, hF⟩ := J.fr
  obtain ⟨tb, lk, nf⟩ := bs.looks ap J ry
  refine PySem.W.cmp_K (op := .Eq) (tb := tb) p.room.units0 hF J.ok.mod.kin look lk nf M.at_ M.fn (wpAny_mono (call_own2 p pr J ry q) (fun v s' z => ?_) fun _ _ z => z)
  obtain ⟨y1, G, J2, rv, c, rfl, q2⟩ := z
  cases rv
  exact ⟨.bl c, G, J2, rfl, q2⟩
theorem eq_right (M : Meth X.K C "__eq__" f) (ap : ApK X.K C) (pr : PromA CX0 X.prog X.w X.K X.mg X.base k f ps sp) (p : Plc X k A) : EqP X A (rEqR X.K C sp) := by
  intro pins s σ H x y v u Q J rx ry rd
  obtain ⟨d, a, dx, fs, hd, rfl, ha, q⟩ := rd
  cases ry
  obtain ⟨mA, O, _⟩ := ins_get J.hok ha
  obtain ⟨od, look, _⟩ := O.look
  obtain ⟨m, hF⟩ := J.fr
  obtain ⟨id, sl, dec⟩ := Dt.declines J hd rx ha ap
  refine cmp_right p.room.units0 hF J.ok.mod.kin look (Dt.typ J hd rx) sl (ap.r _ (tyN_mem d)) (fun Q' q' => dec A _ Q' q') M.at_ M.fn (wpAny_mono (call_own2 p pr J rx q) (fun v s' z => ?_) fun _ _ z => z)
  obtain ⟨y1, G, J2, rv, c, rfl, q2⟩ := z
  cases rv
  exact ⟨.bl c, G, J2, rfl, q2⟩
theorem op_neL (M : Meth X.K C "__eq__" f) (N : NeC X.K C) (ap : ApK X.K C) (pr : PromA CX0 X.prog X.w X.K X.mg X.base k f ps sp) (hr : Room (k + 1) X.A) : OpR X (compareOp .NotEq) (rNeL X.K C sp) := by
  intro pins s σ H x y v u Q J rx ry rd
  obtain ⟨a, dx, fs, rfl, ha, bs, q⟩ := rd
  cases rx
  obtain ⟨mA, O, _⟩ := ins_get J.hok ha
  obtain ⟨od, look, _⟩ := O.look
  obtain ⟨m, hF⟩ := J.fr
  obtain ⟨tb, lk, nf⟩ := bs.looks ap J ry
  have hu := hr.units
  show wpAny (model X.prog X.w) X.A (richCompare .NotEq (.ref a) u) (EP X pins σ Q) X.xe s
  refine cmp_neK (tb := tb) (by omega) hF J.ok.mod.kin look lk nf N M.at_ M.fn (wpAny_mono (call_own2 (Plc.own hr).in1 pr J ry q) (fun v s' z => ?_) fun _ _ z => z)
  obtain ⟨y1, G, J2, rv, c, rfl, q2⟩ := z
  cases rv
  exact ⟨c, rfl, .bl (!c), G, J2, rfl, q2⟩
end
end TS

/-! ### 28. str(x), repr(x) by an own __str__, __repr__ -/
namespace TS
open PySem PySem.Spec PyProof.Rows L2
def rTxtOwn (C : Addr) (sp : Sp) : List V → Hp → VK → Prop := fun xs H Q => ∃ a dx fs, xs = [.ref a] ∧ H a = some (.ins C dx fs) ∧ sp [.ref a] H (fun v G => ∃ z, v = .str z ∧ Q (.str z) G) E0
section
variable {X : Cx} {A : Around} {k : Nat} {C f : Addr} {ps : List Str} {sp : Sp}
theorem call_own1 {pins : List (Addr × Obj)} {σ : L2.St} {H : Hp} {s : Shared} {a : Addr} {R : VK} (p : Plc X k A) (pr : PromA CX0 X.prog X.w X.K X.mg X.base k f ps sp) (J : Inv X pins σ H s) (q : sp [.ref a] H R E0) :
    wpAny (model X.prog X.w) A (call (.ref f) [.ref a]) (EP X pins σ R) X.xe s := by
  obtain ⟨fd, Fn, bn⟩ := pr
  have r2 : Vals [V.ref a] [Value.ref a] := .cons rfl .nil
  have bd := bn s [.ref a] J.kIn (by rw [List.append_nil]; exact r2.length.symm.trans (Fn.len _ _ _ _ q))
  rw [List.append_nil] at bd
  refine wpAny_call (codeAny_mono (Fn.run A X.stack s H ⟨[.ref a], []⟩ [.ref a] [.ref a] _ E0 p.room (p.env J) bd r2 q) fun o t z => ?_)
  match o, z with
  | .error e, z => exact pass0 pins σ H s e t J z
  | .ok (.ret u), z => exact J.after z
theorem str_own (M : Meth X.K C "__str__" f) (pr : PromA CX0 X.prog X.w X.K X.mg X.base k f ps sp) (hr : Room (k + 2) X.A) : CallR X (.type "str") (rTxtOwn C sp) := by
  intro pins s σ H xs us Q J r rd
  obtain ⟨a, dx, fs, rfl, ea, q⟩ := rd
  obtain ⟨u, rfl, ra⟩ := vals1 r
  cases ra
  obtain ⟨mA, O, _⟩ := ins_get J.hok ea
  obtain ⟨od, look, _⟩ := O.look
  have p2 : Plc X k X.A.in1.in1 := (Plc.own hr).in1.in1
  refine PySem.W.kso_call p2.room.units0 J.kIn look M.at_ M.fn (wpAny_mono (call_own1 p2 pr J q) (fun v s' z => ?_) fun _ _ z => z)
  obtain ⟨y1, G, J2, rv, z, rfl, q2⟩ := z
  obtain ⟨t, rfl⟩ := rv
  exact ⟨.str z, G, J2, ⟨t, rfl⟩, q2⟩
theorem repr_own (M : Meth X.K C "__repr__" f) (pr : PromA CX0 X.prog X.w X.K X.mg X.base k f ps sp) (hr : Room (k + 1) X.A) : CallR X (.builtin "repr") (rTxtOwn C sp) := by
  intro pins s σ H xs us Q J r rd
  obtain ⟨a, dx, fs, rfl, ea, q⟩ := rd
  obtain ⟨u, rfl, ra⟩ := vals1 r
  cases ra
  obtain ⟨mA, O, _⟩ := ins_get J.hok ea
  obtain ⟨od, look, _⟩ := O.look
  obtain ⟨m, hF⟩ := J.fr
  have p1 : Plc X k X.A.in1 := (Plc.own hr).in1
  refine PySem.W.repr_K p1.room.units0 hF J.ok.mod.kin look M.at_ M.fn (wpAny_mono (call_own1 p1 pr J q) (fun v s' z => ?_) fun _ _ z => z)
  obtain ⟨y1, G, J2, rv, z, rfl, q2⟩ := z
  obtain ⟨t, rfl⟩ := rv
  exact ⟨.str z, G, J2, ⟨t, rfl⟩, q2⟩
end
end TS

/-! ### 29. x in [..] by an own __eq__ -/
namespace TS
open PySem PySem.Spec PyProof.Rows L2
theorem eqBool_of {M : Model} {A : Around} {E : Value → Shared → Prop} {s : Shared} {a b : Value} {Q : Bool → Shared → Prop} (hne : a ≠ b) (nf : ∀ f t, a ≠ .float f t) (h : wpAny M A (richCompare .Eq a b) (fun v s' => ∃ c, v = .bool c ∧ Q c s') E s) :
    wpAny M A (eqBool a b) Q E s := by
  unfold eqBool
  refine wpAny_holding ?_
  refine wpAny_ite_split (fun hab => absurd (eq_of_beq hab) hne) (fun _ => ?_)
  have fin : wpAny M A (richCompare .Eq a b >>= truthOfDropped) Q E s := wpAny_bind (wpAny_mono h (fun v s' z => by obtain ⟨c, rfl, q⟩ := z; exact wpAny_truthy_bool q) fun _ _ z => z)
  cases a with
  | float f t => exact absurd rfl (nf f t)
  | _ => exact fin
section
variable {prog : Program} {w : World} {A : Around} {R : Result → Shared → Prop} {l : Addr} {x : Value} {N : Nat} {I : Nat → Shared → Prop}
open SeqAt AutoSeq1 MeetsSeq in
theorem contains_goes (turn : ∀ i t, I i t → ∃ (items : Array Value) (n : Nat) (dd : Option Addr) (sl : Array (Option Value)), t.heap.get? l = some { cls := .type "list", dict := dd, data := .seq items n, slots := sl } ∧ items.size = N ∧
      ∀ h : i < items.size, wpAny (model prog w) A.in1 (eqBool items[i] x) (fun b s' => if b = true then R (.ok (.ret (.bool true))) s' else I (i + 1) s') (fun e s' => R (.error e) s') t)
    (fin : ∀ t, I N t → R (.ok (.ret (.bool false))) t) (k : Nat) : ∀ i : Nat, N - i = k → i ≤ N → ∀ t, I i t →
      wpAny (model prog w) A.in1 (Builtin.«list.__contains__.loop» ⟨[.ref l, x, rawInt i], []⟩) (fun fin s' => match fin with | .done f => R (.ok f) s' | .again c' => c'.quiet = true ∧ codeAny (model prog w) A c' R s') (fun e s' => R (.error e) s') t := by
  induction k with
  | zero =>
    intro i hk hiN t hI
    obtain rfl : i = N := by omega
    have done := fin t hI
    obtain ⟨items, n, dd, sl, hl, hsz, _⟩ := turn i t hI
    obtain ⟨h0, g, d, tk, os⟩ := t
    wp_walk using wpAny_loadPart' hl
    have hi : items[((i : Nat) : Int).toNat]? = none := by simp; omega
    rw [hi]
    wp_walk
    exact done
  | succ k ih =>
    intro i hk hiN t hI
    obtain ⟨items, n, dd, sl, hl, hsz, step⟩ := turn i t hI
    obtain ⟨h0, g, d, tk, os⟩ := t
    wp_walk using wpAny_loadPart' hl
    have hlt : i < items.size := by omega
    have hi : items[((i : Nat) : Int).toNat]? = some items[i] := by simp [hlt]
    rw [hi]
    refine wpAny_bind (wpAny_mono (step hlt) (fun b s' z => ?_) fun _ _ z => z)
    cases b with
    | true =>
      obtain ⟨h1, g1, d1, t1, o1⟩ := s'
      wp_walk
      exact z
    | false =>
      have hc : ((i : Int) + 1) = ((i + 1 : Nat) : Int) := by push_cast; rfl
      obtain ⟨h1, g1, d1, t1, o1⟩ := s'
      wp_walk
      rw [hc]
      refine ⟨plainId_quiet plain_contains_loop _, codeAny_builtin entry_contains_loop ?_⟩
      rw [Around.under_plainId plain_contains_loop _]
      exact ih (i + 1) (by omega) (by omega) _ z
end
/-- x in the list all at p: t is what is left -/
def InR (r : R2) (p : Addr) (all : List V) (x : V) : List V → Hp → VK → Prop
  | [], H, Q => Q (.bl false) H
  | y :: t, H, Q => y ≠ x ∧ r y x H fun v G => ∃ c, v = .bl c ∧ if c = true then Q (.bl true) G else G p = some (.lst all) ∧ InR r p all x t G Q
def rInO (r : R2) : R2 := fun x y H Q => ∃ p xs, y = .ref p ∧ H p = some (.lst xs) ∧ (∃ a, x = .ref a) ∧ (∀ v ∈ xs, ∀ b, v ≠ .flt b) ∧ InR r p xs x xs H Q
open SeqAt AutoSeq1 MeetsSeq in
theorem op_inO {X : Cx} {r : R2} (e : EqP X X.A.in1 r) : OpR X (compareOp .In) (rInO r) := by
  intro pins s σ H x y v u Q J rx ry rd
  obtain ⟨p, xs, rfl, hp, ⟨a, rfl⟩, nf, q⟩ := rd
  cases ry
  cases rx
  have at_ : ∀ {G : Hp} {t : Shared}, Inv X pins σ G t → G p = some (.lst xs) → ∃ its n, Vals xs its ∧ t.heap.get? p = some { cls := .type "list", data := .seq its.toArray n } := fun {G t} J e => (show ObjOk X.prog X.w G t.heap p (.lst xs) from J.hok p _ e).2
  obtain ⟨its, n, rv, ho⟩ := at_ J hp
  have hT : s.TypeIs (.ref p) "list" := ⟨_, ho, rfl⟩
  show wpAny (model X.prog X.w) X.A (do return .bool (← contains (.ref p) (.ref a))) (EP X pins σ Q) X.xe s
  refine wpAny_bind (wpAny_contains_slot hT F.slot_list_contains (wpAny_mono (call_meetsIn (E := X.xe) (Q := fun v t => ∃ c, v = .bool c ∧ EP X pins σ Q (.bool c) t) (S := fun A R t => A = X.A ∧ t = s ∧ (∀ c t', EP X pins σ Q (.bool c) t' → R (.ok (.ret (.bool c))) t') ∧ ∀ e t', X.xe e t' → R (.error e) t')
    F.slot_list_contains hT F.entry_list_contains (F.args_list_contains_2 _ _) (fun A R t z => ?_) ⟨rfl, rfl, fun c t' z => ⟨c, rfl, z⟩, fun e t' z => z⟩) (fun v t hv => ?_) fun _ _ z => z))
  · obtain ⟨rfl, rfl, k1, k2⟩ := z
    have go := contains_goes (prog := X.prog) (w := X.w) (A := X.A) (R := R) (l := p) (x := .ref a) (N := xs.length) (I := fun i t => ∃ G, Inv X pins σ G t ∧ G p = some (.lst xs) ∧ InR r p xs (.ref a) (xs.drop i) G Q) (fun i t hI => by
      obtain ⟨G, JG, eG, hR⟩ := hI
      obtain ⟨iz, n2, rz, hz⟩ := at_ JG eG
      refine ⟨iz.toArray, n2, none, #[], hz, by simpa using rz.length.symm, fun hi => ?_⟩
      have hx : i < xs.length := by
        have := rz.length
        simp at hi
        omega
      obtain ⟨u, hu, ru⟩ := rz.get (List.getElem?_eq_getElem hx)
      have eu : iz.toArray[i] = u := by
        simp
        rw [List.getElem?_eq_getElem (by simpa using hi)] at hu
        exact Option.some.inj hu
      rw [eu]
      rw [List.drop_eq_getElem_cons hx] at hR
      obtain ⟨ne, rr⟩ := hR
      refine eqBool_of ?_ ?_ (wpAny_mono (wpAny_mono (e pins t σ G _ (.ref a) u (.ref a) _ JG ru rfl rr) (fun _ _ z => z) k2) (fun v t' z => ?_) fun _ _ z => z)
      · intro z
        subst z
        cases hv : xs[i] <;> rw [hv] at ru ne <;> first | (obtain ⟨_, z⟩ := ru; cases z) | (cases ru; exact ne rfl) | cases ru
      · intro f tk z
        subst z
        have nn := nf _ (List.getElem_mem hx)
        cases hv : xs[i] <;> rw [hv] at ru nn <;> first | exact nn _ rfl | (obtain ⟨_, z⟩ := ru; cases z) | cases ru
      · obtain ⟨v2, G2, J2, rv2, c, rfl, q2⟩ := z
        cases rv2
        refine ⟨c, rfl, ?_⟩
        cases c with
        | true => exact k1 true t' ⟨.bl true, G2, J2, rfl, q2⟩
        | false => exact ⟨G2, J2, q2.1, q2.2⟩) (fun t hI => by
      obtain ⟨G, JG, eG, hR⟩ := hI
      rw [List.drop_length] at hR
      exact k1 false t ⟨.bl false, G, JG, rfl, hR⟩) xs.length 0 (by omega) (Nat.zero_le _) t ⟨H, J, hp, q⟩
    obtain ⟨h0, g, d, tk, os⟩ := t
    wp_walk using wpAny_loadPart' ho
    refine ⟨plainId_quiet plain_contains_loop _, codeAny_builtin entry_contains_loop ?_⟩
    rw [Around.under_plainId plain_contains_loop _]
    exact go
  · obtain ⟨c, rfl, z⟩ := hv
    exact wpAny_truthy_bool (wpAny_pure z)
end TS

/-! ### 30. texts: plain signs, lengths of what is split, joined, cut -/
namespace TS
open PySem PySem.Spec PyProof.Rows L2 TL
def Plain (z : Str) : Prop := ∀ c ∈ tl z, c < 256
theorem Plain.app {x y : Str} (hx : Plain x) (hy : Plain y) : Plain (x ++ y) := fun c hc => by
  rw [tl_append] at hc
  exact (List.mem_append.mp hc).elim (hx c) (hy c)
theorem Plain.cut {z : Str} (h : Plain z) (lo hi : Option Int) : Plain (cutS z lo hi) := fun c hc => h c (List.mem_of_mem_drop (List.mem_of_mem_take (show c ∈ ((tl z).drop _).take _ from hc)))
theorem joined_mem {S : List Nat} {c : Nat} : ∀ {ps : List (List Nat)}, c ∈ joinL S ps → c ∈ S ∨ ∃ p ∈ ps, c ∈ p
  | [], h => absurd h (by simp [joinL])
  | [p], h => .inr ⟨p, by simp, h⟩
  | p :: q :: r, h => by
    rcases List.mem_append.mp (show c ∈ p ++ (S ++ joinL S (q :: r)) from h) with h | h
    · exact .inr ⟨p, by simp, h⟩
    · rcases List.mem_append.mp h with h | h
      · exact .inl h
      · rcases joined_mem h with h | ⟨x, hx, hc⟩
        · exact .inl h
        · exact .inr ⟨x, List.mem_cons_of_mem _ hx, hc⟩
theorem Plain.join {y : Str} {ws : List Str} (hy : Plain y) (h : ∀ z ∈ ws, Plain z) : Plain (Txt.join y ws) := fun c hc => by
  rw [join_eq, tl_join] at hc
  rcases joined_mem hc with hc | ⟨p, hp, hc⟩
  · exact hy c hc
  · obtain ⟨z, hz, rfl⟩ := List.mem_map.mp hp
    exact h z hz c hc
theorem plainB {z : Str} (h : (tl z).all (fun c => decide (c < 256)) = true) : Plain z := fun c hc => of_decide_eq_true (List.all_eq_true.mp h c hc)
theorem cut_le {z : Str} {lo hi : Option Int} {n : Nat} (h : z.length ≤ n) : (cutS z lo hi).length ≤ n := Nat.le_trans (cutS_length z lo hi) h
theorem add_len (x y : Str) : (x ++ y).length = x.length + y.length := by
  rw [len_tl, tl_append, List.length_append, ← len_tl, ← len_tl]
theorem join_sum (y : Str) : ∀ ws : List Str, (Txt.join y ws).length ≤ (ws.map (·.length)).sum + ws.length * y.length
  | [] => by
    rw [join_eq, len_tl, tl_join]
    exact Nat.zero_le _
  | [w] => by
    rw [join_eq, len_tl, tl_join]
    show (tl w).length ≤ _
    rw [← len_tl]
    simp
  | w :: v :: r => by
    have ih := join_sum y (v :: r)
    rw [join_eq, len_tl, tl_join] at ih ⊢
    show (tl w ++ (tl y ++ joinL (tl y) ((v :: r).map tl))).length ≤ _
    rw [List.length_append, List.length_append, ← len_tl, ← len_tl]
    have e : (w :: v :: r).length = (v :: r).length + 1 := rfl
    have e2 : ((w :: v :: r).map (fun x : Str => x.length)).sum = w.length + ((v :: r).map (fun x : Str => x.length)).sum := by simp only [List.map_cons, List.sum_cons]
    rw [e, Nat.succ_mul, e2]
    have ih' : (joinL (tl y) (tl v :: List.map tl r)).length ≤ ((v :: r).map (fun x : Str => x.length)).sum + (v :: r).length * y.length := ih
    omega
theorem pre_is (m c : Nat) (r : List Nat) : pre [m] (c :: r) = decide (c = m) := by
  by_cases h : c = m
  · subst h; simp [pre]
  · simp [pre, h]
/-- what a text is split into -/
theorem spl_facts (m : Nat) : ∀ (l acc : List Nat), 1 ≤ (spl [m] 0 acc l).length ∧ (spl [m] 0 acc l).length ≤ 1 + l.length ∧ ((spl [m] 0 acc l).map List.length).sum ≤ acc.length + l.length ∧ (∀ p ∈ spl [m] 0 acc l, ∀ c ∈ p, c ∈ acc ∨ (c ∈ l ∧ c ≠ m))
  | [], acc => by
    rw [spl_nil]
    exact ⟨by simp, by simp, by simp, fun p hp c hc => .inl (by rw [List.mem_singleton.mp hp] at hc; exact hc)⟩
  | c :: r, acc => by
    by_cases h : c = m
    · rw [spl_hit (by rw [pre_is, decide_eq_true h])]
      obtain ⟨a1, a2, a3, a4⟩ := spl_facts m r []
      show 1 ≤ (acc :: spl [m] 0 [] r).length ∧ (acc :: spl [m] 0 [] r).length ≤ _ ∧ ((acc :: spl [m] 0 [] r).map List.length).sum ≤ _ ∧ ∀ p ∈ acc :: spl [m] 0 [] r, _
      refine ⟨by simp, ?_, ?_, fun p hp d hd => ?_⟩
      · simp only [List.length_cons]; omega
      · simp only [List.map_cons, List.sum_cons, List.length_cons, List.length_nil] at a3 ⊢; omega
      · rcases List.mem_cons.mp hp with rfl | hp
        · exact .inl hd
        · rcases a4 p hp d hd with z | ⟨z, n⟩
          · cases z
          · exact .inr ⟨List.mem_cons_of_mem _ z, n⟩
    · rw [spl_miss (by rw [pre_is, decide_eq_false h])]
      obtain ⟨a1, a2, a3, a4⟩ := spl_facts m r (acc ++ [c])
      refine ⟨a1, ?_, ?_, fun p hp d hd => ?_⟩
      · simp only [List.length_cons]; omega
      · simp only [List.length_append, List.length_cons, List.length_nil] at a3 ⊢; omega
      · rcases a4 p hp d hd with z | ⟨z, n⟩
        · rcases List.mem_append.mp z with z | z
          · exact .inl z
          · rw [List.mem_singleton.mp z]; exact .inr ⟨List.mem_cons_self .., h⟩
        · exact .inr ⟨List.mem_cons_of_mem _ z, n⟩
theorem split_tl (z : Str) {m : Nat} (hm : m < 256) : (Txt.split z ⟨#[m]⟩).map tl = spl [m] 0 [] (tl z) := by
  rw [split_spl z ⟨#[m]⟩ (by show [m] ≠ []; simp) (kind_ok (by simp [hm]))]
theorem blank_is : (" " : Str) = ⟨#[32]⟩ := by decide +kernel
structure Splits (z : Str) (ws : List Str) : Prop where
  some_ : 1 ≤ ws.length
  few : ws.length ≤ 1 + z.length
  sum : (ws.map (·.length)).sum ≤ z.length
  mem : ∀ y ∈ ws, ∀ c ∈ tl y, c ∈ tl z ∧ c ≠ 32
theorem splits (z : Str) : Splits z (Txt.split z " ") := by
  have e := split_tl z (m := 32) (by decide)
  rw [← blank_is] at e
  obtain ⟨a1, a2, a3, a4⟩ := spl_facts 32 (tl z) []
  rw [← e] at a1 a2 a3 a4
  rw [List.length_map] at a1 a2
  refine ⟨a1, by rw [len_tl]; exact a2, ?_, fun y hy c hc => ?_⟩
  · have q : (Txt.split z " ").map (·.length) = ((Txt.split z " ").map tl).map List.length := by rw [List.map_map]; exact List.map_congr_left fun y _ => len_tl y
    rw [q, len_tl]
    simpa using a3
  · rcases a4 (tl y) (List.mem_map_of_mem hy) c hc with h | h
    · cases h
    · exact h
theorem mem_sum : ∀ {l : List Nat} {n : Nat}, n ∈ l → n ≤ l.sum
  | x :: r, n, h => by
    rw [List.sum_cons]
    rcases List.mem_cons.mp h with rfl | m
    · omega
    · have := mem_sum m; omega
theorem Splits.le {z : Str} {ws : List Str} (h : Splits z ws) {y : Str} (m : y ∈ ws) : y.length ≤ z.length := Nat.le_trans (mem_sum (List.mem_map_of_mem m)) h.sum
theorem Splits.plain {z : Str} {ws : List Str} (h : Splits z ws) (p : Plain z) {y : Str} (m : y ∈ ws) : Plain y := fun c hc => p c (h.mem y m c hc).1
/-- a joined line of words without blanks, split -/
theorem split_line {ws : List Str} (h1 : 1 ≤ ws.length) (h : ∀ y ∈ ws, 32 ∉ tl y) : Txt.split (Txt.join " " ws) " " = ws :=
  split_join (s := 32) (S := []) (by decide +kernel) (by decide +kernel) (fun e => by rw [e] at h1; simp at h1) h
end TS

/-! ### 31. a def that may raise, called by the names of its parameters -/
namespace TS
open PySem PySem.Spec PyProof.Rows L2
/-- a def and its promise, however it is called -/
def FnX (P : Program) (w : World) (K : PySem.W.Frag) (mg : Str → Option Value) (base : Heap) (k : Nat) (x : Str) (st : Stmt) (ps : List Str) (sp : Sp) : Prop :=
  ∃ f fd, FunD K x x (defArgs st) (defBody st) (defScope st) [] [] f fd ∧ mg x = some (.ref f) ∧ FnOk P w K mg base (L2.CX P w) k f fd ps sp
def PromXN (P : Program) (w : World) (K : PySem.W.Frag) (mg : Str → Option Value) (base : Heap) (k : Nat) (x : Str) (ps : List Str) (sp : Sp) (n : Nat) (ks : List Str) (gV : List V → List V → List V) : Prop :=
  ∃ f fd g, FnOk P w K mg base (L2.CX P w) k f fd ps sp ∧ mg x = some (.ref f) ∧ PySem.W.keepIn K (.ref f) = true ∧ KBn K fd ps n ks g gV
section
variable {P : Program} {w : World} {K : PySem.W.Frag} {mg : Str → Option Value} {base : Heap} {N ps ks : List Str} {k n : Nat} {sp : Sp} {x : Str} {st : Stmt}
theorem fnX_mk (D : Def K mg x st) (S : FnScope N ps (defScope st)) (len : ∀ vs H Q E, sp vs H Q E → vs.length = ps.length)
    (body : ∀ (f : Addr) (cdv : Value) (A : Around) (outer : List Env) (s : Shared) (H : Hp) (vs : List V) (Q : VK) (E : XK), Room k (A.deeper (envOfC x (defScope st) s.heap.objs.size f cdv)) → sp vs H Q E →
      ∃ t, PSs (cxOf (L2.CX P w) P w K mg base N x (defScope st) f cdv A outer s H E) (defBody st) t ∧ t { nx := fun _ G => Q .non G, rt := Q } (start N vs) H) : FnX P w K mg base (k + 1) x st ps sp := by
  obtain ⟨f, fd, F, m⟩ := D
  exact ⟨f, fd, F, m, F.ok S len (body f)⟩
theorem FnX.pos (h : FnX P w K mg base k x st ps sp)
    (hb : ∀ (kV doc pm : Value) (an : Option Addr) (cdv ct : Value) (us : List Value), us.length = ps.length → bindArgs (PySem.W.fnOf x x (defArgs st) (defBody st) (defScope st) .none kV doc pm an cdv ct) ⟨us, []⟩ = pure (ps.zip us)) : PromX P w K mg base k x ps sp := by
  obtain ⟨f, fd, F, m, o⟩ := h
  exact ⟨f, ⟨fd, o, F.bindsN hb⟩, m, F.kp⟩
theorem FnX.names (h : FnX P w K mg base k x st ps sp) (n : Nat) (ks : List Str) (g : {α : Type} → List α → List α → List α) (hrel : ∀ {vs zs : List V} {us ws : List Value}, Vals vs us → Vals zs ws → Vals (g vs zs) (g us ws))
    (hb : ∀ (kV doc pm : Value) (an : Option Addr) (cdv ct : Value) (us ws : List Value), us.length = n → ws.length = ks.length → bindArgs (PySem.W.fnOf x x (defArgs st) (defBody st) (defScope st) .none kV doc pm an cdv ct) ⟨us, ks.zip ws⟩ = pure (ps.zip (g us ws))) :
    PromXN P w K mg base k x ps sp n ks (fun vs zs => g vs zs) := by
  obtain ⟨f, fd, F, m, o⟩ := h
  refine ⟨f, fd, fun us ws => g us ws, o, m, F.kp, ?_, fun r1 r2 => hrel r1 r2⟩
  obtain ⟨oc, od, dV, kV, doc, pm, an, cdv, ct, osl, rfl, lk, hcd, hD, hK⟩ := F.ex
  rcases hD with ⟨_, rfl⟩ | ⟨e, _⟩
  · exact fun s us ws X l1 l2 => BindsTo.of_looks fun M => by rw [hb kV doc pm an cdv ct us ws l1 l2]; exact .now
  · exact absurd rfl e
end
section
variable {X : Cx} {k : Nat} {ps ks : List Str} {sp : Sp} {W : WX} {x : Str} {p pos : Pos} {kws : List Keyword} {tk : TA} {gV : List V → List V → List V}
theorem pe_pcXN (pr : PromXN X.prog X.w X.K X.mg X.base k x ps sp 0 ks gV) (tkn : Takes X W) (hr : Room k X.A) (hg : Gl X x) (hkw : PK X kws tk)
    (hall : (backToKw pos (keywordEach kws X.env)).all (·.1.isSome) = true := by rfl) (hks : (backToKw pos (keywordEach kws X.env)).filterMap (·.1) = ks := by rfl) (hdb : (x == ("__debug__" : Str)) = false := by decide)
    (hpl : ((backTo pos (starEach [] X.env)).any (·.1) || (backToKw pos (keywordEach kws X.env)).any (·.1.isNone)) = false := by rfl) :
    PE X (.Call (.Name x p) [] kws pos) (fun σ H Q => tk σ H fun zs H1 => zs.length = ks.length ∧ sp (gV [] zs) H1 Q (WE W σ)) := by
  obtain ⟨f, fd, g, F, hm, kp, b⟩ := pr
  refine ⟨fun pins s σ H Q J h => wpAny_Call_Name_kw (ld_glob J hg hm ?_ hdb)⟩
  refine PySem.W.callWith_KW0 (h₀ := X.base) J.ok.mod.kin kp hall ?_ hpl
  refine thn (hkw.run pos pins s σ H _ J h) fun ws s2 ⟨zs, H2, J2, rz, l2, q2⟩ => ⟨J2.kIn, ?_⟩
  rw [hks]
  refine wpAny_call (codeAny_mono (F.run X.A X.stack s2 H2 ⟨[], ks.zip ws⟩ (g [] ws) (gV [] zs) Q (WE W σ) hr J2.env0 (b.to s2 [] ws J2.kIn rfl (rz.length.symm.trans l2)) (b.rel .nil rz) q2) fun o t z => ?_)
  match o, z with
  | .error e, z => exact passAt tkn σ pins _ _ e t J2 z
  | .ok (.ret u), z => exact J2.after z
end
end TS

/-! ### 32. data that may be compared -/
namespace TS
open PySem PySem.Spec PyProof.Rows L2 TL
mutual
theorem Dt.dp {K : PySem.W.Frag} {H : Hp} : ∀ {v : V} {d : PyData}, Dt K H v d → d.canLay0 = true → Dp K H v d
  | _, _, .non, _ => .non
  | _, _, .bl b, _ => .bl b
  | _, _, .int i, _ => .int i
  | _, _, .str x, _ => .str x
  | _, _, .lst h a, c => .lst h (DtAll.dp a (by simpa [PyData.canLay0] using c))
  | _, _, .tup h a, c => .tup h (DtAll.dp a (by simpa [PyData.canLay0] using c))
  | _, _, .dct _ _ _, c => by simp [PyData.canLay0] at c
theorem DtAll.dp {K : PySem.W.Frag} {H : Hp} : ∀ {v : List V} {d : List PyData}, DtAll K H v d → PyData.canLayAll0 d = true → DpAll K H v d
  | _, _, .nil, _ => .nil
  | _, _, .cons a b, c => by
    unfold PyData.canLayAll0 at c
    obtain ⟨c1, c2⟩ := Bool.and_eq_true_iff.mp c
    exact .cons (Dt.dp a c1) (DtAll.dp b c2)
end
theorem lay_all : ∀ {ds : List PyData}, (∀ e ∈ ds, e.canLay0 = true) → PyData.canLayAll0 ds = true
  | [], _ => rfl
  | e :: r, h => by unfold PyData.canLayAll0; rw [h e (by simp), lay_all fun x m => h x (List.mem_cons_of_mem _ m)]; rfl
theorem shaped_list {ds : List PyData} (h : ∀ e ∈ ds, e.canLay0 = true ∧ e.depth ≤ 30) : SeqAt.shaped (.list ds) = true := by
  unfold SeqAt.shaped
  rw [show (PyData.list ds).canLay0 = true by unfold PyData.canLay0; exact lay_all fun e m => (h e m).1, Bool.true_and]
  refine decide_eq_true ?_
  unfold PyData.depth
  have := all_deep fun e m => (h e m).2
  omega
theorem eqvAll_nil (l : List PyData) : PyData.eqv (.list l) (.list []) = l.isEmpty := by
  unfold PyData.eqv
  cases l <;> rfl
theorem dt_strs {K : PySem.W.Frag} {G : Hp} : ∀ zs : List Str, DtAll K G (zs.map V.str) (zs.map PyData.str)
  | [] => .nil
  | z :: r => .cons (.str z) (dt_strs r)
theorem eqv_strs2 : ∀ zs ys : List Str, PyData.eqvAll (zs.map PyData.str) (ys.map PyData.str) = decide (zs = ys)
  | [], [] => rfl
  | [], y :: r => rfl
  | z :: r, [] => rfl
  | z :: r, y :: t => by
    show ((z == y) && PyData.eqvAll (r.map PyData.str) (t.map PyData.str)) = _
    rw [eqv_strs2 r t]
    by_cases h : z = y
    · subst h; simp
    · have e : (z == y) = false := by simpa using h
      rw [e]; simp [h]
def Lays (zs : List Str) : Prop := ∀ z ∈ zs, (PyData.str z).canLay0 = true
theorem Lays.all {zs : List Str} (h : Lays zs) : ∀ e ∈ zs.map PyData.str, e.canLay0 = true ∧ e.depth ≤ 30 := fun e he => by
  obtain ⟨z, hz, rfl⟩ := List.mem_map.mp he
  exact ⟨h z hz, Nat.zero_le _⟩
theorem Lays.of_plain {zs : List Str} (h : ∀ z ∈ zs, Plain z) : Lays zs := fun z hz => by
  show z.cps.all (· < 0x110000) = true
  rw [← Array.all_toList, List.all_eq_true]
  exact fun c m => decide_eq_true (Nat.lt_of_lt_of_le (h z hz c m) (by decide))
/-- two lists of texts, compared -/
theorem strs_eq {K : PySem.W.Frag} {G : Hp} {a b : Addr} {zs ys : List Str} {Q : VK} (ha : SqL K G a (zs.map V.str)) (hb : SqL K G b (ys.map V.str)) (lz : Lays zs) (ly : Lays ys) (q : Q (.bl (decide (zs = ys))) G) : rEqD K (.ref a) (.ref b) G Q := by
  refine ⟨.list (zs.map .str), .list (ys.map .str), Dp.lst ha ((dt_strs zs).dp (lay_all fun e he => (lz.all e he).1)), Dp.lst hb ((dt_strs ys).dp (lay_all fun e he => (ly.all e he).1)), shaped_list lz.all, shaped_list ly.all, ?_⟩
  have e : PyData.eqv (.list (zs.map PyData.str)) (.list (ys.map PyData.str)) = decide (zs = ys) := by
    unfold PyData.eqv
    exact eqv_strs2 zs ys
  rw [e]
  exact q
theorem strs_ne {K : PySem.W.Frag} {G : Hp} {a b : Addr} {zs ys : List Str} {Q : VK} (ha : SqL K G a (zs.map V.str)) (hb : SqL K G b (ys.map V.str)) (lz : Lays zs) (ly : Lays ys) (q : Q (.bl (!decide (zs = ys))) G) : rNeD K (.ref a) (.ref b) G Q := by
  refine ⟨.list (zs.map .str), .list (ys.map .str), Dp.lst ha ((dt_strs zs).dp (lay_all fun e he => (lz.all e he).1)), Dp.lst hb ((dt_strs ys).dp (lay_all fun e he => (ly.all e he).1)), shaped_list lz.all, shaped_list ly.all, ?_⟩
  have e : PyData.eqv (.list (zs.map PyData.str)) (.list (ys.map PyData.str)) = decide (zs = ys) := by
    unfold PyData.eqv
    exact eqv_strs2 zs ys
  rw [e]
  exact q
end TS

/-! ### 33. own ==, !=, in: K named -/
namespace TS
open PySem PySem.Spec PyProof.Rows L2
/-- an instance with anything, or data with an instance -/
def rEqLR (K : PySem.W.Frag) (C : Addr) (sp : Sp) : R2 := fun x y H Q => rEqL K C sp x y H Q ∨ rEqR K C sp x y H Q
/-- data with an instance of C, or an instance of C2 with anything -/
def rEqRW (K : PySem.W.Frag) (C C2 : Addr) (sp sp2 : Sp) : R2 := fun x y H Q => rEqR K C sp x y H Q ∨ rEqL K C2 sp2 x y H Q
section
variable {X : Cx} {K : PySem.W.Frag} {k k2 : Nat} {C C2 f f2 : Addr} {ps ps2 : List Str} {sp sp2 : Sp}
theorem op_eqLR (M : Meth K C "__eq__" f) (ap : ApK K C) (pr : PromA CX0 X.prog X.w K X.mg X.base k f ps sp) (hr : Room k X.A) (hK : X.K = K := by rfl) : OpR X (compareOp .Eq) (rEqLR K C sp) := by
  subst hK
  exact EqP.op (EqP.or (eq_left M ap pr (Plc.own hr)) (eq_right M ap pr (Plc.own hr)))
theorem op_eqRW (M : Meth K C "__eq__" f) (ap : ApK K C) (pr : PromA CX0 X.prog X.w K X.mg X.base k f ps sp) (hr : Room k X.A) (M2 : Meth K C2 "__eq__" f2) (ap2 : ApK K C2) (pr2 : PromA CX0 X.prog X.w K X.mg X.base k2 f2 ps2 sp2) (hr2 : Room k2 X.A) (hK : X.K = K := by rfl) :
    OpR X (compareOp .Eq) (rEqRW K C C2 sp sp2) := by
  subst hK
  exact EqP.op (EqP.or (eq_right M ap pr (Plc.own hr)) (eq_left M2 ap2 pr2 (Plc.own hr2)))
theorem op_neLK (M : Meth K C "__eq__" f) (N : NeC K C) (ap : ApK K C) (pr : PromA CX0 X.prog X.w K X.mg X.base k f ps sp) (hr : Room (k + 1) X.A) (hK : X.K = K := by rfl) : OpR X (compareOp .NotEq) (rNeL K C sp) := by
  subst hK
  exact op_neL M N ap pr hr
theorem op_inLR (M : Meth K C "__eq__" f) (ap : ApK K C) (pr : PromA CX0 X.prog X.w K X.mg X.base k f ps sp) (hr : Room (k + 1) X.A) (hK : X.K = K := by rfl) : OpR X (compareOp .In) (rInO (rEqLR K C sp)) := by
  subst hK
  exact op_inO (EqP.or (eq_left M ap pr (Plc.own hr).in1) (eq_right M ap pr (Plc.own hr).in1))
end
end TS

/-! ### 34. a text many times -/
namespace TS
open PySem PySem.Spec PyProof.Rows L2 TL
theorem rep_size (z : Array Nat) : ∀ (n : Nat) (acc : Array Nat), ((List.replicate n z).foldl (· ++ ·) acc).size = acc.size + z.size * n
  | 0, acc => by simp
  | n + 1, acc => by
    rw [List.replicate_succ, List.foldl_cons, rep_size z n, Array.size_append, Nat.mul_succ]
    omega
section
variable {X : Cx}
/-- a text many times -/
def rRepS : R2 := fun x y H Q => ∃ (z : Str) (n : Nat), x = .str z ∧ y = .int n ∧ 2 ≤ n ∧ z.length ≠ 0 ∧ z.length * n ≤ 100000 ∧ Q (.str ⟨(List.replicate n z.cps).foldl (· ++ ·) #[]⟩) H
theorem op_repS : OpR X (binaryOp .Mult) rRepS := by
  intro pins s σ H x y v u Q I rx ry h
  obtain ⟨z, n, rfl, rfl, hn, hz, hl, q⟩ := h
  obtain ⟨t, rfl⟩ := rx
  obtain ⟨t', rfl⟩ := ry
  have hn1 : n ≤ z.length * n := Nat.le_mul_of_pos_left _ (by omega)
  have e1 : ((n : Int) == 1 || z.length == 0) = false := by
    have h1 : ((n : Int) == 1) = false := beq_eq_false_iff_ne.mpr (by omega)
    have h2 : (z.length == 0) = false := beq_eq_false_iff_ne.mpr hz
    rw [h1, h2]; rfl
  have hnn : ¬ (n : Int) < 1 := by omega
  refine PySem.P.mul_str ?_ (fun _ _ => ?_) (fun _ _ => ?_) ?_
  · rw [decide_eq_false (by omega), decide_eq_false (by omega)]; rfl
  · have h3 : (1 : Int) ≤ n := by omega
    have h4 : (z.length : Int) ≤ 100000 := by
      have := Nat.le_mul_of_pos_right z.length (show 0 < n by omega)
      omega
    have h5 : (n : Int) ≤ 100000 := by omega
    have h6 : (2 ^ 63 - 1 : Int) / 100000 ≤ (2 ^ 63 - 1) / n := by
      rw [Int.le_ediv_iff_mul_le (by omega)]
      have h7 : (2 ^ 63 - 1 : Int) / 100000 * n ≤ (2 ^ 63 - 1 : Int) / 100000 * 100000 := Int.mul_le_mul_of_nonneg_left h5 (by decide)
      have h8 : (2 ^ 63 - 1 : Int) / 100000 * 100000 ≤ 2 ^ 63 - 1 := by decide
      omega
    have h9 : (100000 : Int) ≤ (2 ^ 63 - 1 : Int) / 100000 := by decide
    omega
  · unfold PySem.Builtin.Str.tooLong
    rw [Int.toNat_natCast]
    exact decide_eq_false (by have := Nat.le_trans hl (show 100000 ≤ sizeLine by decide); omega)
  · rw [if_neg hnn, e1, if_neg Bool.false_ne_true]
    refine ⟨?_, ⟨.str _, H, I.tok _, ⟨_, by rw [Int.toNat_natCast]⟩, q⟩⟩
    rw [Int.toNat_natCast]
    refine Nat.le_trans (Nat.le_trans (Nat.le_of_eq ?_) hl) (show 100000 ≤ sizeLine by decide)
    show ((List.replicate n z.cps).foldl (· ++ ·) #[]).size = z.length * n
    rw [rep_size]
    simp
    rfl
end

end TS

set_option maxHeartbeats 2000000
/-! ### 35. own exceptions with one field over any of Python's plain error classes -/
namespace TS
open PySem PySem.Spec PyProof.Rows L2
open Builtin Builtin.ObjectAttr in
/-- what Python's own class B gives; it is made by nw, which may be another class's -/
structure Bas (B nw ini : String) (tl : List Value) : Prop where
  by_ : ∃ L iniL tlL, ExcBaseFacts L nw iniL tlL ∧ tl.contains (.type L) = true
  slot : Slot B "__init__" ini
  entry : entryFor table ini = some Builtin.«BaseException.__init__»
  split : splitId ini = some (B, "__init__")
  kind : builtinKind ini = some .slot
  row : Manifest.signature? ini = some ⟨.positional, "*", B, .self, [⟨"args", .varPos, false⟩]⟩
  star : (B != "*") = true
  hasB : tl.contains (.type B) = true
  noA : tl.contains (.type "AttributeError") = false
  noN : tl.contains (.type "NameError") = false
  pass : ∀ x : Value, refuseLoop x "__setattr__" tl = pure ()
  ob : tl.contains (.type "object") = true
  no : tl.isEmpty = false
  handed : PySem.W.handedIn (.builtin ini) = true
theorem bas_Key : Bas "KeyError" "LookupError.__new__" "KeyError.__init__" keyT where
  by_ := ⟨_, _, _, F.excBase_LookupError, by decide +kernel⟩
  slot := by
    refine .of (owner := "KeyError") (n := "__init__") ?_ ?_ ?_ ?_ ?_ ?_
    · rw [typeLookup_type, builtinLookup_eq_fast]; kernel_rfl
    · decide +kernel
    · decide +kernel
    · decide +kernel
    · first | exact .inl (by decide +kernel) | exact .inr (by decide +kernel)
    · rw [isSubtype_type]; kernel_rfl
  entry := by
    refine entryFor_alias (id' := "BaseException.__init__") ?_ ?_ ?_ ?_
    · rw [fastTable_eq_tree]; kernel_rfl
    · first | rfl | decide +kernel
    · decide +kernel
    · rw [fastTable_eq_tree]; kernel_rfl
  split := by kernel_rfl
  kind := by kernel_rfl
  row := by kernel_rfl
  star := by decide +kernel
  hasB := by decide +kernel
  noA := by decide +kernel
  noN := by decide +kernel
  pass := fun _ => by kernel_rfl
  ob := by decide +kernel
  no := by decide +kernel
  handed := by decide +kernel
/-! making one: BaseException.__new__, then the own __init__ -/
section
variable {M : Model} {A : Around} {E : Value → Shared → Prop} {hh : Heap} {gg : Array GenState} {dr : Drawn} {tn : Nat} {os : OsState}
variable {nm q : Str} {C N : Addr} {bs bm tlL : List Value} {hdct : Bool} {sn : List Str} {sub : List Value} {ab : Bool} {col : Option Bool} {dd : Option Addr} {k0 k1 k2 k3 k5 : Option Value} {L nw iniL B ini : String} {tl : List Value}
theorem check_newT (Fx : ExcBaseFacts L nw iniL tlL) (has : bm.contains (.type L) = true) {rest : List Value} {Q : Unit → Shared → Prop}
    (ec : hh.get? C = some (excClassObj nm q C N bs bm hdct sn sub ab col dd k0 k1 k2 k3 k5 nw)) (fin : Q () ⟨hh, gg, dr, tn, os⟩) : wpAny M A (checkBuiltinCall nw ⟨.ref C :: rest, []⟩) Q E ⟨hh, gg, dr, tn, os⟩ := by
  have has' : (Value.ref C :: bm).contains (.type L) = true := by rw [List.contains_cons, has, Bool.or_true]
  have st := Fx.noStar
  simp only [checkBuiltinCall, Fx.newKind, Fx.newSplit, Fx.newRow]
  repeat (first | refine wpAny_loadPart_at ec ?_ | (refine wpAny_isSubtype_exc ec ?_; rw [has']) | refine wpAny_staticBase_exc ec ?_ | refine wpAny_madeBy_exc ec ?_ | simp only [bne_self_eq_false, Bool.false_eq_true, if_false] | wp_step)
  exact fin
theorem check_initT (kind : builtinKind ini = some .slot) (split : splitId ini = some (B, "__init__")) (row : Manifest.signature? ini = some ⟨.positional, "*", B, .self, [⟨"args", .varPos, false⟩]⟩) (star : (B != "*") = true) (has : bm.contains (.type B) = true)
    {e : Addr} {oe : Obj} {rest : List Value} {Q : Unit → Shared → Prop}
    (ec : hh.get? C = some (excClassObj nm q C N bs bm hdct sn sub ab col dd k0 k1 k2 k3 k5 nw)) (he : hh.get? e = some oe) (hcls : oe.cls = .ref C) (fin : Q () ⟨hh, gg, dr, tn, os⟩) :
    wpAny M A (checkBuiltinCall ini ⟨.ref e :: rest, []⟩) Q E ⟨hh, gg, dr, tn, os⟩ := by
  have has' : (Value.ref C :: bm).contains (.type B) = true := by rw [List.contains_cons, has, Bool.or_true]
  have st := star
  simp only [checkBuiltinCall, kind, split, row]
  repeat (first | (with_reducible refine wpAny_loadPart_at he ?_; rw [hcls]) | with_reducible refine wpAny_loadPart_at ec ?_ | (with_reducible refine wpAny_isSubtype_exc ec ?_; rw [has']) | wp_step)
  refine wpAny_onRaise ?_
  have none_ : ∀ (a b : String) (n : Nat), Bind.check ⟨.positional, "*", B, .self, [⟨"args", .varPos, false⟩]⟩ a b n (List.map (fun x => x.fst) ({ pos := Value.ref e :: rest } : Args).kw) = pure () := fun a b n => check_star_args _ _ _ _ _ _
  rw [none_]
  exact wpAny_pure fin
end
section
variable {prog : Program} {w : World} {A : Around} {E : Value → Shared → Prop} {R : Result → Shared → Prop} {hh : Heap} {gg : Array GenState} {dr : Drawn} {tn : Nat} {os : OsState}
variable {nm q : Str} {C N : Addr} {bs bm tlL : List Value} {hdct : Bool} {sn : List Str} {sub : List Value} {ab : Bool} {col : Option Bool} {dd : Option Addr} {k0 k1 k2 k3 k5 : Option Value} {L nw iniL : String}
theorem newT (Fx : ExcBaseFacts L nw iniL tlL) (has : bm.contains (.type L) = true) (noA : bm.contains (.type "AttributeError") = false) (noN : bm.contains (.type "NameError") = false) {rest : List Value}
    (ec : hh.get? C = some (excClassObj nm q C N bs bm hdct sn sub ab col dd k0 k1 k2 k3 k5 nw))
    (fin : R (.ok (.ret (.ref (hh.objs.size + 1)))) ⟨(hh.push { cls := .type "tuple", data := .seq rest.toArray }).push
      { cls := .ref C, data := .fields #[.ref hh.objs.size, .none, .none, .none, .bool false, .none] }, gg, dr, tn, os⟩) (few : rest.length ≤ sizeLine) :
    codeAny (model prog w) A (.builtin nw ⟨.ref C :: rest, []⟩) R ⟨hh, gg, dr, tn, os⟩ := by
  have hends := Fx.ends
  have hasL : (Value.ref C :: bm).contains (.type L) = true := by rw [List.contains_cons, has, Bool.or_true]
  have hasA : (Value.ref C :: bm).contains (.type "AttributeError") = false := by rw [List.contains_cons, noA]; rfl
  have hasN : (Value.ref C :: bm).contains (.type "NameError") = false := by rw [List.contains_cons, noN]; rfl
  refine codeAny_builtinAt Fx.entry ?_
  unfold Builtin.«BaseException.__new__»
  refine PySem.wpAt_bind ?_
  show PySem.wpAt _ _ _ (stack >>= _) _ _ _
  refine PySem.wpAt_bind (PySem.wpAt_stack fun p below => PySem.wpAt_of_wpAny ?_)
  wp_walk
  refine PySem.wpAt_of_wpAny ?_
  rw [Fx.owner]
  repeat (first | with_reducible refine wpAny_madeHere_exc Fx.canon ec ?_ | with_reducible refine wpAny_loadPart_at ec ?_ | (with_reducible refine wpAny_isSubtype_exc ec ?_; first | rw [hasL] | rw [hasA] | rw [hasN]) | wp_step)
  show R _ _
  rw [Heap.size_push]
  exact fin
open HandSPX in
theorem type_callT (Fx : ExcBaseFacts L nw iniL tlL) (has : bm.contains (.type L) = true) (noA : bm.contains (.type "AttributeError") = false) (noN : bm.contains (.type "NameError") = false) {rest : List Value} {fI : Addr} {Q : Fin → Shared → Prop}
    (ec : hh.get? C = some (excClassObj nm q C N bs bm hdct sn sub ab col dd k0 k1 k2 k3 k5 nw))
    (li : PySem.W.Looks (model prog w) hh (typeLookup (.ref C) "__init__") (some (.ref fI))) (lb : ∀ self, PySem.W.Looks (model prog w) hh (bindSpecial (.ref fI) self) (.ref fI, [self])) (few : rest.length ≤ sizeLine)
    (k : codeAny (model prog w) A (.call (.ref fI) ⟨.ref (hh.objs.size + 1) :: rest, []⟩)
      (fun r s' => match r with | .ok (.ret v) => v = .none ∧ Q (.done (.ret (.ref (hh.objs.size + 1)))) s' | .ok _ => False | .error e => E e s')
      ⟨(hh.push (PySem.W.kdv_tup rest)).push (excO C hh.objs.size), gg, dr, tn, os⟩) :
    wpAny (model prog w) A (Builtin.«type.__call__» ⟨.ref C :: rest, []⟩) Q E ⟨hh, gg, dr, tn, os⟩ := by
  repeat (first | with_reducible refine wpAny_loadPart_at ec ?_ | with_reducible refine wpAny_madeBy_exc ec ?_ | wp_step)
  refine codeAny_call_builtin_code (Code.quiet_builtin _ Fx.quiet) (check_newT Fx has ec ?_)
  refine newT Fx has noA noN ec ?_ few
  show wpAny _ _ _ _ _ _
  have kk : ∀ b o, hh.get? b = some o → ((hh.push (PySem.W.kdv_tup rest)).push (excO C hh.objs.size)).get? b = some o := fun b o z => Heap.get?_push_of_some _ (Heap.get?_push_of_some _ z)
  have ec' := kk _ _ ec
  have got : ((hh.push (PySem.W.kdv_tup rest)).push (excO C hh.objs.size)).get? (hh.objs.size + 1) = some (excO C hh.objs.size) := by heap_get
  have own : (Value.ref C :: bm).contains (.ref C) = true := by simp
  have li' := li.keeps kk
  have lb' := (lb (.ref (hh.objs.size + 1))).keeps kk
  unfold isInstance
  repeat (first | with_reducible refine wpAny_loadPart_at got ?_ | (with_reducible refine wpAny_isSubtype_exc ec' ?_; rw [own]) | wp_step)
  show wpAny _ _ (typeLookup (.ref C) _) _ _ _
  refine li'.at ?_
  refine wpAny_holding (wpAny_bind (lb'.at ?_))
  refine wpAny_bind (wpAny_call (codeAny_mono k fun r s' z => ?_))
  rcases r with e | (v | _ | _ | _) <;> first | exact z | exact z.elim | skip
  obtain ⟨rfl, z⟩ := z
  first
    | exact wpAny_pure (wpAny_pure z)
    | (wp_walk; exact z)
open HandSPX in
theorem call_ownT (Fx : ExcBaseFacts L nw iniL tlL) (has : bm.contains (.type L) = true) (noA : bm.contains (.type "AttributeError") = false) (noN : bm.contains (.type "NameError") = false) {rest : List Value} {fI : Addr}
    (ec : hh.get? C = some (excClassObj nm q C N bs bm hdct sn sub ab col dd k0 k1 k2 k3 k5 nw))
    (li : PySem.W.Looks (model prog w) hh (typeLookup (.ref C) "__init__") (some (.ref fI))) (lb : ∀ self, PySem.W.Looks (model prog w) hh (bindSpecial (.ref fI) self) (.ref fI, [self])) (few : rest.length ≤ sizeLine)
    (k : codeAny (model prog w) (A.under (.builtin "type.__call__" ⟨.ref C :: rest, []⟩)) (.call (.ref fI) ⟨.ref (hh.objs.size + 1) :: rest, []⟩) (PySem.W.InitBack (hh.objs.size + 1) R)
      ⟨(hh.push (PySem.W.kdv_tup rest)).push (excO C hh.objs.size), gg, dr, tn, os⟩) :
    codeAny (model prog w) A (.call (.ref C) ⟨rest, []⟩) R ⟨hh, gg, dr, tn, os⟩ := by
  have f1 := tc_lookup
  have f2 := tc_bind (.ref C)
  have isT : (⟨hh, gg, dr, tn, os⟩ : Shared).TypeIs (.ref C) "type" := ⟨_, ec, rfl⟩
  refine codeAny_of_tree ?_
  show wpAny _ _ (callAny (.ref C) _) _ _ _
  repeat (any_goals (first | assumption | with_reducible refine wpAny_loadPart_at ec ?_ | wp_step))
  refine ⟨rfl, ?_⟩
  refine codeAny_call_builtin_at (Code.quiet_builtin _ (by decide +kernel)) entry_typeCall (wpAny_check_type_call_sub ec (type_callT Fx has noA noN ec li lb few ?_))
  refine codeAny_mono k fun r s' z => ?_
  rcases r with e | (v | _ | _ | _) <;> exact z
open HandSPX in
/-- B.__init__(e, ..): the values are laid anew -/
theorem init_baseT {B ini : String} {tl : List Value} (Fb : Bas B nw ini tl) (has : bm.contains (.type B) = true) {e t0 : Addr} {rest : List Value}
    (ec : hh.get? C = some (excClassObj nm q C N bs bm hdct sn sub ab col dd k0 k1 k2 k3 k5 nw)) (he : hh.get? e = some (excO C t0)) (few : rest.length ≤ sizeLine)
    (k : ∀ h' t1, (∀ b o, b ≠ e → hh.get? b = some o → h'.get? b = some o) → h'.get? e = some (excO C t1) → R (.ok (.ret .none)) ⟨h', gg, dr, tn, os⟩) :
    codeAny (model prog w) A (.call (.builtin ini) ⟨.ref e :: rest, []⟩) R ⟨hh, gg, dr, tn, os⟩ := by
  refine codeAny_call_builtin Fb.slot.plain Fb.entry (check_initT Fb.kind Fb.split Fb.row Fb.star has ec he rfl ?_)
  wp_walk
  refine k _ hh.objs.size (fun b o hb ho => ?_) ?_
  · rw [Heap.get?_update_other _ _ (Ne.symm hb)]
    exact Heap.get?_push_of_some _ ho
  · rw [Heap.get?_update_self _ (Heap.get?_push_of_some _ he) rfl]
    rfl
end
theorem refsT_or {tl : List Value} (l : List Value) (h : refsT tl l = true) : (∃ c r, l = .ref c :: r ∧ refsT tl r = true) ∨ l = tl := by
  unfold refsT at h
  split at h
  · rename_i c r
    exact .inl ⟨c, r, rfl, h⟩
  · exact .inr (beq_iff_eq.mp h)
section
variable {B nw ini : String} {tl : List Value}
open Builtin Builtin.ObjectAttr in
theorem refsT_pass (F : Bas B nw ini tl) (x : Value) : ∀ l : List Value, refsT tl l = true → refuseLoop x "__setattr__" l = pure ()
  | [], h => by
    rcases refsT_or [] h with ⟨_, _, z, _⟩ | z
    · cases z
    · rw [z]; exact F.pass x
  | a :: r, h => by
    rcases refsT_or (a :: r) h with ⟨c, r', z, h'⟩ | z
    · obtain ⟨rfl, rfl⟩ := List.cons.inj z
      rw [refuseLoop_ref]
      exact refsT_pass F x r h'
    · rw [z]; exact F.pass x
theorem refsT_has (X : String) : ∀ l : List Value, refsT tl l = true → l.contains (.type X) = tl.contains (.type X)
  | [], h => by
    rcases refsT_or [] h with ⟨_, _, z, _⟩ | z
    · cases z
    · rw [← z]
  | a :: r, h => by
    rcases refsT_or (a :: r) h with ⟨c, r', z, h'⟩ | z
    · obtain ⟨rfl, rfl⟩ := List.cons.inj z
      rw [List.contains_cons, refsT_has X r h']
      rfl
    · rw [z]
theorem refsT_some (F : Bas B nw ini tl) {l : List Value} (h : refsT tl l = true) : l.isEmpty = false := by
  cases l with
  | nil =>
    rcases refsT_or [] h with ⟨_, _, z, _⟩ | z
    · cases z
    · rw [z]; exact F.no
  | cons _ _ => rfl
end
/-- what the written part says of the class C over B -/
structure OexT (K : PySem.W.Frag) (C : Addr) (nw : String) (tl : List Value) : Prop where
  cls : ∃ nm q N bs bm sn sub ab col dd k0 k1 k2 k3 k5, K.lookup C = some (excClassObj nm q C N bs bm true sn sub ab col dd k0 k1 k2 k3 k5 nw) ∧ refsT tl bm = true
  sa : PySem.W.findIn K (.ref C) "__setattr__" = some (some (.builtin "object.__setattr__"))
  exC : PySem.W.subIn K (.ref C) (.type "BaseException") = some true
  tyC : PySem.W.typeIn K (.ref C) = some (.type "type")
  kC : PySem.W.keepIn K (.ref C) = true
section
variable {prog : Program} {w : World} {A : Around} {E : Value → Shared → Prop} {R : Result → Shared → Prop} {hh : Heap} {gg : Array GenState} {dr : Drawn} {tn : Nat} {os : OsState} {B nw ini : String} {tl : List Value}
open Builtin Builtin.ObjectAttr HandSPX in
/-- x.name = v, x an exception that has no dict yet -/
theorem osa_first {K : PySem.W.Frag} {name : Str} {tk : Tok} {v : Value} {x C : Addr} {fv : Array Value} {cd : ClassData} (Fb : Bas B nw ini tl)
    (KI : K.In hh) (ex : hh.get? x = some { cls := .ref C, data := .fields fv }) (ec : PySem.W.clsIn K C = some cd) (rf : refsT tl cd.mro = true) (hd : cd.hasDict = true) (no : PySem.W.findIn K (.ref C) name = some none)
    (k : ∀ h' tk' dx, (∀ b o, b ≠ x → hh.get? b = some o → h'.get? b = some o) → hh.objs.size ≤ dx → dx ≠ x → h'.get? x = some { cls := .ref C, dict := some dx, data := .fields fv } →
      h'.Ns1 dx (fun y => if y = name then some v else none) → R (.ok (.ret .none)) ⟨h', gg, dr, tk', os⟩) :
    codeAny (model prog w) A (.call (.builtin "object.__setattr__") ⟨[.ref x, .str name tk, v], []⟩) R ⟨hh, gg, dr, tn, os⟩ := by
  have at_ : PySem.W.InstAt hh x { cls := .ref C, data := .fields fv } C none := ⟨ex, rfl, rfl, trivial⟩
  have St := F.store_object
  have some_ := refsT_some Fb rf
  have hasO : cd.mro.contains (.type "object") = true := (refsT_has "object" _ rf).trans Fb.ob
  have apart : x ≠ hh.objs.size := Nat.ne_of_lt (Heap.lt_size ex)
  have isO : PySem.W.Looks (model prog w) hh (isInstance (.ref x) (.type "object")) true := at_.type.andThen (PySem.W.looks_mroIn KI (by unfold PySem.W.mroIn; rw [ec, Option.bind_some, if_neg (by rw [some_]; decide), hasO]))
  refine codeAny_call_builtin St.slot.plain St.entry (@PySem.W.check_slot (model prog w) _ _ ⟨hh, gg, dr, tn, os⟩ "object.__setattr__" "object" "__setattr__" (.ref x) [.str name tk, v] [] _ St.kind St.split isO (St.args (.ref x) (.str name tk) v) ?_)
  have mroL : PySem.W.Looks (model prog w) hh (mroOf (.ref C)) cd.mro := (PySem.W.looks_clsIn KI ec).andThen .now
  have taker : PySem.W.Looks (model prog w) hh (storeTaker? none) none := .now
  have clsL : PySem.W.Looks (model prog w) hh (classData C) cd := PySem.W.looks_clsIn KI ec
  rw [PySem.W.osa_eq, refuse_eq]
  refine wpAny_bind (wpAny_bind (at_.type.at (wpAny_bind (mroL.at ?_))))
  rw [refsT_pass Fb _ _ rf]
  refine wpAny_pure (wpAny_bind (at_.type.at (wpAny_bind ((PySem.W.looks_findIn KI no).at (wpAny_bind (taker.at ?_))))))
  show wpAny _ _ (storeInOwnDict (.ref x) (.ref C) (.str name tk) name v false) _ _ _
  obtain ⟨nm, bs, mro, ns, qn, hd', sn, sb, ab, col, del⟩ := cd
  dsimp only at hd
  subst hd
  unfold storeInOwnDict ownDictForStores
  repeat (first | with_reducible refine HandSPX.store_in_new ?_ ?_ | with_reducible refine wpAny_loadPart_at ex ?_ | with_reducible refine clsL.at ?_ | wp_step)
  · exact ⟨_, #[], _, (Heap.get?_update_ne _ _ _ _ apart.symm).trans (Heap.get?_push_at rfl rfl), rfl, fun e he => absurd he (by simp), fun _ => rfl⟩
  · intro h' tk' nsd sb'
    have ex1 : (hh.push { cls := .type "dict", data := .dict #[] }).get? x = some { cls := .ref C, data := .fields fv } := Heap.get?_push_of_some _ ex
    refine k h' tk' hh.objs.size (fun b o hb ho => ?_) (Nat.le_refl _) apart.symm ?_ nsd
    · exact (sb'.2 b (Nat.ne_of_lt (Heap.lt_size ho))).trans ((Heap.get?_update_ne _ _ _ _ hb).trans (Heap.get?_push_of_some _ ho))
    · exact (sb'.2 x apart).trans (Heap.get?_update_self _ ex1 rfl)
end
section
variable {X : Cx} {pins : List (Addr × Obj)} {σ : L2.St} {H : Hp} {s : Shared} {a C : Addr} {f : Str} {y : V} {u : Value} {E : Value → Shared → Prop} {A : Around} {B nw ini : String} {tl : List Value}
theorem ostT {Q : Unit → Shared → Prop} (Fb : Bas B nw ini tl) (T : OexT X.K C nw tl) (J : Inv X pins σ H s) (ea : H a = some (exo a C none)) (no : PySem.W.findIn X.K (.ref C) f = some none) (ry : RelV y u)
    (h : ∀ dx s', H dx = none → dx ≠ a → Inv X pins σ (upd (upd H dx (exd dx [(f, y)])) a (exo a C (some dx))) s' → Q () s') : wpAny (model X.prog X.w) A (setAttr (.ref a) f u) Q E s := by
  obtain ⟨nm, q, N, bs, bm, sn, sub, ab, col, dd, k0, k1, k2, k3, k5, kc, rf⟩ := T.cls
  have ec : PySem.W.clsIn X.K C = some { name := nm, bases := bs, mro := .ref C :: bm, ns := N, qualname := q, hasDict := true, slotNames := sn, subclasses := sub, abstract := ab, collection := col, hasDel := false } := by
    unfold PySem.W.clsIn
    rw [kc] <;> rfl
  obtain ⟨t1, ob⟩ := exo_at J.hok ea
  obtain ⟨hh, gg, dr, tn, os⟩ := s
  refine PySem.W.set_plain J.kIn (ox := { cls := .ref C, dict := none, data := .fields #[.ref t1, .none, .none, .none, .bool false, .none] }) (od := none) ⟨ob, rfl, rfl, trivial⟩ T.sa ?_
  refine osa_first Fb J.kIn ob ec (show refsT tl (.ref C :: bm) = true from rf) rfl no (fun h' tk' dx kp new apart xd nsd => ?_)
  have fr : H dx = none := J.hok.fresh new
  have nd : ∀ {b : Addr} {o : Obj}, hh.get? b = some o → b ≠ dx := fun {b o} z => Nat.ne_of_lt (Nat.lt_of_lt_of_le (Heap.lt_size z) new)
  have na : ∀ {b : Addr}, H b = none → b ≠ a := fun {b} n z => by
    rw [z, ea] at n
    cases n
  have un : Un X.fs [] H (upd (upd H dx (exd dx [(f, y)])) a (exo a C (some dx))) hh h' := {
    keep := fun b o z n _ _ => kp b o (na n) z
    slot := fun b o z n _ _ => ⟨o.slots, kp b o (na n) z⟩
    free := fun b o z n _ => by rw [upd_ne (na n), upd_ne (nd z)]; exact n
    there := fun b o z _ => by
      by_cases hb : b = a
      · exact ⟨_, by rw [hb]; exact xd⟩
      · exact ⟨o, kp b o hb z⟩
    tups := fun b xs z => by rw [upd_ne (at_ne ea z exo_tup), upd_ne (ne_of_none z fr)]; exact z
    frzs := fun b o v z => by rw [upd_ne (at_ne ea z exo_frz), upd_ne (ne_of_none z fr)]; exact z
    tbls := fun b ps z => ⟨#[], by rw [upd_ne (at_ne ea z exo_tbl), upd_ne (ne_of_none z fr), z]; simp⟩ }
  refine h dx _ fr apart (J.un (t' := tk') un fun b o z => ?_)
  by_cases hb : b = a
  · subst hb
    rw [upd_same] at z
    cases z
    exact exo_ok xd
  · rw [upd_ne hb] at z
    by_cases hd : b = dx
    · subst hd
      rw [upd_same] at z
      cases z
      exact exd_ok nsd (relO_put (fs := []) ry fun _ => True.intro)
    · rw [upd_ne hd] at z
      refine (J.hok b o z).stay (fun c v hc y => kp c v ?_ y) (fun c hc => by rw [upd_ne (at_ne ea hc exo_own), upd_ne (ne_of_none hc fr)]; exact hc) (fun c xs hc => by rw [upd_ne (at_ne ea hc exo_tup), upd_ne (ne_of_none hc fr)]; exact hc)
      rcases hc with hc | hc
      · rw [hc]; exact hb
      · exact at_ne ea hc exo_own
/-- B.__init__(x, ..) -/
theorem oinitT {us : List Value} {Q : Value → Shared → Prop} (Fb : Bas B nw ini tl) (T : OexT X.K C nw tl) (J : Inv X pins σ H s) (ea : H a = some (exo a C none)) (hl : us.length ≤ sizeLine) (h : ∀ s', Inv X pins σ H s' → Q .none s') :
    wpAny (model X.prog X.w) A (call (.builtin ini) (.ref a :: us)) Q E s := by
  obtain ⟨nm, q, N, bs, bm, sn, sub, ab, col, dd, k0, k1, k2, k3, k5, kc, rf⟩ := T.cls
  obtain ⟨t1, ob⟩ := exo_at J.hok ea
  obtain ⟨hh, gg, dr, tn, os⟩ := s
  refine wpAny_call (init_baseT Fb ((refsT_has _ _ rf).trans Fb.hasB) (J.kIn _ _ kc) ob hl fun h' t2 kp xd => ?_)
  have J2 := J.write (t' := tn) (x := a) (e := a) (o := exo a C none) (by rw [ea]; exact True.intro) (.inl rfl) kp ⟨_, xd⟩ (exo_ok xd)
  have same : upd H a (exo a C none) = H := by
    funext b
    by_cases hb : b = a
    · rw [hb, upd_same, ea]
    · rw [upd_ne hb]
  rw [same] at J2
  exact h _ J2
end
/-! readings and rules -/
def tInitT (K : PySem.W.Frag) (nw : String) (tl : List Value) (ta : TA) : TE := fun σ H Q => ta σ H fun vs H1 => ∃ (a C : Addr) (ws : List V), vs = .ref a :: ws ∧ ws.length ≤ 1000 ∧ OexT K C nw tl ∧ H1 a = some (exo a C none) ∧ Q .non H1
def tOstT (K : PySem.W.Frag) (nw : String) (tl : List Value) (f : Str) (to te : TE) : TS := fun D σ H => te σ H fun y H1 => to σ H1 fun x H2 => ∃ a C : Addr, x = .ref a ∧ OexT K C nw tl ∧ PySem.W.findIn K (.ref C) f = some none ∧
  H2 a = some (exo a C none) ∧ ∀ dx, H2 dx = none → dx ≠ a → D.nx σ (upd (upd H2 dx (exd dx [(f, y)])) a (exo a C (some dx)))
/-- B' is an own class over B without an __init__ of its own -/
structure FamT (K : PySem.W.Frag) (B' : Addr) (ini : String) : Prop where
  rd : ClX.CRead K B' (.type "type")
  ini : PySem.W.findCls K (.ref B') (.type "type") "__init__" = some (.val (.builtin ini))
structure OwnT (K : PySem.W.Frag) (C : Addr) (f : Str) (nw : String) (tl : List Value) : Prop where
  ox : OexT K C nw tl
  xf : XfC K C
  ini : PySem.W.findIn K (.ref C) "__init__" = some (some (.ref (He.ma K C "__init__")))
  fn : PySem.W.typeIn K (.ref (He.ma K C "__init__")) = some (.type "function")
  no : PySem.W.findIn K (.ref C) f = some none
section
variable {X : Cx} {K : PySem.W.Frag} {B nw ini : String} {tl : List Value} {o e : Expr} {es : List Expr} {to te : TE} {ta : TA} {f x : Str} {p p' p1 p2 pos pos2 : Pos} {W : WX} {k : Nat} {ps : List Str} {C B' : Addr}
theorem pe_famInitT {pl : Sem Bool} (Fb : Bas B nw ini tl) (T : FamT X.K B' ini) (hg : Gl X x) (hm : X.mg x = some (.ref B')) (ha : PA X (e :: es) ta) (hdb : (x == ("__debug__" : Str)) = false := by decide)
    (hc : eval (.Call (.Attribute (.Name x p1) "__init__" p2) (e :: es) [] pos) X.env = (do
      let ov ← eval (.Name x p1) X.env
      standAt p2.atName
      let (f, first) ← holding [ov] (getMethod ov "__init__" pl)
      callWith pos f first (backTo pos (starEach (e :: es) X.env)) (backToKw pos (keywordEach [] X.env))) := by rfl)
    (he : starEach (e :: es) X.env = (false, eval e X.env) :: starEach es X.env := by rfl) (hpl : (backTo pos (starEach es X.env)).any (·.1) = false := by rfl) :
    PE X (.Call (.Attribute (.Name x p1) "__init__" p2) (e :: es) [] pos) (tInitT X.K nw tl ta) := by
  refine ⟨fun pins s σ H Q J h => ?_⟩
  refine PySem.W.methodCall_KW (ld_glob J hg hm ?_ hdb) hc
  refine PySem.W.method_cls J.kIn T.rd.ga (PySem.W.cls_value J.kIn T.rd.rd T.ini Fb.handed ?_)
  show wpAny _ _ (callWith pos (Value.builtin ini) [] (backTo pos (starEach (e :: es) X.env)) []) _ _ _
  refine PyProof.Rows.callWith_method1 (thn (ha.run pos pins _ σ H _ (J.tok _) h) fun us t ⟨vs, H1, J1, r1, a, C, ws, ev, hl, O, ea, q⟩ => ?_) he hpl
  subst ev
  cases r1 with
  | @cons _ u0 _ ur ra rw' =>
    obtain rfl : u0 = Value.ref a := ra
    exact oinitT Fb O J1 ea (by rw [← Paired.length rw', sizeLine_eq]; omega) fun t' J2 => ⟨.non, H1, J2, rfl, q⟩
theorem ps_ostT (Fb : Bas B nw ini tl) (ho : PE X o to) (he : PE X e te) (hs : swapsWith e (some (.Attribute o f p')) pos.line X.env = pure false := by rfl) : PS X (.Assign [.Attribute o f p'] e pos) (tOstT X.K nw tl f to te) := by
  refine ⟨fun pins s σ H D J h => ?_⟩
  refine plainObj_wpAny_Assign_Attribute (thn (he.run pins s σ H _ J h) fun v t1 ⟨y, H1, J1, r1, q1⟩ => thn (ho.run pins t1 σ H1 _ J1 q1) fun u t2 ⟨z, H2, J2, r2, a, C, ez, O, no, ea, q⟩ => ?_) hs
  subst ez
  obtain rfl : u = Value.ref a := r2
  exact ostT Fb O J2 ea no r1 fun dx s' n ne J3 => ⟨σ, _, J3, q dx n ne⟩
/-- C(e) as a value: a new exception, not raised -/
def tExV (C : Addr) (sp : Sp) (ta : TA) : TE := fun σ H Q => ta σ H fun vs H1 => vs.length ≤ 1000 ∧ ∀ a, H1 a = none → sp (.ref a :: vs) (upd H1 a (exo a C none)) (fun v H2 => v = .non ∧ Q (.ref a) H2) E0
theorem make_exT {fd : FuncData} {sp : Sp} {pins : List (Addr × Obj)} {σ : L2.St} {H : Hp} {s : Shared} {us : List Value} {vs : List V} {Rr : Value → Shared → Prop} (Fb : Bas B nw ini tl) (T : OwnT X.K C f nw tl)
    (Fn : FnOk X.prog X.w X.K X.mg X.base CX0 k (He.ma X.K C "__init__") fd ps sp) (hr : Room (k + 1) X.A) (hb : Binds X.K fd ps []) (J : Inv X pins σ H s) (r : Vals vs us) (hl : vs.length ≤ 1000) (R : VK)
    (q : ∀ a, H a = none → sp (.ref a :: vs) (upd H a (exo a C none)) (fun v H2 => v = .non ∧ R (.ref a) H2) E0)
    (fin : ∀ (a : Addr) (G : Hp) (hp2 : Heap) (t : Shared), s.heap.objs.size ≤ a → (∀ b o, s.heap.get? b = some o → hp2.get? b = some o) → Un (frs X.stack) [] (upd H a (exo a C none)) G hp2 t.heap → HOk X.prog X.w G t.heap → t.os = s.os → AllBare t.gens → Inv X pins σ G t → R (.ref a) G → Rr (.ref a) t) :
    wpAny (model X.prog X.w) X.A (call (.ref C) us) Rr X.xe s := by
  obtain ⟨nm, qn, N, bs, bm, sn, sub, ab, col, dd, k0, k1, k2, k3, k5, kc, rf⟩ := T.ox.cls
  obtain ⟨hh, gg, dr, tn, os⟩ := s
  have new : hh.objs.size ≤ hh.objs.size + 1 := Nat.le_succ _
  have fr : H (hh.objs.size + 1) = none := J.hok.fresh new
  have hq := q (hh.objs.size + 1) fr
  have kk : ∀ b o, hh.get? b = some o → ((hh.push (PySem.W.kdv_tup us)).push (PySem.HandSPX.excO C hh.objs.size)).get? b = some o := fun b o z => Heap.get?_push_of_some _ (Heap.get?_push_of_some _ z)
  have got : ((hh.push (PySem.W.kdv_tup us)).push (PySem.HandSPX.excO C hh.objs.size)).get? (hh.objs.size + 1) = some (PySem.HandSPX.excO C hh.objs.size) := by heap_get
  have J2 : Inv X pins σ (upd H (hh.objs.size + 1) (exo (hh.objs.size + 1) C none)) ⟨(hh.push (PySem.W.kdv_tup us)).push (PySem.HandSPX.excO C hh.objs.size), gg, dr, tn, os⟩ :=
    J.laid (t' := tn) (a := hh.objs.size + 1) (o := exo (hh.objs.size + 1) C none) (h' := (hh.push (PySem.W.kdv_tup us)).push (PySem.HandSPX.excO C hh.objs.size)) kk new (exo_ok got)
  have r2 : Vals (V.ref (hh.objs.size + 1) :: vs) (Value.ref (hh.objs.size + 1) :: us) := .cons rfl r
  have ln : (Value.ref (hh.objs.size + 1) :: us).length = ps.length := by rw [← r2.length]; exact Fn.len _ _ _ _ hq
  have b := hb ⟨_, gg, dr, tn, os⟩ (Value.ref (hh.objs.size + 1) :: us) J2.kIn (by rw [List.append_nil]; exact ln)
  rw [List.append_nil] at b
  have lu : us.length ≤ sizeLine := by
    rw [← Paired.length r, sizeLine_eq]
    omega
  obtain ⟨L, iniL, tlL, Fx, hasL⟩ := Fb.by_
  refine wpAny_call (call_ownT Fx ((refsT_has _ _ rf).trans hasL) ((refsT_has _ _ rf).trans Fb.noA) ((refsT_has _ _ rf).trans Fb.noN) (J.kIn _ _ kc) (PySem.W.looks_findIn J.kIn T.ini) (fun self => PySem.W.bind_fn J.kIn self T.fn) lu
    (codeAny_mono (Fn.run _ X.stack _ _ ⟨Value.ref (hh.objs.size + 1) :: us, []⟩ (Value.ref (hh.objs.size + 1) :: us) _ _ E0 (hr.make C us []) (J2.env0.make C us []) b r2 hq) fun o t z => ?_))
  match o, z with
  | .error er, z => exact pass0 pins σ _ _ er t J2 z
  | .ok (.ret u), z =>
    obtain ⟨v, G, o2, bare2, un2, hok2, rv, ev, q2⟩ := z
    subst ev
    obtain ⟨h2, g2, d2, t2, os2⟩ := t
    exact ⟨rv, fin _ G _ _ new kk un2 hok2 o2 bare2 (J2.call' (ch := []) o2 un2 hok2 bare2 (fun b z => absurd z (by simp))) q2⟩
end
end TS

set_option maxHeartbeats 2000000
/-! ### 36. such exceptions raised, held as values; what the head tells of them -/
namespace TS
open PySem PySem.Spec PyProof.Rows L2
section
variable {X : Cx} {B nw ini : String} {tl : List Value} {e : Expr} {es : List Expr} {te : TE} {ta : TA} {f x : Str} {p pos pos2 : Pos} {W : WX} {k : Nat} {ps : List Str} {C : Addr} {sp : Sp}
theorem pe_exV (Fb : Bas B nw ini tl) (T : OwnT X.K C f nw tl) (pr : PromA CX0 X.prog X.w X.K X.mg X.base k (He.ma X.K C "__init__") ps sp) (hr : Room (k + 1) X.A) (hg : Gl X x) (hm : X.mg x = some (.ref C)) (ha : PA X (e :: es) ta)
    (hdb : (x == ("__debug__" : Str)) = false := by decide) (he : starEach (e :: es) X.env = (false, eval e X.env) :: starEach es X.env := by rfl) (hpl : (backTo pos (starEach es X.env)).any (·.1) = false := by rfl) :
    PE X (.Call (.Name x p) (e :: es) [] pos) (tExV C sp ta) := by
  obtain ⟨fd, Fn, b⟩ := pr
  refine ⟨fun pins s σ H Q J h => wpAny_Call_Name_kw (ld_glob J hg hm ?_ hdb)⟩
  refine PySem.W.callWith_K (h₀ := X.base) J.ok.mod.kin T.ox.kC (thn (ha.run pos pins s σ H _ J h) fun us t ⟨vs, H1, J1, r, hl, q⟩ => ⟨J1.kIn, ?_⟩) he hpl
  exact make_exT Fb T Fn hr b J1 r hl Q q fun a G hp2 t2 _ _ _ _ _ _ J2 q2 => ⟨.ref a, G, J2, rfl, q2⟩
theorem ps_raise1T (Fb : Bas B nw ini tl) (T : OwnT X.K C f nw tl) (pr : PromA CX0 X.prog X.w X.K X.mg X.base k (He.ma X.K C "__init__") ps (spIni C f)) (hc : X.calm = true) (tk : Takes X W) (hr : Room (k + 1) X.A) (hg : Gl X x) (hm : X.mg x = some (.ref C)) (he : PE X e te)
    (hdb : (x == ("__debug__" : Str)) = false := by decide) (hs : starEach [e] X.env = (false, eval e X.env) :: starEach [] X.env := by rfl) (hpl : (backTo pos (starEach [] X.env)).any (·.1) = false := by rfl) :
    PS X (.Raise (some (.Call (.Name x p) [e] [] pos)) none pos2) (tRaise1 C f te W) := by
  obtain ⟨fd, Fn, b⟩ := pr
  have mk : PMk X (.Call (.Name x p) [e] [] pos) (fun σ H Q => tMono te σ H fun v H1 => ∀ d, H1 d = none → Q (.ref C) (some d) (upd H1 d (.xd [(f, v)]))) := by
    intro pins s σ H Q J h
    refine wpAny_Call_Name_kw (ld_glob J hg hm ?_ hdb)
    have ha : PA X [e] (tCons (tMono te) tNil) := pa_cons (pe_mono he) pa_nil hs
    refine PySem.W.callWith_K (h₀ := X.base) J.ok.mod.kin T.ox.kC (thn (ha.run pos pins s σ H (fun vs H1 => ∃ v, vs = [v] ∧ ∀ d, H1 d = none → Q (.ref C) (some d) (upd H1 d (.xd [(f, v)]))) J ?_) fun us t ⟨vs, H1, J1, r, v, ev, q⟩ => ⟨J1.kIn, ?_⟩) hs hpl
    · obtain ⟨R, h1, h2⟩ := h
      exact ⟨R, h1, fun v G r => ⟨v, rfl, h2 v G r⟩⟩
    subst ev
    refine make_exT Fb T Fn hr b J1 r (by simp) (fun z G => ∃ a d, z = .ref a ∧ G a = some (exo a C (some d)) ∧ G d = some (exd d [(f, v)]) ∧ H1 d = none ∧ Q (.ref C) (some d) (upd (del G a) d (.xd [(f, v)]))) ?_ ?_
    · refine fun a na => ⟨a, v, rfl, upd_same .., fun dx nd ne => ⟨rfl, a, dx, rfl, upd_same .., ?_, ?_, ?_⟩⟩
      · rw [upd_ne ne, upd_same]
      · rw [upd_ne ne] at nd; exact nd
      · rw [upd_ne ne] at nd
        rw [upd_swap ne na]
        exact q dx nd
    · rintro a G hp2 ⟨h2, g2, d2, t2, os2⟩ new kk un hok os_ bare _ ⟨a', d, ez, ea, ed, fd', q2⟩
      cases ez
      obtain ⟨hh, gg, dr, tn, os⟩ := t
      exact mk_end (raises_own T.ox.exC T.ox.tyC) J1 new kk un hok os_ bare ea ed fd' q2
  refine ⟨fun pins s σ H D J h => (ps_raise hc tk mk).run pins s σ H D J ?_⟩
  exact ⟨_, h, fun v H1 q d nd => q d nd⟩
end
theorem famTB_ok {K : PySem.W.Frag} {x : Str} {ini : String} (h : famTB K x ini = true) : FamT K (He.ga K x) ini := by
  obtain ⟨h1, h2⟩ := He.ba h
  obtain ⟨h3, h4⟩ := He.ba h1
  refine ⟨⟨h3, He.eqO_ok h4⟩, ?_⟩
  split at h2
  · rename_i s e
    rw [e, of_decide_eq_true h2]
  · cases h2
theorem oexTB_ok {K : PySem.W.Frag} {C : Addr} {nw : String} {tl : List Value} (h : oexTB K C nw tl = true) : ∃ nm q N bs bm sn sub ab col dd k0 k1 k2 k3 k5, K.lookup C = some (excClassObj nm q C N bs bm true sn sub ab col dd k0 k1 k2 k3 k5 nw) ∧ refsT tl bm = true := by
  unfold oexTB at h
  split at h
  · rename_i c dd cd sl ho
    split at h
    · rename_i C' bm k0 k1 k2 k3 n k5 hm hs
      obtain ⟨a1, h⟩ := He.ba h
      obtain ⟨a2, h⟩ := He.ba h
      obtain ⟨a3, h⟩ := He.ba h
      obtain ⟨a4, h⟩ := He.ba h
      obtain ⟨a5, a6⟩ := He.ba h
      have a1 := of_decide_eq_true a1
      have a2 := of_decide_eq_true a2
      have a3 := of_decide_eq_true a3
      obtain ⟨nm, bs, mro, ns, qn, hd, sn, sb, ab, col, del⟩ := cd
      dsimp only at hm a4 a5
      have a5 : del = false := by simpa using a5
      subst a1 a2 hm a4 a5
      rw [a3] at hs
      have hsl : sl = #[k0, k1, k2, k3, some (.builtin nw), k5] := by
        obtain ⟨l⟩ := sl
        simp only at hs
        rw [hs]
      subst hsl
      exact ⟨nm, qn, ns, bs, bm, sn, sb, ab, col, dd, k0, k1, k2, k3, k5, ho, a6⟩
    · cases h
  · cases h
theorem ownTB_ok {K : PySem.W.Frag} {x f : Str} {nw : String} {tl : List Value} (h : ownTB K x f nw tl = true) : OwnT K (He.ga K x) f nw tl := by
  obtain ⟨h1, h⟩ := He.ba h
  obtain ⟨a1, h1⟩ := He.ba h1
  obtain ⟨a2, h1⟩ := He.ba h1
  obtain ⟨a3, h1⟩ := He.ba h1
  obtain ⟨a4, a5⟩ := He.ba h1
  obtain ⟨h2, h⟩ := He.ba h
  obtain ⟨b1, b2⟩ := He.ba h2
  obtain ⟨b3, b4⟩ := He.ba h
  exact ⟨⟨oexTB_ok a1, He.eqO_ok a2, of_decide_eq_true a3, of_decide_eq_true a4, a5⟩, xfB_ok b1, He.eqO_ok b2, of_decide_eq_true b3, He.eqO_ok b4⟩

end TS

set_option maxHeartbeats 2000000
/-! ### 11. try with a clause of two classes; the exception caught may be handed on to a def -/
namespace TS
open PySem PySem.Spec PyProof.Rows L2
abbrev Clause2 := List Value × Option Nat × (Addr → Value → Option Addr → TS)
/-- one class: its own answer; two: either -/
def exmL (K : PySem.W.Frag) (cls : Value) : List Value → Option Bool
  | [c] => PySem.W.exmOne K cls c
  | l => PySem.W.exmAny K cls l
def wClauses2 (K : PySem.W.Frag) (D : Ends) : List Clause2 → WX
  | [] => fun _ _ _ _ => False
  | (cs, some i, ts) :: r => fun cls d σ H => ∃ b, exmL K cls cs = some b ∧ (b = true → ∀ a, H a = none → ts a cls d (Ends.drop D i) (σ.set i (some (.ref a))) H) ∧ (b = false → wClauses2 K D r cls d σ H)
  | (cs, none, ts) :: r => fun cls d σ H => ∃ b, exmL K cls cs = some b ∧ (b = true → ∀ a, H a = none → ts a cls d D σ H) ∧ (b = false → wClauses2 K D r cls d σ H)
/-- in the suite the exception lies outside the base, too -/
abbrev SuiteOk2 (X : Cx) (st : List Stmt) (ts : Addr → Value → Option Addr → TS) : Prop :=
  ∀ (a : Addr) (oe : Obj) (cls : Value) (d : Option Addr) (pn : List (Addr × Obj)), X.base.get? a = none → Zc cls d oe → (∃ vs, oe.data = .fields vs) → PSs (X.suite a ((a, oe) :: pn)) st (ts a cls d)
/-- the test of a clause -/
inductive TestOk (X : Cx) : Expr → List Value → Prop
  | one {x : Str} {c : Value} {np : Pos} (hc : Names X x c) : TestOk X (.Name x np) [c]
  | two {x y : Str} {c e : Value} {np mp tp : Pos} {kk : Nat} (hc : Names X x c) (he : Names X y e) : TestOk X (.Tuple [.Name x np, .Name y mp] kk tp) [c, e]
inductive ClausesOk2 (X : Cx) : List ExceptHandler → List Clause2 → Prop
  | stop {l : List ExceptHandler} : ClausesOk2 X l []
  | as_ {t : Expr} {n : Str} {i : Nat} {cs : List Value} {ts : Addr → Value → Option Addr → TS} {b₀ : Stmt} {suite : List Stmt} {pp : Pos} {l : List ExceptHandler} {r : List Clause2} (hi : X.N[i]? = some n) (hln : X.env.kindOf n = some .local) (hc : TestOk X t cs)
      (hsu : SuiteOk2 X (b₀ :: suite) ts) (tl : ClausesOk2 X l r) : ClausesOk2 X (.ExceptHandler (some t) (some n) (b₀ :: suite) pp :: l) ((cs, some i, ts) :: r)
  | only {t : Expr} {cs : List Value} {ts : Addr → Value → Option Addr → TS} {b₀ : Stmt} {suite : List Stmt} {pp : Pos} {l : List ExceptHandler} {r : List Clause2} (hc : TestOk X t cs)
      (hsu : SuiteOk2 X (b₀ :: suite) ts) (tl : ClausesOk2 X l r) : ClausesOk2 X (.ExceptHandler (some t) none (b₀ :: suite) pp :: l) ((cs, none, ts) :: r)
theorem flying_push {B : Heap} {l : List Env} {a : Addr} {Z : Obj → Prop} {h h' : Heap} (k : ∀ b o, h.get? b = some o → h'.get? b = some o) (f : HandSPX.FlyingZ B l a Z h) : HandSPX.FlyingZ B l a Z h' := by
  obtain ⟨k1, k2, k3, oe, vs, T, oT, ts, e1, z, d1, t1, bT, nT, e2, d2, q⟩ := f
  exact ⟨fun b o e => k b o (k1 b o e), k2, Heap.FunFrames.of_keeps (fun b o e _ => ⟨o, k b o e, rfl⟩) k3, oe, vs, T, oT, ts, k _ _ e1, z, d1, t1, bT, nT, k _ _ e2, d2, q⟩
section
variable {X : Cx} {body : List Stmt} {h₀ : ExceptHandler} {hs' : List ExceptHandler} {cl : List Clause2} {pos : Pos} {tb : WX → TS}
theorem ps_try2 (stk : X.stack = X.env :: X.outer) (frm : X.env.frame = some X.env.locals) (nod : X.N.Nodup)
    (bod : ∀ (W : WX) (pn : List (Addr × Obj)) (xe : Value → Shared → Prop), Takes (X.tr pn xe) W → PassesOwn (model X.prog X.w) X.A X.env xe → PSs (X.tr pn xe) body (tb W))
    (cls' : ClausesOk2 X (h₀ :: hs') cl) : PS X (.Try body (h₀ :: hs') [] [] pos) (fun D σ H => tb (wClauses2 X.K D cl) D σ H) := by
  refine ⟨fun pins s σ H D J rd => ?_⟩
  have xok := J.ok
  have afr : X.A.frames = some (X.env :: X.outer) := by rw [xok.frames, stk]
  refine wpAny_Try_except ?_
  refine wpAny_mono ((bod (wClauses2 X.K D cl) (X.pn ++ pins) (fun u t1 => wpAny (model X.prog X.w) X.A (noteFrame u X.env) (fun _ t2 => wpAny (model X.prog X.w) X.A (setFlight u none) (fun _ t3 =>
    wpAny (model X.prog X.w) X.A (handleBy u X.env (h₀ :: hs')) (SP X pins D) X.xe t3) X.xe t2) X.xe t1) (fun u t air => ?_) PassesOwn.looking).run [] s σ H D (J.toTry _) rd) (fun fl t1 sp => ?_) (fun u t1 z => z)
  · obtain ⟨a, gr, sA, pins', σ', H', cls, d, rfl, J', ngr, up, sky, na, os, ag, wish⟩ := air
    have J1 : Inv X pins σ' H' sA := J'.ofTry xok
    have sky1 : Sky gr (X.env :: X.outer) a (Zc cls d) X.env.locals t.heap := by rw [← stk]; exact sky
    show wpAny (model X.prog X.w) X.A (noteFrame (.ref a) X.env) _ _ _
    refine Sky.land Zc.steady afr frm sky1 fun h3 fl3 up3 => ?_
    have bna : X.base.get? a = none := by
      cases e : X.base.get? a with
      | none => rfl
      | some o =>
        have g0 := J1.bk a o e
        have nf : a ∉ frs X.stack := fun m => by
          have := (J1.stack.mem m).1
          rw [e] at this; cases this
        have g1 := ngr a o g0 nf
        rw [fl3.2.1] at g1; cases g1
    have go : ∀ {l : List ExceptHandler} {r : List Clause2}, ClausesOk2 X l r → wClauses2 X.K D r cls d σ' H' → ∀ h3 : Heap, HandSPX.FlyingZ gr (X.env :: X.outer) a (Zc cls d) h3 → sA.heap.UpToSlots h3 →
        wpAny (model X.prog X.w) X.A (handleBy (.ref a) X.env l) (SP X pins D) X.xe { t with heap := h3 } := by
      intro l r ck
      induction ck with
      | stop => intro w; exact False.elim w
      | @as_ te n i cs ts b₀ suite pp l r hi hln hc hsu t2 ih =>
        intro w h3 fl3 up3
        obtain ⟨b, eb, yes, no⟩ := w
        have J3 : Inv X pins σ' H' { t with heap := h3 } := J1.landed ngr fl3.1 up3 os ag
        obtain ⟨oe3, vs3, get3, zc3, dat3⟩ := fl3.there
        have offA : a ∉ frs (X.env :: X.outer) := fun m => by
          obtain ⟨_, o', g', nf⟩ := fl3.2.2.1.mem m
          rw [get3] at g'; cases g'
          exact nf _ dat3
        have neL : a ≠ X.env.locals := fun z => offA (List.mem_filterMap.mpr ⟨X.env, List.mem_cons_self, by rw [frm, z]⟩)
        have neF : a ∉ X.fs := fun m => by
          obtain ⟨en, me, q⟩ := List.mem_filterMap.mp m
          exact offA (List.mem_filterMap.mpr ⟨en, List.mem_cons_of_mem _ me, q⟩)
        have S3 := J3.suite get3 dat3 na neL neF
        have ld : ∀ {x : Str} {c : Value} {np : Pos}, Names X x c → ∀ {Q : Value → Shared → Prop} {E : Value → Shared → Prop}, Q c { t with heap := h3 } → wpAny (model X.prog X.w) (X.A.mark (some (.ref a))) (eval (.Name x np) X.env) Q E { t with heap := h3 } := fun {x c np} nm {Q E} q => by
          obtain ⟨g, db, m | ⟨m, v, nn⟩⟩ := nm
          · exact ld_glob (X := X.suite a ((a, oe3) :: (X.pn ++ pins))) S3 g m q db
          · exact ld_blt (X := X.suite a ((a, oe3) :: (X.pn ++ pins))) S3 g m v q nn db
        have LT : PySem.W.Looks (model X.prog X.w) h3 (typeOf (.ref a)) cls := fun A Q E s k q => wpAny_typeOf_ref (k _ _ get3) (by rw [zc3.1]; exact q)
        refine wpAny_handleBy_cons (codeAny_handlers_test ?_) (by intro q; cases q)
        have test : ∀ {Q : Bool → Shared → Prop} {E : Value → Shared → Prop}, (∀ h4 : Heap, HandSPX.FlyingZ gr (X.env :: X.outer) a (Zc cls d) h4 → sA.heap.UpToSlots h4 → Q b { t with heap := h4 }) →
            wpAny (model X.prog X.w) (X.A.mark (some (.ref a))) (eval te X.env) (fun c s1 => wpAny (model X.prog X.w) (X.A.mark (some (.ref a))) (excMatches (.ref a) c) Q E s1) E { t with heap := h3 } := by
          intro Q E q
          cases hc with
          | one hc => exact ld hc ((PySem.W.exm_one (M := model X.prog X.w) J3.kIn LT eb).here (q h3 fl3 up3))
          | @two x y c e np mp tp kk hc he =>
            refine wpAny_Tuple (wpAny_items_cons (ld hc (wpAny_items_cons (ld he (wpAny_items_nil ⟨by show 2 ≤ sizeLine; decide, ?_⟩)))))
            have kp : ∀ q o, h3.get? q = some o → (h3.push { cls := .type "tuple", data := .seq [c, e].toArray }).get? q = some o := fun _ _ z => Heap.get?_push_of_some _ z
            refine (PySem.W.exm_tup2 (M := model X.prog X.w) (J3.kIn.keeps kp) (LT.keeps kp) (Heap.get?_push_size h3 rfl) eb).here (q _ (flying_push kp fl3) (up3.trans fun b o g _ => ⟨o.slots, kp b o g⟩))
        refine test fun h5 fl5 up5 => ?_
        cases b with
        | false =>
          show wpAny _ X.A (handleBy (.ref a) X.env l) _ _ _
          exact ih (no rfl) h5 fl5 up5
        | true =>
          refine codeAny_handlers_suite_as ?_
          refine HandSPX.lands_againZ fl5 fun h4 fl4 up4 => ?_
          have J4 : Inv X pins σ' H' { t with heap := h4 } := J1.landed ngr fl4.1 (up5.trans up4) os ag
          obtain ⟨oe4, vs4, get4, zc4, dat4⟩ := fl4.there
          have S4 := J4.suite get4 dat4 na neL neF
          refine store_ok (X := X.suite a ((a, oe4) :: (X.pn ++ pins))) (v := .ref a) S4 nod hi (.inl hln) rfl (fun t5 S5 => ?_) (.inr hln)
          refine wpAny_mono ((hsu a oe4 cls d (X.pn ++ pins) bna zc4 ⟨_, dat4⟩).run [] t5 _ H' _ S5 (yes rfl a na)) (fun fl t6 sp => ?_) (fun _ _ z => False.elim z)
          have un : ∀ {σ6 : L2.St} {H6 : Hp} {Q : Shared → Prop}, Inv (X.suite a ((a, oe4) :: (X.pn ++ pins))) [] σ6 H6 t6 → (∀ t7, Inv X pins (σ6.set i none) H6 t7 → Q t7) →
              wpAny (model X.prog X.w) X.A (do bindName X.env n .none; unbindBehindTheSuite X.env n pp) (fun _ t7 => Q t7) X.xe t6 := fun {σ6 H6 Q} S6 q => gone_ok (S6.unsuite xok) nod hi hln q
          cases fl with
          | next => exact let ⟨_, _, S6, q6⟩ := sp; un S6 fun t7 J7 => ⟨_, _, J7, q6⟩
          | brk => exact let ⟨_, _, S6, q6⟩ := sp; un S6 fun t7 J7 => ⟨_, _, J7, q6⟩
          | cont => exact let ⟨_, _, S6, q6⟩ := sp; un S6 fun t7 J7 => ⟨_, _, J7, q6⟩
          | ret u => exact let ⟨_, _, _, S6, r6, q6⟩ := sp; un S6 fun t7 J7 => ⟨_, _, _, J7, r6, q6⟩
      | @only te cs ts b₀ suite pp l r hc hsu t2 ih =>
        intro w h3 fl3 up3
        obtain ⟨b, eb, yes, no⟩ := w
        have J3 : Inv X pins σ' H' { t with heap := h3 } := J1.landed ngr fl3.1 up3 os ag
        obtain ⟨oe3, vs3, get3, zc3, dat3⟩ := fl3.there
        have offA : a ∉ frs (X.env :: X.outer) := fun m => by
          obtain ⟨_, o', g', nf⟩ := fl3.2.2.1.mem m
          rw [get3] at g'; cases g'
          exact nf _ dat3
        have neL : a ≠ X.env.locals := fun z => offA (List.mem_filterMap.mpr ⟨X.env, List.mem_cons_self, by rw [frm, z]⟩)
        have neF : a ∉ X.fs := fun m => by
          obtain ⟨en, me, q⟩ := List.mem_filterMap.mp m
          exact offA (List.mem_filterMap.mpr ⟨en, List.mem_cons_of_mem _ me, q⟩)
        have S3 := J3.suite get3 dat3 na neL neF
        have ld : ∀ {x : Str} {c : Value} {np : Pos}, Names X x c → ∀ {Q : Value → Shared → Prop} {E : Value → Shared → Prop}, Q c { t with heap := h3 } → wpAny (model X.prog X.w) (X.A.mark (some (.ref a))) (eval (.Name x np) X.env) Q E { t with heap := h3 } := fun {x c np} nm {Q E} q => by
          obtain ⟨g, db, m | ⟨m, v, nn⟩⟩ := nm
          · exact ld_glob (X := X.suite a ((a, oe3) :: (X.pn ++ pins))) S3 g m q db
          · exact ld_blt (X := X.suite a ((a, oe3) :: (X.pn ++ pins))) S3 g m v q nn db
        have LT : PySem.W.Looks (model X.prog X.w) h3 (typeOf (.ref a)) cls := fun A Q E s k q => wpAny_typeOf_ref (k _ _ get3) (by rw [zc3.1]; exact q)
        refine wpAny_handleBy_cons (codeAny_handlers_test ?_) (by intro q; cases q)
        have test : ∀ {Q : Bool → Shared → Prop} {E : Value → Shared → Prop}, (∀ h4 : Heap, HandSPX.FlyingZ gr (X.env :: X.outer) a (Zc cls d) h4 → sA.heap.UpToSlots h4 → Q b { t with heap := h4 }) →
            wpAny (model X.prog X.w) (X.A.mark (some (.ref a))) (eval te X.env) (fun c s1 => wpAny (model X.prog X.w) (X.A.mark (some (.ref a))) (excMatches (.ref a) c) Q E s1) E { t with heap := h3 } := by
          intro Q E q
          cases hc with
          | one hc => exact ld hc ((PySem.W.exm_one (M := model X.prog X.w) J3.kIn LT eb).here (q h3 fl3 up3))
          | @two x y c e np mp tp kk hc he =>
            refine wpAny_Tuple (wpAny_items_cons (ld hc (wpAny_items_cons (ld he (wpAny_items_nil ⟨by show 2 ≤ sizeLine; decide, ?_⟩)))))
            have kp : ∀ q o, h3.get? q = some o → (h3.push { cls := .type "tuple", data := .seq [c, e].toArray }).get? q = some o := fun _ _ z => Heap.get?_push_of_some _ z
            refine (PySem.W.exm_tup2 (M := model X.prog X.w) (J3.kIn.keeps kp) (LT.keeps kp) (Heap.get?_push_size h3 rfl) eb).here (q _ (flying_push kp fl3) (up3.trans fun b o g _ => ⟨o.slots, kp b o g⟩))
        refine test fun h5 fl5 up5 => ?_
        cases b with
        | false =>
          show wpAny _ X.A (handleBy (.ref a) X.env l) _ _ _
          exact ih (no rfl) h5 fl5 up5
        | true =>
          refine codeAny_handlers_suite ?_
          refine HandSPX.lands_againZ fl5 fun h4 fl4 up4 => ?_
          have J4 : Inv X pins σ' H' { t with heap := h4 } := J1.landed ngr fl4.1 (up5.trans up4) os ag
          obtain ⟨oe4, vs4, get4, zc4, dat4⟩ := fl4.there
          have S4 := J4.suite get4 dat4 na neL neF
          refine wpAny_mono ((hsu a oe4 cls d (X.pn ++ pins) bna zc4 ⟨_, dat4⟩).run [] _ _ H' _ S4 (yes rfl a na)) (fun fl t6 sp => ?_) (fun _ _ z => False.elim z)
          cases fl with
          | next => exact let ⟨_, _, S6, q6⟩ := sp; ⟨_, _, S6.unsuite xok, q6⟩
          | brk => exact let ⟨_, _, S6, q6⟩ := sp; ⟨_, _, S6.unsuite xok, q6⟩
          | cont => exact let ⟨_, _, S6, q6⟩ := sp; ⟨_, _, S6.unsuite xok, q6⟩
          | ret u => exact let ⟨_, _, _, S6, r6, q6⟩ := sp; ⟨_, _, _, S6.unsuite xok, r6, q6⟩
    exact go cls' wish h3 fl3 (up.trans up3)
  · cases fl with
    | next => exact let ⟨σ', H', J', q⟩ := sp; wpAny_execs_nil ⟨σ', H', J'.ofTry xok, q⟩
    | brk => exact let ⟨σ', H', J', q⟩ := sp; ⟨σ', H', J'.ofTry xok, q⟩
    | cont => exact let ⟨σ', H', J', q⟩ := sp; ⟨σ', H', J'.ofTry xok, q⟩
    | ret u => exact let ⟨v, σ', H', J', r, q⟩ := sp; ⟨v, σ', H', J'.ofTry xok, r, q⟩
end
/-! the exception handed to a def -/
def exE (a : Addr) (oe : Obj) : HO := .ext fun h => h.get? a = some oe
/-- isinstance(e, c), e handed on -/
def rIsX (K : PySem.W.Frag) : List V → Hp → VK → Prop := fun xs H Q => ∃ (a D dx : Addr) (oe : Obj) (fs : List (Str × V)) (c : V) (cv : Value) (b : Bool), xs = [.ref a, c] ∧ H a = some (exE a oe) ∧ Zc (.ref D) (some dx) oe ∧ (∃ vs, oe.data = .fields vs) ∧ H dx = some (.xd fs) ∧ exI K D = true ∧ (∀ u, RelV c u → u = cv) ∧ PySem.W.kitOne K (.ref D) cv = some b ∧ Q (.bl b) H
theorem call_isX {X : Cx} {K : PySem.W.Frag} (hK : X.K = K) : CallR X (.builtin "isinstance") (rIsX K) := by
  subst hK
  intro pins s σ H xs us Q I r h
  obtain ⟨a, D, dx, oe, fs, c, cv, b, rfl, he, hz, hf, hdx, hi, hcv, e, q⟩ := h
  cases r with
  | cons rx rr =>
    cases rr with
    | cons rt rr =>
      cases rr
      cases rx
      have ec := hcv _ rt
      subst ec
      obtain ⟨hget, _⟩ := (show ObjOk X.prog X.w H s.heap a (.ext fun h => h.get? a = some oe) from I.hok a _ he)
      obtain ⟨vs, hv⟩ := hf
      obtain ⟨od, hod⟩ : ∃ od, s.heap.get? dx = some od := by
        cases g : s.heap.get? dx with
        | some o => exact ⟨o, rfl⟩
        | none =>
          have := I.hok.gone g
          rw [hdx] at this; cases this
      have J : PySem.W.InstAt s.heap a oe D (some od) := by
        obtain ⟨oc, odi, oda, osl⟩ := oe
        obtain ⟨h1, h2⟩ := hz
        dsimp only at h1 h2 hv
        subst h1 h2 hv
        exact ⟨hget, rfl, rfl, hod⟩
      simp only [exI, Bool.and_eq_true, beq_iff_eq] at hi
      obtain ⟨i1, i2, i3, i4, i5, i6, i7, i8⟩ := hi
      exact PySem.W.kia_one (PySem.W.kitx_exc i1 i2 i3 i4 i5 i6 i7 i8) I.kIn J e (fun z => nomatch z) fun tk => ⟨.bl b, H, I.kept (t' := tk) fun _ _ z => z, rfl, q⟩
/-- f(e), e the exception of the suite: the def sees its object -/
theorem un_back {fs : List Addr} {H H' : Hp} {h h' : Heap} {a : Addr} {oe : Obj} (hn : H a = none) (ha : H' a = some (exE a oe)) (g : h.get? a = some oe) (g' : h'.get? a = some oe) (u : Un fs [] (upd H a (exE a oe)) H' h h') : Un fs [] H (ItX.dropH H' a) h h' where
  keep := fun b o e n hb hx => by
    by_cases z : b = a
    · rw [z] at e ⊢; rw [g] at e; cases e; exact g'
    · exact u.keep b o e (by rw [upd_ne z]; exact n) hb hx
  slot := fun b o e n hb hx => by
    by_cases z : b = a
    · rw [z] at e ⊢; rw [g] at e; cases e; exact ⟨oe.slots, g'⟩
    · exact u.slot b o e (by rw [upd_ne z]; exact n) hb hx
  free := fun b o e n hx => by
    by_cases z : b = a
    · rw [z, ItX.dropH_same]
    · rw [ItX.dropH_ne z]; exact u.free b o e (by rw [upd_ne z]; exact n) hx
  there := fun b o e hx => u.there b o e hx
  tups := fun b xs e => by
    have z : b ≠ a := ne_of_none e hn
    rw [ItX.dropH_ne z]; exact u.tups b xs (by rw [upd_ne z]; exact e)
  frzs := fun b o xs e => by
    have z : b ≠ a := ne_of_none e hn
    rw [ItX.dropH_ne z]; exact u.frzs b o xs (by rw [upd_ne z]; exact e)
  tbls := fun b ps e => by
    have z : b ≠ a := ne_of_none e hn
    rw [ItX.dropH_ne z]; exact u.tbls b ps (by rw [upd_ne z]; exact e)
theorem hok_drop {P : Program} {w : World} {H : Hp} {h : Heap} {a : Addr} {oe : Obj} (ha : H a = some (exE a oe)) (x : HOk P w H h) : HOk P w (ItX.dropH H a) h := fun b u e => by
  have hb : b ≠ a := fun z => by
    rw [z, ItX.dropH_same] at e
    cases e
  rw [ItX.dropH_ne hb] at e
  have other : ∀ c u, H c = some u → (∀ ψ, u ≠ .ext ψ) → ItX.dropH H a c = some u := fun c u e n => by
    have hc : c ≠ a := fun z => by
      rw [z, ha] at e
      exact n _ (Option.some.inj e).symm
    rw [ItX.dropH_ne hc]
    exact e
  exact (x b u e).stay (fun _ _ _ z => z) (fun c z => other c _ z fun _ w => (nomatch w)) fun c xs z => other c _ z fun _ w => (nomatch w)
def tGive (sp : Sp) (a : Addr) (oe : Obj) (t : TA) : TE := fun σ H Q => t σ H fun vs H1 => H1 a = none ∧ sp vs (upd H1 a (exE a oe)) (fun v H' => H' a = some (exE a oe) ∧ Q v (ItX.dropH H' a)) fun _ _ _ => False
section
variable {X : Cx} {k : Nat} {ps : List Str} {sp : Sp} {x : Str} {p pos : Pos} {e : Expr} {es : List Expr} {t : TA} {a : Addr} {oe : Obj}
theorem env_give {pins : List (Addr × Obj)} {σ : L2.St} {H : Hp} {s : Shared} (I : Inv X pins σ H s) (mem : (a, oe) ∈ X.pn) (bna : X.base.get? a = none) : Env0 X.prog X.w X.K X.mg X.base X.A X.stack s (upd H a (exE a oe)) := by
  obtain ⟨g, n, nL, nF, _⟩ := I.pin (a, oe) (List.mem_append_left _ mem)
  have e0 := I.env0
  refine ⟨e0.frames, e0.mod, fun b o q => ⟨(e0.bs b o q).1, ?_⟩, e0.bsz, e0.funs, fun b hb => ?_, ?_, e0.bare⟩
  · rw [upd_ne (fun z => by rw [z, bna] at q; cases q)]
    exact (e0.bs b o q).2
  · have hne : b ≠ a := fun z => by
      rcases List.mem_cons.mp (I.stkSub b hb) with q | q
      · exact nL (z ▸ q)
      · exact nF (z ▸ q)
    rw [upd_ne hne]
    exact e0.frf b hb
  · exact e0.hok.laidN (fun _ _ z => z) n ⟨g, ⟨oe, g⟩, fun h1 h2 q k => k _ q⟩
theorem pe_give (mem : (a, oe) ∈ X.pn) (bna : X.base.get? a = none) (pr : Prom X.prog X.w X.K X.mg X.base k x ps sp) (hr : Room k X.A) (hg : Gl X x) (ha : PA X (e :: es) t) (hdb : (x == ("__debug__" : Str)) = false := by decide)
    (he : starEach (e :: es) X.env = (false, eval e X.env) :: starEach es X.env := by rfl) (hpl : (backTo pos (starEach es X.env)).any (·.1) = false := by rfl) :
    PE X (.Call (.Name x p) (e :: es) [] pos) (tGive sp a oe t) := by
  obtain ⟨f, fd, F, hm, hk, hb⟩ := pr
  refine ⟨fun pins s σ H Q I h => ?_⟩
  refine wpAny_Call_Name_kw (ld_glob I hg hm ?_ hdb)
  refine PySem.W.callWith_K (h₀ := X.base) I.ok.mod.kin hk (thn (ha.run pos pins s σ H _ I h) fun us s1 ⟨vs, H1, I1, r, n1, q⟩ => ⟨I1.kIn, ?_⟩) he hpl
  have hl : us.length = ps.length := by rw [← r.length]; exact F.len _ _ _ _ q
  have b := hb s1 us I1.kIn (by rw [List.append_nil]; exact hl)
  rw [List.append_nil] at b
  obtain ⟨g, n, _, _, _⟩ := I1.pin (a, oe) (List.mem_append_left _ mem)
  refine wpAny_call (codeAny_mono (F.run X.A X.stack s1 _ ⟨us, []⟩ us vs _ _ hr (env_give I1 mem bna) b r q) fun o t z => ?_)
  match o, z with
  | .error e, z => exact False.elim z
  | .ok (.ret u), z =>
    obtain ⟨v, H', os, bare, un, hok, rv, ea, q2⟩ := z
    obtain ⟨g', _⟩ := (show ObjOk X.prog X.w H' t.heap a (.ext fun h => h.get? a = some oe) from hok a _ ea)
    exact I1.after ⟨v, _, os, bare, un_back n ea g g' un, hok_drop ea hok, rv, q2⟩
end
end TS

set_option maxHeartbeats 800000
/-! ### 45. methods that may raise; == between an instance and an exception; the looks of such exceptions -/
namespace TS
open PySem PySem.Spec PyProof.Rows L2
/-! methods that may raise -/
def tMethX (C : Addr) (m : Str) (sp : Sp) (W : WX) (ta : TE) (t : TA) : TE := fun σ H Q => ta σ H fun x H1 => ∃ a dx fs, x = .ref a ∧ H1 a = some (.ins C dx fs) ∧ fs.lookup m = none ∧ t σ H1 fun vs H2 => sp (.ref a :: vs) H2 Q (WE W σ)
section
variable {X : Cx} {k : Nat} {f C : Addr} {ps : List Str} {sp : Sp} {W : WX} {m : Str} {pos apos : Pos} {e o : Expr} {es : List Expr} {ta : TE} {t : TA}
theorem pe_pmX {pl : Sem Bool} (c : Cls X.K C) (hm : Meth X.K C m f) (pr : PromA (L2.CX X.prog X.w) X.prog X.w X.K X.mg X.base k f ps sp) (tk : Takes X W) (hr : Room k X.A) (he : PE X o ta) (ha : PA X (e :: es) t)
    (hst : starEach (e :: es) X.env = (false, eval e X.env) :: starEach es X.env := by rfl) (hpl : (backTo pos (starEach es X.env)).any (·.1) = false := by rfl)
    (ht : eval (.Call (.Attribute o m apos) (e :: es) [] pos) X.env = (do
      let ov ← eval o X.env
      standAt apos.atName
      let (f, first) ← holding [ov] (getMethod ov m pl)
      callWith pos f first (backTo pos (starEach (e :: es) X.env)) (backToKw pos (keywordEach [] X.env))) := by rfl) : PE X (.Call (.Attribute o m apos) (e :: es) [] pos) (tMethX C m sp W ta t) := by
  obtain ⟨fd, F, b⟩ := pr
  refine ⟨fun pins s σ H Q I h => ?_⟩
  refine PySem.W.methodCall_KW (pl := pl) (thn (he.run pins s σ H _ I h) fun u s1 ⟨x, H1, I1, rx, a, dx, fs, ex, ea, l, q⟩ => ?_) ht
  subst ex
  obtain rfl : u = Value.ref a := rx
  refine getmeth_ok I1 ea c hm l ?_
  refine PySem.W.callWith_K (first := [.ref a]) (h₀ := X.base) I.ok.mod.kin hm.kp (thn (ha.run pos pins s1 σ H1 _ I1 q) fun us s2 ⟨vs, H2, I2, r, q2⟩ => ⟨I2.kIn, ?_⟩) hst hpl
  exact run_fnS (us := .ref a :: us) (vs := .ref a :: vs) F hr b (passAt tk σ) I2 (.cons rfl r) q2
theorem pe_pmX0 {pl : Sem Bool} (c : Cls X.K C) (hm : Meth X.K C m f) (pr : PromA (L2.CX X.prog X.w) X.prog X.w X.K X.mg X.base k f ps sp) (tk : Takes X W) (hr : Room k X.A) (he : PE X o ta)
    (ht : eval (.Call (.Attribute o m apos) [] [] pos) X.env = (do
      let ov ← eval o X.env
      standAt apos.atName
      let (f, first) ← holding [ov] (getMethod ov m pl)
      callWith pos f first (backTo pos (starEach [] X.env)) (backToKw pos (keywordEach [] X.env))) := by rfl) : PE X (.Call (.Attribute o m apos) [] [] pos) (tMethX C m sp W ta tNil) := by
  obtain ⟨fd, F, b⟩ := pr
  refine ⟨fun pins s σ H Q I h => ?_⟩
  refine PySem.W.methodCall_KW (pl := pl) (thn (he.run pins s σ H _ I h) fun u s1 ⟨x, H1, I1, rx, a, dx, fs, ex, ea, l, q⟩ => ?_) ht
  subst ex
  obtain rfl : u = Value.ref a := rx
  refine getmeth_ok I1 ea c hm l ?_
  exact PySem.W.callWith_K0 (first := [.ref a]) I1.kIn hm.kp (run_fnS (us := [.ref a]) (vs := [.ref a]) F hr b (passAt tk σ) I1 (.cons rfl .nil) q)
end
/-! an exception that is held, beside an instance -/
structure ExcC (K : PySem.W.Frag) (C2 C : Addr) : Prop where
  cls : ∃ nm q N bs bm sn sub ab col dd k0 k1 k2 k3 k5 nw, K.lookup C2 = some (excClassObj nm q C2 N bs bm true sn sub ab col dd k0 k1 k2 k3 k5 nw) ∧ bm.contains (.type "object") = true
  eq : PySem.W.findIn K (.ref C2) "__eq__" = some (some (.builtin "object.__eq__"))
  a : PySem.W.subIn K (.ref C2) (.ref C) = some false
  b : PySem.W.subIn K (.ref C) (.ref C2) = some false
section
variable {M : Model} {A : Around} {E : Value → Shared → Prop} {s : Shared} {K : PySem.W.Frag} {e C2 : Addr} {oe : Obj}
theorem ifBound_obj {args : List Value} {Q : Option Value → Shared → Prop} (X : K.In s.heap) (he : s.heap.get? e = some oe) (hc : oe.cls = .ref C2) (hs : PySem.W.findIn K (.ref C2) "__eq__" = some (some (.builtin "object.__eq__")))
    (h : wpAny M A (call (.builtin "object.__eq__") (.ref e :: args)) (fun v => Q (some v)) E s) : wpAny M A (callSpecialIfBound? (.ref e) "__eq__" args) Q E s := by
  simp only [callSpecialIfBound?, bindSpecialIfBound?]
  refine wpAny_holding (wpAny_bind (wpAny_bind (wpAny_bind (wpAny_typeOf_ref he ?_))))
  rw [hc]
  refine (PySem.W.looks_findIn X hs).here ?_
  simp only [F.cmp_object.eq.bind]
  refine wpAny_bind (wpAny_askSetting (wpAny_ite ?_))
  have fin : wpAny M A (call (.builtin "object.__eq__") ([.ref e] ++ args) >>= fun v => pure (some v)) Q E s :=
    wpAny_bind (wpAny_mono h (fun v s' h' => wpAny_pure h') fun _ _ h' => h')
  split
  · exact wpAny_bind (wpAny_pure (wpAny_pure fin))
  · exact wpAny_tryCatch (wpAny_bind (wpAny_pure (wpAny_pure fin)))
end
section
variable {prog : Program} {w : World} {A : Around} {E : Value → Shared → Prop} {s : Shared} {K : PySem.W.Frag} {e x C2 C : Addr} {oe ox : Obj} {h₀ : Heap} {m : Str → Option Value}
theorem call_obj_other {Q : Value → Shared → Prop} (KI : K.In s.heap) (T : ExcC K C2 C) (he : s.heap.get? e = some oe) (hc : oe.cls = .ref C2) (hx : s.heap.get? x = some ox) (ne : e ≠ x) (hq : Q .notImplemented s) :
    wpAny (model prog w) A (call (.builtin "object.__eq__") [.ref e, .ref x]) Q E s := by
  obtain ⟨nm, q, N, bs, bm, sn, sub, ab, col, dd, k0, k1, k2, k3, k5, nw, kc, ob⟩ := T.cls
  obtain ⟨hh, gg, dr, tn, os⟩ := s
  exact wpAny_call (codeAny_call_builtin F.cmp_object.eq.plain F.cmpEntry_eq (wpAny_check_slot_inst F.cmpKind_eq F.cmpSplit_eq (F.cmpArgs_eq _ _) ob he hc (KI _ _ kc) (objEq_entry_other ne he hx (by rw [hc]; intro z; cases z) hq)))
/-- e == x, e an exception, x an instance with an own __eq__: the built-in one declines -/
theorem cmp_exc {f L : Addr} {od : Option Obj} {Q : Value → Shared → Prop} (hu : A.units < cLine) (Fm : Fr h₀ L s.heap m) (X₀ : K.In h₀) (T : ExcC K C2 C) (he : s.heap.get? e = some oe) (hc : oe.cls = .ref C2) (I : PySem.W.InstAt s.heap x ox C od) (nC : C2 ≠ C) (ne : e ≠ x)
    (hs : PySem.W.findIn K (.ref C) "__eq__" = some (some (.ref f))) (hf : PySem.W.isFn K (.ref f) = true)
    (h : wpAny (model prog w) A (call (.ref f) [.ref x, .ref e]) (PySem.W.CmpBack Q) E s) : wpAny (model prog w) A (richCompare .Eq (.ref e) (.ref x)) Q E s := by
  have X := X₀.keeps Fm.keep
  have two : wpAny (model prog w) A (tryCompare (.ref x) (cmpInfo .Eq).2.2 (.ref e)) (fun r s' => ∃ v, r = some v ∧ Q v s') E s := by
    unfold tryCompare
    refine wpAny_bind (PySem.W.ifBound_K X I hs hf (wpAny_mono h (fun v s' hv => ?_) fun _ _ e => e))
    cases v <;> first | exact hv.elim | exact wpAny_pure ⟨_, rfl, hv⟩
  have one : ∀ Q' : Option Value → Shared → Prop, Q' none s → wpAny (model prog w) A (tryCompare (.ref e) (cmpInfo .Eq).2.1 (.ref x)) Q' E s := fun Q' q' => by
    unfold tryCompare
    exact wpAny_bind (ifBound_obj X he hc T.eq (call_obj_other X T he hc I.1 ne (wpAny_pure q')))
  rcases hi : cmpInfo CmpOp.Eq with ⟨sym, f1, r1⟩
  rw [hi] at one two
  have tx : ∀ {α : Type} {k : Value → Sem α} {R : α → Shared → Prop}, wpAny (model prog w) A (k (.ref C2)) R E s → wpAny (model prog w) A (typeOf (.ref e) >>= k) R E s := fun z => wpAny_bind (wpAny_typeOf_ref he (by rw [hc]; exact z))
  simp only [richCompare, hi, oneThing_ref]
  refine wpAny_holding (wpAny_bind (wpAny_cRoomFor hu ?_))
  refine tx (wpAny_bind (I.type.here ?_))
  have nv : (Value.ref C2 != Value.ref C) = true := by simp [nC]
  simp only [nv, if_true]
  refine wpAny_bind ((PySem.W.looks_subIn X T.b).here ?_)
  simp only [Bool.false_eq_true, if_false, Bool.not_false, if_true]
  refine wpAny_bind (m := tryCompare (.ref e) _ _) (one _ ?_)
  refine wpAny_bind (m := tryCompare (.ref x) _ _) (wpAny_mono two (fun r s' z => ?_) fun _ _ e => e)
  obtain ⟨v, rfl, hq⟩ := z
  exact wpAny_pure hq
end
/-- an instance of C with data, an instance, or a held exception of C2 -/
def rEqLE (C C2 : Addr) (sp : Sp) : R2 := fun x y H Q => ∃ a dx fs b db, x = .ref a ∧ H a = some (.ins C dx fs) ∧ y = .ref b ∧ H b = some (exo b C2 (some db)) ∧ sp [.ref a, y] H (fun v G => ∃ c, v = .bl c ∧ Q (.bl c) G) E0
def rEqRE (C C2 : Addr) (sp : Sp) : R2 := fun x y H Q => ∃ a dx fs b db, x = .ref b ∧ H b = some (exo b C2 (some db)) ∧ y = .ref a ∧ H a = some (.ins C dx fs) ∧ b ≠ a ∧ sp [.ref a, x] H (fun v G => ∃ c, v = .bl c ∧ Q (.bl c) G) E0
section
variable {X : Cx} {K : PySem.W.Frag} {A : Around} {k : Nat} {C C2 f : Addr} {ps : List Str} {sp : Sp}
theorem eq_leftE (M : Meth X.K C "__eq__" f) (T : ExcC X.K C2 C) (pr : PromA CX0 X.prog X.w X.K X.mg X.base k f ps sp) (p : Plc X k A) : EqP X A (rEqLE C C2 sp) := by
  intro pins s σ H x y v u Q J rx ry rd
  obtain ⟨a, dx, fs, b, db, rfl, ha, rfl, hb, q⟩ := rd
  cases rx
  cases ry
  obtain ⟨mA, O, _⟩ := ins_get J.hok ha
  obtain ⟨od, look, _⟩ := O.look
  obtain ⟨m, hF⟩ := J.fr
  obtain ⟨t1, ob⟩ := exo_at J.hok hb
  refine PySem.W.cmp_K (op := .Eq) (tb := .ref C2) p.room.units0 hF J.ok.mod.kin look (fun A Q E s k q => wpAny_typeOf_ref (k _ _ ob) q) (by unfold PySem.W.notFirst; rw [T.a]; simp) M.at_ M.fn (wpAny_mono (call_own2 (y := .ref b) p pr J rfl q) (fun v s' z => ?_) fun _ _ z => z)
  obtain ⟨y1, G, J2, rv, c, rfl, q2⟩ := z
  cases rv
  exact ⟨.bl c, G, J2, rfl, q2⟩
theorem eq_rightE (M : Meth X.K C "__eq__" f) (T : ExcC X.K C2 C) (nC : C2 ≠ C) (pr : PromA CX0 X.prog X.w X.K X.mg X.base k f ps sp) (p : Plc X k A) : EqP X A (rEqRE C C2 sp) := by
  intro pins s σ H x y v u Q J rx ry rd
  obtain ⟨a, dx, fs, b, db, rfl, hb, rfl, ha, ne, q⟩ := rd
  cases rx
  cases ry
  obtain ⟨mA, O, _⟩ := ins_get J.hok ha
  obtain ⟨od, look, _⟩ := O.look
  obtain ⟨m, hF⟩ := J.fr
  obtain ⟨t1, ob⟩ := exo_at J.hok hb
  refine cmp_exc p.room.units0 hF J.ok.mod.kin T ob rfl look nC ne M.at_ M.fn (wpAny_mono (call_own2 (y := .ref b) p pr J rfl q) (fun v s' z => ?_) fun _ _ z => z)
  obtain ⟨y1, G, J2, rv, c, rfl, q2⟩ := z
  cases rv
  exact ⟨.bl c, G, J2, rfl, q2⟩
theorem op_eqLX (M : Meth K C "__eq__" f) (ap : ApK K C) (T : ExcC K C2 C) (pr : PromA CX0 X.prog X.w K X.mg X.base k f ps sp) (hr : Room k X.A) (hK : X.K = K := by rfl) : OpR X (compareOp .Eq) (fun x y H Q => rEqL K C sp x y H Q ∨ rEqLE C C2 sp x y H Q) := by
  subst hK
  exact EqP.op (EqP.or (eq_left M ap pr (Plc.own hr)) (eq_leftE M T pr (Plc.own hr)))
theorem op_eqRX (M : Meth K C "__eq__" f) (ap : ApK K C) (T : ExcC K C2 C) (nC : C2 ≠ C) (pr : PromA CX0 X.prog X.w K X.mg X.base k f ps sp) (hr : Room k X.A) (hK : X.K = K := by rfl) : OpR X (compareOp .Eq) (fun x y H Q => rEqR K C sp x y H Q ∨ rEqRE C C2 sp x y H Q) := by
  subst hK
  exact EqP.op (EqP.or (eq_right M ap pr (Plc.own hr)) (eq_rightE M T nC pr (Plc.own hr)))
end
/-! isinstance of a held exception -/
def rIsO (K : PySem.W.Frag) : List V → Hp → VK → Prop := fun xs H Q => ∃ (b C2 db : Addr) (fs : List (Str × V)) (c : V) (cv : Value) (r : Bool), xs = [.ref b, c] ∧ H b = some (exo b C2 (some db)) ∧ H db = some (exd db fs) ∧ exI K C2 = true ∧ (∀ u, RelV c u → u = cv) ∧ PySem.W.kitOne K (.ref C2) cv = some r ∧ Q (.bl r) H
theorem call_isO {X : Cx} {K : PySem.W.Frag} (hK : X.K = K) : CallR X (.builtin "isinstance") (rIsO K) := by
  subst hK
  intro pins s σ H xs us Q I r h
  obtain ⟨a, D, dx, fs, c, cv, b, rfl, he, hdx, hi, hcv, e, q⟩ := h
  cases r with
  | cons rx rr =>
    cases rr with
    | cons rt rr =>
      cases rr
      cases rx
      have ec := hcv _ rt
      subst ec
      obtain ⟨t1, hget⟩ := exo_at I.hok he
      obtain ⟨mA, ⟨od, es, ep, hod, _⟩, _⟩ := exd_at I.hok hdx
      have J : PySem.W.InstAt s.heap a _ D (some od) := ⟨hget, rfl, rfl, hod⟩
      simp only [exI, Bool.and_eq_true, beq_iff_eq] at hi
      obtain ⟨i1, i2, i3, i4, i5, i6, i7, i8⟩ := hi
      exact PySem.W.kia_one (PySem.W.kitx_exc i1 i2 i3 i4 i5 i6 i7 i8) I.kIn J e (fun z => nomatch z) fun tk => ⟨.bl b, H, I.kept (t' := tk) fun _ _ z => z, rfl, q⟩
theorem isiKE {X : Cx} {K : PySem.W.Frag} (hK : X.K = K := by rfl) : CallR X (.builtin "isinstance") (fun xs H Q => rIsi K xs H Q ∨ rIsO K xs H Q) := CallR.or (isiK hK) (call_isO hK)
/-- what the head tells of C2 beside C -/
def excB (K : PySem.W.Frag) (C2 C : Addr) (nw : String) (tl : List Value) : Bool := (oexTB K C2 nw tl && (decide (PySem.W.findIn K (.ref C2) "__eq__" = some (some (.builtin "object.__eq__"))) && exI K C2)) && (decide (PySem.W.subIn K (.ref C2) (.ref C) = some false) && (decide (PySem.W.subIn K (.ref C) (.ref C2) = some false) &&
  (decide (PySem.W.kitOne K (.ref C2) (.ref C) = some false) && decide (C2 ≠ C))))
theorem excB_ok {K : PySem.W.Frag} {C2 C : Addr} {B nw ini : String} {tl : List Value} (Fb : Bas B nw ini tl) (h : excB K C2 C nw tl = true) : ExcC K C2 C ∧ exI K C2 = true ∧ PySem.W.kitOne K (.ref C2) (.ref C) = some false ∧ C2 ≠ C := by
  obtain ⟨h1, h⟩ := He.ba h
  obtain ⟨a1, h1⟩ := He.ba h1
  obtain ⟨a2, a3⟩ := He.ba h1
  obtain ⟨b1, h⟩ := He.ba h
  obtain ⟨b2, h⟩ := He.ba h
  obtain ⟨b3, b4⟩ := He.ba h
  obtain ⟨nm, q, N, bs, bm, sn, sub, ab, col, dd, k0, k1, k2, k3, k5, kc, rf⟩ := oexTB_ok a1
  exact ⟨⟨⟨nm, q, N, bs, bm, sn, sub, ab, col, dd, k0, k1, k2, k3, k5, nw, kc, (refsT_has _ _ rf).trans Fb.ob⟩, of_decide_eq_true a2, of_decide_eq_true b1, of_decide_eq_true b2⟩, a3, of_decide_eq_true b3, of_decide_eq_true b4⟩
end TS

set_option maxHeartbeats 800000
/-! ### 60. exceptions whose arguments are known, and how they are shown -/
namespace TS
open PySem PySem.Spec PyProof.Rows L2
/-- at e: an exception of the class at C, its arguments at t1 -/
def exoT (e C : Addr) (d : Option Addr) (t1 : Addr) : HO := .ext fun h => h.get? e = some ({ cls := .ref C, dict := d, data := .fields #[.ref t1, .none, .none, .none, .bool false, .none] } : Obj)
section
variable {P : Program} {w : World} {H : Hp} {h : Heap} {e C t1 : Addr} {d : Option Addr}
theorem exoT_ok (he : h.get? e = some ({ cls := .ref C, dict := d, data := .fields #[.ref t1, .none, .none, .none, .bool false, .none] } : Obj)) : ObjOk P w H h e (exoT e C d t1) := ⟨he, ⟨_, he⟩, fun _ _ z k => k _ z⟩
theorem exoT_at (hok : HOk P w H h) (he : H e = some (exoT e C d t1)) : h.get? e = some ({ cls := .ref C, dict := d, data := .fields #[.ref t1, .none, .none, .none, .bool false, .none] } : Obj) := by
  have x : ObjOk P w H h e (.ext fun h => h.get? e = some ({ cls := .ref C, dict := d, data := .fields #[.ref t1, .none, .none, .none, .bool false, .none] } : Obj)) := hok e _ he
  exact x.1
theorem exoT_own {x : Addr} : exoT e C d t1 ≠ .own x := fun z => by
  have z' : HO.ext _ = HO.own x := z
  cases z'
theorem exoT_tup {xs : List V} : exoT e C d t1 ≠ .tup xs := fun z => by
  have z' : HO.ext _ = HO.tup xs := z
  cases z'
theorem exoT_frz {o : Obj} {u : HO} : exoT e C d t1 ≠ .frz o u := fun z => by
  have z' : HO.ext _ = HO.frz o u := z
  cases z'
theorem exoT_tbl {ps : Array Value} : exoT e C d t1 ≠ .tbl ps := fun z => by
  have z' : HO.ext _ = HO.tbl ps := z
  cases z'
end
theorem bas_VE : Bas "ValueError" "ValueError.__new__" "ValueError.__init__" veT where
  by_ := ⟨_, _, _, F.excBase_ValueError, by decide +kernel⟩
  slot := by
    refine .of (owner := "ValueError") (n := "__init__") ?_ ?_ ?_ ?_ ?_ ?_
    · rw [typeLookup_type, builtinLookup_eq_fast]; kernel_rfl
    · decide +kernel
    · decide +kernel
    · decide +kernel
    · first | exact .inl (by decide +kernel) | exact .inr (by decide +kernel)
    · rw [isSubtype_type]; kernel_rfl
  entry := by
    refine entryFor_alias (id' := "BaseException.__init__") ?_ ?_ ?_ ?_
    · rw [fastTable_eq_tree]; kernel_rfl
    · first | rfl | decide +kernel
    · decide +kernel
    · rw [fastTable_eq_tree]; kernel_rfl
  split := by kernel_rfl
  kind := by kernel_rfl
  row := by kernel_rfl
  star := by decide +kernel
  hasB := by decide +kernel
  noA := by decide +kernel
  noN := by decide +kernel
  pass := fun _ => by kernel_rfl
  ob := by decide +kernel
  no := by decide +kernel
  handed := by decide +kernel
section
variable {prog : Program} {w : World} {A : Around} {E : Value → Shared → Prop} {R : Result → Shared → Prop} {hh : Heap} {gg : Array GenState} {dr : Drawn} {tn : Nat} {os : OsState}
variable {nm q : Str} {C N : Addr} {bs bm tlL : List Value} {hdct : Bool} {sn : List Str} {sub : List Value} {ab : Bool} {col : Option Bool} {dd : Option Addr} {k0 k1 k2 k3 k5 : Option Value} {L nw iniL : String}
open HandSPX in
/-- B.__init__(e, ..): the values are laid anew, at the heap's end -/
theorem init_baseA {B ini : String} {tl : List Value} (Fb : Bas B nw ini tl) (has : bm.contains (.type B) = true) {e t0 : Addr} {rest : List Value}
    (ec : hh.get? C = some (excClassObj nm q C N bs bm hdct sn sub ab col dd k0 k1 k2 k3 k5 nw)) (he : hh.get? e = some (excO C t0)) (few : rest.length ≤ sizeLine)
    (k : ∀ h', (∀ b o, b ≠ e → hh.get? b = some o → h'.get? b = some o) → h'.get? e = some (excO C hh.objs.size) → h'.get? hh.objs.size = some { cls := .type "tuple", data := .seq rest.toArray } → R (.ok (.ret .none)) ⟨h', gg, dr, tn, os⟩) :
    codeAny (model prog w) A (.call (.builtin ini) ⟨.ref e :: rest, []⟩) R ⟨hh, gg, dr, tn, os⟩ := by
  refine codeAny_call_builtin Fb.slot.plain Fb.entry (check_initT Fb.kind Fb.split Fb.row Fb.star has ec he rfl ?_)
  wp_walk
  refine k _ (fun b o hb ho => ?_) ?_ ?_
  · rw [Heap.get?_update_other _ _ (Ne.symm hb)]
    exact Heap.get?_push_of_some _ ho
  · rw [Heap.get?_update_self _ (Heap.get?_push_of_some _ he) rfl]
    rfl
  · rw [Heap.get?_update_other _ _ (Nat.ne_of_lt (Heap.lt_size he))]
    exact Heap.get?_push_size _ rfl
end
section
variable {X : Cx} {pins : List (Addr × Obj)} {σ : L2.St} {H : Hp} {s : Shared} {a C t1 : Addr} {f : Str} {y : V} {u : Value} {E : Value → Shared → Prop} {A : Around} {B nw ini : String} {tl : List Value}
/-- B.__init__(x, ..): its arguments known from here on -/
theorem oinitA {us : List Value} {vs : List V} {Q : Value → Shared → Prop} (Fb : Bas B nw ini tl) (T : OexT X.K C nw tl) (J : Inv X pins σ H s) (ea : H a = some (exo a C none)) (rv : Vals vs us) (hl : us.length ≤ sizeLine)
    (h : ∀ t1 s', H t1 = none → t1 ≠ a → Inv X pins σ (upd (upd H a (exoT a C none t1)) t1 (.tup vs)) s' → Q .none s') :
    wpAny (model X.prog X.w) A (call (.builtin ini) (.ref a :: us)) Q E s := by
  obtain ⟨nm, q, N, bs, bm, sn, sub, ab, col, dd, k0, k1, k2, k3, k5, kc, rf⟩ := T.cls
  obtain ⟨t1, ob⟩ := exo_at J.hok ea
  obtain ⟨hh, gg, dr, tn, os⟩ := s
  refine wpAny_call (init_baseA Fb ((refsT_has _ _ rf).trans Fb.hasB) (J.kIn _ _ kc) ob hl fun h' kp xd xt => ?_)
  have J2 := J.write (t' := tn) (x := a) (e := a) (o := exoT a C none hh.objs.size) (by rw [ea]; exact True.intro) (.inl rfl) kp ⟨_, xd⟩ (exoT_ok xd)
  have n1 : hh.objs.size ≠ a := fun z => Nat.lt_irrefl _ (z ▸ Heap.lt_size ob)
  have n0 : H hh.objs.size = none := J.hok.fresh (Nat.le_refl _)
  have n2 : upd H a (exoT a C none hh.objs.size) hh.objs.size = none := by rw [upd_ne n1]; exact n0
  have J3 := J2.take (h' := h') (t' := tn) (it := hh.objs.size) (o := .tup vs) (fun b ob _ e => e) (J.fpOk (Nat.le_refl _) n2) ⟨by rw [rv.length]; exact hl, us, rv, ⟨_, xt, rfl, 0, rfl⟩⟩
  exact h _ _ n0 n1 J3
theorem ostA {Q : Unit → Shared → Prop} (Fb : Bas B nw ini tl) (T : OexT X.K C nw tl) (J : Inv X pins σ H s) (ea : H a = some (exoT a C none t1)) (no : PySem.W.findIn X.K (.ref C) f = some none) (ry : RelV y u)
    (h : ∀ dx s', H dx = none → dx ≠ a → Inv X pins σ (upd (upd H dx (exd dx [(f, y)])) a (exoT a C (some dx) t1)) s' → Q () s') : wpAny (model X.prog X.w) A (setAttr (.ref a) f u) Q E s := by
  obtain ⟨nm, q, N, bs, bm, sn, sub, ab, col, dd, k0, k1, k2, k3, k5, kc, rf⟩ := T.cls
  have ec : PySem.W.clsIn X.K C = some { name := nm, bases := bs, mro := .ref C :: bm, ns := N, qualname := q, hasDict := true, slotNames := sn, subclasses := sub, abstract := ab, collection := col, hasDel := false } := by
    unfold PySem.W.clsIn
    rw [kc] <;> rfl
  have ob := exoT_at J.hok ea
  obtain ⟨hh, gg, dr, tn, os⟩ := s
  refine PySem.W.set_plain J.kIn (ox := { cls := .ref C, dict := none, data := .fields #[.ref t1, .none, .none, .none, .bool false, .none] }) (od := none) ⟨ob, rfl, rfl, trivial⟩ T.sa ?_
  refine osa_first Fb J.kIn ob ec (show refsT tl (.ref C :: bm) = true from rf) rfl no (fun h' tk' dx kp new apart xd nsd => ?_)
  have fr : H dx = none := J.hok.fresh new
  have nd : ∀ {b : Addr} {o : Obj}, hh.get? b = some o → b ≠ dx := fun {b o} z => Nat.ne_of_lt (Nat.lt_of_lt_of_le (Heap.lt_size z) new)
  have na : ∀ {b : Addr}, H b = none → b ≠ a := fun {b} n z => by
    rw [z, ea] at n
    cases n
  have un : Un X.fs [] H (upd (upd H dx (exd dx [(f, y)])) a (exoT a C (some dx) t1)) hh h' := {
    keep := fun b o z n _ _ => kp b o (na n) z
    slot := fun b o z n _ _ => ⟨o.slots, kp b o (na n) z⟩
    free := fun b o z n _ => by rw [upd_ne (na n), upd_ne (nd z)]; exact n
    there := fun b o z _ => by
      by_cases hb : b = a
      · exact ⟨_, by rw [hb]; exact xd⟩
      · exact ⟨o, kp b o hb z⟩
    tups := fun b xs z => by rw [upd_ne (at_ne ea z exoT_tup), upd_ne (ne_of_none z fr)]; exact z
    frzs := fun b o v z => by rw [upd_ne (at_ne ea z exoT_frz), upd_ne (ne_of_none z fr)]; exact z
    tbls := fun b ps z => ⟨#[], by rw [upd_ne (at_ne ea z exoT_tbl), upd_ne (ne_of_none z fr), z]; simp⟩ }
  refine h dx _ fr apart (J.un (t' := tk') un fun b o z => ?_)
  by_cases hb : b = a
  · subst hb
    rw [upd_same] at z
    cases z
    exact exoT_ok xd
  · rw [upd_ne hb] at z
    by_cases hd : b = dx
    · subst hd
      rw [upd_same] at z
      cases z
      exact exd_ok nsd (relO_put (fs := []) ry fun _ => True.intro)
    · rw [upd_ne hd] at z
      refine (J.hok b o z).stay (fun c v hc y => kp c v ?_ y) (fun c hc => by rw [upd_ne (at_ne ea hc exoT_own), upd_ne (ne_of_none hc fr)]; exact hc) (fun c xs hc => by rw [upd_ne (at_ne ea hc exoT_tup), upd_ne (ne_of_none hc fr)]; exact hc)
      rcases hc with hc | hc
      · rw [hc]; exact hb
      · exact at_ne ea hc exoT_own
end
/-! readings and rules -/
def tInitA (K : PySem.W.Frag) (nw : String) (tl : List Value) (ta : TA) : TE := fun σ H Q => ta σ H fun vs H1 => ∃ (a C : Addr) (ws : List V), vs = .ref a :: ws ∧ ws.length ≤ 1000 ∧ OexT K C nw tl ∧ H1 a = some (exo a C none) ∧
  ∀ t1, H1 t1 = none → t1 ≠ a → Q .non (upd (upd H1 a (exoT a C none t1)) t1 (.tup ws))
def tOstA (K : PySem.W.Frag) (nw : String) (tl : List Value) (f : Str) (to te : TE) : TS := fun D σ H => te σ H fun y H1 => to σ H1 fun x H2 => ∃ a C t1 : Addr, x = .ref a ∧ OexT K C nw tl ∧ PySem.W.findIn K (.ref C) f = some none ∧
  H2 a = some (exoT a C none t1) ∧ ∀ dx, H2 dx = none → dx ≠ a → D.nx σ (upd (upd H2 dx (exd dx [(f, y)])) a (exoT a C (some dx) t1))
section
variable {X : Cx} {B' : Addr} {B nw ini : String} {tl : List Value} {x f : Str} {o e : Expr} {es : List Expr} {to te : TE} {ta : TA} {p p' p1 p2 pos : Pos}
theorem pe_famInitA {pl : Sem Bool} (Fb : Bas B nw ini tl) (T : FamT X.K B' ini) (hg : Gl X x) (hm : X.mg x = some (.ref B')) (ha : PA X (e :: es) ta) (hdb : (x == ("__debug__" : Str)) = false := by decide)
    (hc : eval (.Call (.Attribute (.Name x p1) "__init__" p2) (e :: es) [] pos) X.env = (do
      let ov ← eval (.Name x p1) X.env
      standAt p2.atName
      let (f, first) ← holding [ov] (getMethod ov "__init__" pl)
      callWith pos f first (backTo pos (starEach (e :: es) X.env)) (backToKw pos (keywordEach [] X.env))) := by rfl)
    (he : starEach (e :: es) X.env = (false, eval e X.env) :: starEach es X.env := by rfl) (hpl : (backTo pos (starEach es X.env)).any (·.1) = false := by rfl) :
    PE X (.Call (.Attribute (.Name x p1) "__init__" p2) (e :: es) [] pos) (tInitA X.K nw tl ta) := by
  refine ⟨fun pins s σ H Q J h => ?_⟩
  refine PySem.W.methodCall_KW (ld_glob J hg hm ?_ hdb) hc
  refine PySem.W.method_cls J.kIn T.rd.ga (PySem.W.cls_value J.kIn T.rd.rd T.ini Fb.handed ?_)
  show wpAny _ _ (callWith pos (Value.builtin ini) [] (backTo pos (starEach (e :: es) X.env)) []) _ _ _
  refine PyProof.Rows.callWith_method1 (thn (ha.run pos pins _ σ H _ (J.tok _) h) fun us t ⟨vs, H1, J1, r1, a, C, ws, ev, hl, O, ea, q⟩ => ?_) he hpl
  subst ev
  cases r1 with
  | @cons _ u0 _ ur ra rw' =>
    obtain rfl : u0 = Value.ref a := ra
    exact oinitA Fb O J1 ea rw' (by rw [← Paired.length rw', sizeLine_eq]; omega) fun t1 t' h1 h2 J2 => ⟨.non, _, J2, rfl, q t1 h1 h2⟩
theorem ps_ostA (Fb : Bas B nw ini tl) (ho : PE X o to) (he : PE X e te) (hs : swapsWith e (some (.Attribute o f p')) pos.line X.env = pure false := by rfl) : PS X (.Assign [.Attribute o f p'] e pos) (tOstA X.K nw tl f to te) := by
  refine ⟨fun pins s σ H D J h => ?_⟩
  refine plainObj_wpAny_Assign_Attribute (thn (he.run pins s σ H _ J h) fun v t1 ⟨y, H1, J1, r1, q1⟩ => thn (ho.run pins t1 σ H1 _ J1 q1) fun u t2 ⟨z, H2, J2, r2, a, C, ta, ez, O, no, ea, q⟩ => ?_) hs
  subst ez
  obtain rfl : u = Value.ref a := r2
  exact ostA Fb O J2 ea no r1 fun dx s' n ne J3 => ⟨σ, _, J3, q dx n ne⟩
end
/-- what the __init__ of such a class keeps, its text m told -/
def spIniA (C : Addr) (f m : Str) : Sp := fun vs H Q _ => ∃ a v, vs = [.ref a, v] ∧ H a = some (exo a C none) ∧
  ∀ t1 dx G, H t1 = none → H dx = none → t1 ≠ a → dx ≠ a → dx ≠ t1 → G a = some (exoT a C (some dx) t1) → G dx = some (exd dx [(f, v)]) → G t1 = some (.tup [.str m]) → (∀ b, b ≠ a → b ≠ dx → b ≠ t1 → G b = H b) → Q .non G
/-! ### how they are shown -/
structure RepC (K : PySem.W.Frag) (C : Addr) (nm : Str) : Prop where
  cls : ∃ cd, PySem.W.clsIn K C = some cd ∧ cd.name = nm
  rep : PySem.W.findIn K (.ref C) "__repr__" = some (some (.builtin "BaseException.__repr__"))
  sub : PySem.W.subIn K (.ref C) (.type "BaseException") = some true
def excTxt (nm m : Str) : Str := (((nm.toString.cutAt '.').getLastD "" : String) : Str) ++ "(" ++ reprText m ++ ")"
section
open Builtin Builtin.Str Builtin.BaseException Builtin.Exceptions
variable {prog : Program} {w : World} {K : PySem.W.Frag} {h₀ : Heap} {e t0 C : Addr} {oe : Obj} {nm m : Str} {tk : Tok}
theorem bexcR_kind : builtinKind "BaseException.__repr__" = some .slot := by kernel_rfl
theorem bexcR_split : splitId "BaseException.__repr__" = some ("BaseException", "__repr__") := by kernel_rfl
theorem reprK_exc {as : List Addr} {d : Nat} {vs : Array Value} (X : K.In h₀) (T : RepC K C nm) (he : h₀.get? e = some oe) (hc : oe.cls = .ref C) (hd : oe.data = .fields vs) (h0 : vs[0]? = some (.ref t0)) (ht : h₀.TupAt t0 [.str m tk]) :
    ReprK prog w as h₀ d (.ref e) (excTxt nm m) := by
  intro base hsz A g E s Q hg hcl hu hk0 hQ
  have XK : K.In s.heap := X.keeps hk0
  have he' := hk0 _ _ he
  obtain ⟨ot, kt, hto, htc, htd⟩ := id ht
  have hto' := hk0 _ _ hto
  obtain ⟨cd, hcd, hnm⟩ := T.cls
  have FX := F.excStr_ValueError
  have lk : PySem.W.Looks (model prog w) s.heap (typeLookup (.ref C) "__repr__") (some (.builtin "BaseException.__repr__")) := PySem.W.looks_findIn XK T.rep
  refine wpAny_pyReprUnder_ref (Nat.le_trans (Nat.le_add_right _ _) hsz) ?_
  unfold pyReprObjUnder pyReprObjBy
  refine wpAny_bind (wpAny_cRoomFor (by omega) ?_)
  refine wpAny_bind (wpAny_bind (wpAny_typeOf_ref he' ?_))
  rw [hc]
  refine lk.here ?_
  simp only [Option.isNone_some, Bool.false_eq_true, if_false]
  have iso : PySem.W.Looks (model prog w) s.heap (isInstance (.ref e) (.type "BaseException")) true := (show PySem.W.Looks (model prog w) s.heap (typeOf (.ref e)) (.ref C) from hc ▸ (PySem.W.Looks.ld he').andThen .now).andThen (PySem.W.looks_subIn XK T.sub)
  have szz : (excReprHead nm.toString ++ "(" ++ reprText m ++ ")").length ≤ sizeLine := Nat.le_trans (Nat.le_add_left _ _) hsz
  have body : wpAny (model prog w) A (call (.builtin "BaseException.__repr__.under") [.ref e, rawInt base]) (fun v s' => (∃ u, v = .str (excTxt nm m) u) ∧ ∃ t', s' = { s with toks := t' }) E s := by
    refine wpAny_call (codeAny_call_builtin F.plain_bexc_repr_under F.entry_bexc_repr_under ?_)
    rw [F.check_bexc_repr_under]
    refine wpAny_pure ?_
    show wpAny _ _ (reprTwin "BaseException.__repr__" bexcReprAt ⟨[.ref e, rawInt base], []⟩) _ _ _
    rw [reprTwin_eq]
    refine wpAny_bind (@PySem.W.check_slot (model prog w) _ _ s "BaseException.__repr__" "BaseException" "__repr__" (.ref e) [] [] _ bexcR_kind bexcR_split iso (F.args_bexc_repr _) ?_)
    have e1 : base + (Str.ofString ((nm.toString.cutAt '.').getLastD "") ++ Str.ofString "(" ++ reprText m ++ Str.ofString ")").length ≤ sizeLine := hsz
    have hsz2 : (Str.ofString ((nm.toString.cutAt '.').getLastD "") ++ Str.ofString "(" ++ reprText m ++ Str.ofString ")").length ≤ sizeLine := Nat.le_trans (Nat.le_add_left _ base) e1
    have eP : (Str.ofString "(").length = 1 := by rw [PySem.ofString_length]; rfl
    rw [strLen_append, strLen_append, strLen_append, eP] at e1
    have hsz1 : (reprText m).length ≤ sizeLine := by omega
    have hpile : base + ((Str.ofString ((nm.toString.cutAt '.').getLastD "")).length + 1) ≤ sizeLine := by omega
    have tnw : ∀ {A : Around} {Q : String → Shared → Prop} {E : Value → Shared → Prop}, Q nm.toString s → wpAny (model prog w) A (typeNameOfWhole (.ref e)) Q E s := fun {A Q E} q => by
      unfold typeNameOfWhole shownTypeOf
      refine wpAny_bind (wpAny_bind (wpAny_typeOf_ref he' ?_))
      rw [hc]
      have ne : (Value.ref C == Value.type "builtin_function_or_method") = false := rfl
      simp only [ne, Bool.false_eq_true, if_false]
      refine wpAny_pure ?_
      show wpAny _ _ (classData C >>= fun c => pure c.name.toString) _ _ _
      refine wpAny_bind ((PySem.W.looks_clsIn XK hcd).here (wpAny_pure ?_))
      rw [hnm]
      exact q
    have bar : ∀ {A : Around} {Q : Value × List Value → Shared → Prop} {E : Value → Shared → Prop}, Q (.ref t0, [.str m tk]) s → wpAny (model prog w) A (bexcArgs (.ref e)) Q E s := fun {A Q E} q => by
      unfold bexcArgs
      exact wpAny_bind (wpAny_field he' hd h0 (wpAny_bind (wpAny_seqItems hto' htd (wpAny_pure q))))
    unfold bexcReprAt
    repeat (first | with_reducible refine tnw ?_ | with_reducible refine bar ?_ | rw [pyReprUnder_leaf (v := .str m tk) hpile (by intro a; nofun)] | with_reducible refine wpAny_pyRepr_str ?_ | wp_step)
    exact ⟨⟨_, rfl⟩, _, rfl⟩
  refine wpAny_bind ?_
  simp only [callSpecialIfBoundBy?, bindSpecialIfBound?]
  refine wpAny_holding (wpAny_bind (wpAny_bind (wpAny_bind (wpAny_typeOf_ref he' ?_))))
  rw [hc]
  refine lk.here ?_
  simp only [FX.repr.bind]
  refine wpAny_bind (wpAny_askSetting (wpAny_ite ?_))
  have fin : ∀ {R : Option Value → Shared → Prop}, (∀ u t', R (some (.str (excTxt nm m) u)) { s with toks := t' }) → wpAny (model prog w) A (call (.builtin "BaseException.__repr__.under") [.ref e, rawInt base] >>= fun v => pure (some v)) R E s := fun {R} q =>
    wpAny_bind (wpAny_mono body (fun v s' ⟨⟨u, ev⟩, t', es⟩ => by subst ev es; exact wpAny_pure (q u t')) fun _ _ h' => h')
  have end_ : ∀ u t', wpAny (model prog w) A (do if ← isInstance (.str (excTxt nm m) u) (.type "str") then pure (Value.str (excTxt nm m) u) else raiseError "TypeError" s!"__repr__ returned non-string (type {← typeNameOf (.str (excTxt nm m) u)})") (fun v s' => ∃ x u, v = .str x u ∧ Q x s') E { s with toks := t' } := fun u t' =>
    wpAny_bind (wpAny_isInstance (T := "str") (b := true) rfl isSubtype_str_str (wpAny_pure ⟨_, _, rfl, hQ s.heap t' fun _ _ z => z⟩))
  split
  · exact wpAny_bind (wpAny_pure (wpAny_pure (fin end_)))
  · exact wpAny_tryCatch (wpAny_bind (wpAny_pure (wpAny_pure (fin end_))))
end
end TS

set_option maxHeartbeats 2000000
/-! ### 62. such exceptions made with one value by its name: C(k = e) -/
namespace TS
open PySem PySem.Spec PyProof.Rows L2
section
variable {M : Model} {A : Around} {E : Value → Shared → Prop} {hh : Heap} {gg : Array GenState} {dr : Drawn} {tn : Nat} {os : OsState}
variable {nm q : Str} {C N : Addr} {bs bm tlL : List Value} {hdct : Bool} {sn : List Str} {sub : List Value} {ab : Bool} {col : Option Bool} {dd : Option Addr} {k0 k1 k2 k3 k5 : Option Value} {L nw iniL B ini : String} {tl : List Value}
theorem check_newN (Fx : ExcBaseFacts L nw iniL tlL) (has : bm.contains (.type L) = true) {k : Str} {u : Value} {Q : Unit → Shared → Prop}
    (ec : hh.get? C = some (excClassObj nm q C N bs bm hdct sn sub ab col dd k0 k1 k2 k3 k5 nw)) (fin : Q () ⟨hh, gg, dr, tn, os⟩) : wpAny M A (checkBuiltinCall nw ⟨[.ref C], [(k, u)]⟩) Q E ⟨hh, gg, dr, tn, os⟩ := by
  have has' : (Value.ref C :: bm).contains (.type L) = true := by rw [List.contains_cons, has, Bool.or_true]
  have st := Fx.noStar
  simp only [checkBuiltinCall, Fx.newKind, Fx.newSplit, Fx.newRow]
  repeat (first | refine wpAny_loadPart_at ec ?_ | (refine wpAny_isSubtype_exc ec ?_; rw [has']) | refine wpAny_staticBase_exc ec ?_ | refine wpAny_madeBy_exc ec ?_ | simp only [bne_self_eq_false, Bool.false_eq_true, if_false] | wp_step)
  exact fin
end
section
variable {prog : Program} {w : World} {A : Around} {E : Value → Shared → Prop} {R : Result → Shared → Prop} {hh : Heap} {gg : Array GenState} {dr : Drawn} {tn : Nat} {os : OsState}
variable {nm q : Str} {C N : Addr} {bs bm tlL : List Value} {hdct : Bool} {sn : List Str} {sub : List Value} {ab : Bool} {col : Option Bool} {dd : Option Addr} {k0 k1 k2 k3 k5 : Option Value} {L nw iniL : String}
theorem newN (Fx : ExcBaseFacts L nw iniL tlL) (has : bm.contains (.type L) = true) (noA : bm.contains (.type "AttributeError") = false) (noN : bm.contains (.type "NameError") = false) {k : Str} {u : Value}
    (ec : hh.get? C = some (excClassObj nm q C N bs bm hdct sn sub ab col dd k0 k1 k2 k3 k5 nw))
    (fin : R (.ok (.ret (.ref (hh.objs.size + 1)))) ⟨(hh.push { cls := .type "tuple", data := .seq #[] }).push
      { cls := .ref C, data := .fields #[.ref hh.objs.size, .none, .none, .none, .bool false, .none] }, gg, dr, tn, os⟩)  :
    codeAny (model prog w) A (.builtin nw ⟨[.ref C], [(k, u)]⟩) R ⟨hh, gg, dr, tn, os⟩ := by
  have hends := Fx.ends
  have hasL : (Value.ref C :: bm).contains (.type L) = true := by rw [List.contains_cons, has, Bool.or_true]
  have hasA : (Value.ref C :: bm).contains (.type "AttributeError") = false := by rw [List.contains_cons, noA]; rfl
  have hasN : (Value.ref C :: bm).contains (.type "NameError") = false := by rw [List.contains_cons, noN]; rfl
  refine codeAny_builtinAt Fx.entry ?_
  unfold Builtin.«BaseException.__new__»
  refine PySem.wpAt_bind ?_
  show PySem.wpAt _ _ _ (stack >>= _) _ _ _
  refine PySem.wpAt_bind (PySem.wpAt_stack fun p below => PySem.wpAt_of_wpAny ?_)
  wp_walk
  refine PySem.wpAt_of_wpAny ?_
  rw [Fx.owner]
  repeat (first | with_reducible refine wpAny_madeHere_exc Fx.canon ec ?_ | with_reducible refine wpAny_loadPart_at ec ?_ | (with_reducible refine wpAny_isSubtype_exc ec ?_; first | rw [hasL] | rw [hasA] | rw [hasN]) | wp_step)
  show R _ _
  rw [Heap.size_push]
  exact fin
open HandSPX in
theorem type_callN (Fx : ExcBaseFacts L nw iniL tlL) (has : bm.contains (.type L) = true) (noA : bm.contains (.type "AttributeError") = false) (noN : bm.contains (.type "NameError") = false) {kx : Str} {u : Value} {fI : Addr} {Q : Fin → Shared → Prop}
    (ec : hh.get? C = some (excClassObj nm q C N bs bm hdct sn sub ab col dd k0 k1 k2 k3 k5 nw))
    (li : PySem.W.Looks (model prog w) hh (typeLookup (.ref C) "__init__") (some (.ref fI))) (lb : ∀ self, PySem.W.Looks (model prog w) hh (bindSpecial (.ref fI) self) (.ref fI, [self])) 
    (k : codeAny (model prog w) A (.call (.ref fI) ⟨[.ref (hh.objs.size + 1)], [(kx, u)]⟩)
      (fun r s' => match r with | .ok (.ret v) => v = .none ∧ Q (.done (.ret (.ref (hh.objs.size + 1)))) s' | .ok _ => False | .error e => E e s')
      ⟨(hh.push (PySem.W.kdv_tup [])).push (excO C hh.objs.size), gg, dr, tn, os⟩) :
    wpAny (model prog w) A (Builtin.«type.__call__» ⟨[.ref C], [(kx, u)]⟩) Q E ⟨hh, gg, dr, tn, os⟩ := by
  repeat (first | with_reducible refine wpAny_loadPart_at ec ?_ | with_reducible refine wpAny_madeBy_exc ec ?_ | wp_step)
  refine codeAny_call_builtin_code (Code.quiet_builtin _ Fx.quiet) (check_newN Fx has ec ?_)
  refine newN Fx has noA noN ec ?_
  show wpAny _ _ _ _ _ _
  have kk : ∀ b o, hh.get? b = some o → ((hh.push (PySem.W.kdv_tup [])).push (excO C hh.objs.size)).get? b = some o := fun b o z => Heap.get?_push_of_some _ (Heap.get?_push_of_some _ z)
  have ec' := kk _ _ ec
  have got : ((hh.push (PySem.W.kdv_tup [])).push (excO C hh.objs.size)).get? (hh.objs.size + 1) = some (excO C hh.objs.size) := by heap_get
  have own : (Value.ref C :: bm).contains (.ref C) = true := by simp
  have li' := li.keeps kk
  have lb' := (lb (.ref (hh.objs.size + 1))).keeps kk
  unfold isInstance
  repeat (first | with_reducible refine wpAny_loadPart_at got ?_ | (with_reducible refine wpAny_isSubtype_exc ec' ?_; rw [own]) | wp_step)
  show wpAny _ _ (typeLookup (.ref C) _) _ _ _
  refine li'.at ?_
  refine wpAny_holding (wpAny_bind (lb'.at ?_))
  refine wpAny_bind (wpAny_call (codeAny_mono k fun r s' z => ?_))
  rcases r with e | (v | _ | _ | _) <;> first | exact z | exact z.elim | skip
  obtain ⟨rfl, z⟩ := z
  first
    | exact wpAny_pure (wpAny_pure z)
    | (wp_walk; exact z)
open HandSPX in
theorem call_ownN (Fx : ExcBaseFacts L nw iniL tlL) (has : bm.contains (.type L) = true) (noA : bm.contains (.type "AttributeError") = false) (noN : bm.contains (.type "NameError") = false) {kx : Str} {u : Value} {fI : Addr}
    (ec : hh.get? C = some (excClassObj nm q C N bs bm hdct sn sub ab col dd k0 k1 k2 k3 k5 nw))
    (li : PySem.W.Looks (model prog w) hh (typeLookup (.ref C) "__init__") (some (.ref fI))) (lb : ∀ self, PySem.W.Looks (model prog w) hh (bindSpecial (.ref fI) self) (.ref fI, [self])) 
    (k : codeAny (model prog w) (A.under (.builtin "type.__call__" ⟨[.ref C], [(kx, u)]⟩)) (.call (.ref fI) ⟨[.ref (hh.objs.size + 1)], [(kx, u)]⟩) (PySem.W.InitBack (hh.objs.size + 1) R)
      ⟨(hh.push (PySem.W.kdv_tup [])).push (excO C hh.objs.size), gg, dr, tn, os⟩) :
    codeAny (model prog w) A (.call (.ref C) ⟨[], [(kx, u)]⟩) R ⟨hh, gg, dr, tn, os⟩ := by
  have f1 := tc_lookup
  have f2 := tc_bind (.ref C)
  have isT : (⟨hh, gg, dr, tn, os⟩ : Shared).TypeIs (.ref C) "type" := ⟨_, ec, rfl⟩
  refine codeAny_of_tree ?_
  show wpAny _ _ (callAny (.ref C) _) _ _ _
  repeat (any_goals (first | assumption | with_reducible refine wpAny_loadPart_at ec ?_ | wp_step))
  refine ⟨rfl, ?_⟩
  refine codeAny_call_builtin_at (Code.quiet_builtin _ (by decide +kernel)) entry_typeCall (wpAny_check_type_call_sub ec (type_callN Fx has noA noN ec li lb ?_))
  refine codeAny_mono k fun r s' z => ?_
  rcases r with e | (v | _ | _ | _) <;> exact z
end
/-- a method that raises nothing and its promise, however it is called -/
def MethA (P : Program) (w : World) (K : PySem.W.Frag) (mg : Str → Option Value) (base : Heap) (k : Nat) (f : Addr) (m qual : Str) (st : Stmt) (ps : List Str) (sp : Sp) : Prop :=
  ∃ fd, FunD K m qual (defArgs st) (defBody st) (defScope st) [] [] f fd ∧ FnOk P w K mg base CX0 k f fd ps sp
def PromAN (P : Program) (w : World) (K : PySem.W.Frag) (mg : Str → Option Value) (base : Heap) (k : Nat) (f : Addr) (ps : List Str) (sp : Sp) (n : Nat) (ks : List Str) (gV : List V → List V → List V) : Prop :=
  ∃ fd g, FnOk P w K mg base CX0 k f fd ps sp ∧ KBn K fd ps n ks g gV
section
variable {P : Program} {w : World} {K : PySem.W.Frag} {mg : Str → Option Value} {base : Heap} {N ps ks : List Str} {k n : Nat} {sp : Sp} {m qual : Str} {st : Stmt} {f : Addr}
theorem methA_mk (D : DefM K f m qual st) (S : FnScope N ps (defScope st)) (len : ∀ vs H Q E, sp vs H Q E → vs.length = ps.length)
    (body : ∀ (cdv : Value) (A : Around) (outer : List Env) (s : Shared) (H : Hp) (vs : List V) (Q : VK) (E : XK), Room k (A.deeper (envOfC qual (defScope st) s.heap.objs.size f cdv)) → sp vs H Q E →
      ∃ t, PSs (cxOf CX0 P w K mg base N qual (defScope st) f cdv A outer s H E).nox (defBody st) t ∧ t { nx := fun _ G => Q .non G, rt := Q } (start N vs) H) : MethA P w K mg base (k + 1) f m qual st ps sp := by
  obtain ⟨fd, F⟩ := D
  refine ⟨fd, F, F.ok S len fun cdv A outer s H vs Q E hr h => ?_⟩
  obtain ⟨t, h1, h2⟩ := body cdv A outer s H vs Q E hr h
  exact ⟨t, h1.nox, h2⟩
theorem MethA.pos (h : MethA P w K mg base k f m qual st ps sp)
    (hb : ∀ (kV doc pm : Value) (an : Option Addr) (cdv ct : Value) (us : List Value), us.length = ps.length → bindArgs (PySem.W.fnOf m qual (defArgs st) (defBody st) (defScope st) .none kV doc pm an cdv ct) ⟨us, []⟩ = pure (ps.zip us)) : PromA CX0 P w K mg base k f ps sp := by
  obtain ⟨fd, F, o⟩ := h
  exact ⟨fd, o, F.bindsN hb⟩
theorem MethA.names (h : MethA P w K mg base k f m qual st ps sp) (n : Nat) (ks : List Str) (g : {α : Type} → List α → List α → List α) (hrel : ∀ {vs zs : List V} {us ws : List Value}, Vals vs us → Vals zs ws → Vals (g vs zs) (g us ws))
    (hb : ∀ (kV doc pm : Value) (an : Option Addr) (cdv ct : Value) (us ws : List Value), us.length = n → ws.length = ks.length → bindArgs (PySem.W.fnOf m qual (defArgs st) (defBody st) (defScope st) .none kV doc pm an cdv ct) ⟨us, ks.zip ws⟩ = pure (ps.zip (g us ws))) :
    PromAN P w K mg base k f ps sp n ks (fun vs zs => g vs zs) := by
  obtain ⟨fd, F, o⟩ := h
  refine ⟨fd, fun us ws => g us ws, o, ?_, fun r1 r2 => hrel r1 r2⟩
  obtain ⟨oc, od, dV, kV, doc, pm, an, cdv, ct, osl, rfl, lk, hcd, hD, hK⟩ := F.ex
  rcases hD with ⟨_, rfl⟩ | ⟨e, _⟩
  · exact fun s us ws X l1 l2 => BindsTo.of_looks fun M => by rw [hb kV doc pm an cdv ct us ws l1 l2]; exact .now
  · exact absurd rfl e
end
def tExVN (C : Addr) (sp : Sp) (gV : List V → List V → List V) (tk : TA) : TE := fun σ H Q => tk σ H fun zs H1 => zs.length = 1 ∧ ∀ a, H1 a = none → sp (gV [.ref a] zs) (upd H1 a (exo a C none)) (fun v H2 => v = .non ∧ Q (.ref a) H2) E0
section
variable {X : Cx} {k : Nat} {C : Addr} {B nw ini : String} {tl : List Value} {f kx x : Str} {ps : List Str} {sp : Sp} {p pos : Pos} {kws : List Keyword} {tk : TA} {gV : List V → List V → List V}
theorem make_exN {fd : FuncData} {g : List Value → List Value → List Value} {pins : List (Addr × Obj)} {σ : L2.St} {H : Hp} {s : Shared} {y : V} {u : Value} (Fb : Bas B nw ini tl) (T : OwnT X.K C f nw tl)
    (Fn : FnOk X.prog X.w X.K X.mg X.base CX0 k (He.ma X.K C "__init__") fd ps sp) (hr : Room (k + 1) X.A) (hb : KBn X.K fd ps 1 [kx] g gV) (J : Inv X pins σ H s) (ry : RelV y u) (R : VK)
    (q : ∀ a, H a = none → sp (gV [.ref a] [y]) (upd H a (exo a C none)) (fun v H2 => v = .non ∧ R (.ref a) H2) E0) :
    wpAny (model X.prog X.w) X.A (call (.ref C) [] [(kx, u)]) (EP X pins σ R) X.xe s := by
  obtain ⟨nm, qn, N, bs, bm, sn, sub, ab, col, dd, k0, k1, k2, k3, k5, kc, rf⟩ := T.ox.cls
  obtain ⟨hh, gg, dr, tn, os⟩ := s
  have new : hh.objs.size ≤ hh.objs.size + 1 := Nat.le_succ _
  have fr : H (hh.objs.size + 1) = none := J.hok.fresh new
  have hq := q (hh.objs.size + 1) fr
  have kk : ∀ b o, hh.get? b = some o → ((hh.push (PySem.W.kdv_tup [])).push (PySem.HandSPX.excO C hh.objs.size)).get? b = some o := fun b o z => Heap.get?_push_of_some _ (Heap.get?_push_of_some _ z)
  have got : ((hh.push (PySem.W.kdv_tup [])).push (PySem.HandSPX.excO C hh.objs.size)).get? (hh.objs.size + 1) = some (PySem.HandSPX.excO C hh.objs.size) := by heap_get
  have J2 : Inv X pins σ (upd H (hh.objs.size + 1) (exo (hh.objs.size + 1) C none)) ⟨(hh.push (PySem.W.kdv_tup [])).push (PySem.HandSPX.excO C hh.objs.size), gg, dr, tn, os⟩ :=
    J.laid (t' := tn) (a := hh.objs.size + 1) (o := exo (hh.objs.size + 1) C none) (h' := (hh.push (PySem.W.kdv_tup [])).push (PySem.HandSPX.excO C hh.objs.size)) kk new (exo_ok got)
  have r1 : Vals [V.ref (hh.objs.size + 1)] [Value.ref (hh.objs.size + 1)] := .cons rfl .nil
  have rz : Vals [y] [u] := .cons ry .nil
  obtain ⟨L, iniL, tlL, Fx, hasL⟩ := Fb.by_
  refine wpAny_call (call_ownN Fx ((refsT_has _ _ rf).trans hasL) ((refsT_has _ _ rf).trans Fb.noA) ((refsT_has _ _ rf).trans Fb.noN) (J.kIn _ _ kc) (PySem.W.looks_findIn J.kIn T.ini) (fun self => PySem.W.bind_fn J.kIn self T.fn)
    (codeAny_mono (Fn.run _ X.stack _ _ ⟨[Value.ref (hh.objs.size + 1)], [(kx, u)]⟩ (g [Value.ref (hh.objs.size + 1)] [u]) _ _ E0 (hr.make C [] [(kx, u)]) (J2.env0.make C [] [(kx, u)]) (hb.to _ [Value.ref (hh.objs.size + 1)] [u] J2.kIn rfl rfl) (hb.rel r1 rz) hq) fun o t z => ?_))
  match o, z with
  | .error er, z => exact pass0 pins σ _ _ er t J2 z
  | .ok (.ret u), z =>
    obtain ⟨v, G, J3, rv, ev, q2⟩ := J2.after z
    subst ev
    exact ⟨rv, ⟨V.ref (hh.objs.size + 1), G, J3, rfl, q2⟩⟩
theorem pe_exVN (Fb : Bas B nw ini tl) (T : OwnT X.K C f nw tl) (pr : PromAN X.prog X.w X.K X.mg X.base k (He.ma X.K C "__init__") ps sp 1 [kx] gV) (hr : Room (k + 1) X.A) (hg : Gl X x) (hm : X.mg x = some (.ref C)) (hkw : PK X kws tk)
    (hall : (backToKw pos (keywordEach kws X.env)).all (·.1.isSome) = true := by rfl) (hks : (backToKw pos (keywordEach kws X.env)).filterMap (·.1) = [kx] := by rfl) (hdb : (x == ("__debug__" : Str)) = false := by decide)
    (hpl : ((backTo pos (starEach [] X.env)).any (·.1) || (backToKw pos (keywordEach kws X.env)).any (·.1.isNone)) = false := by rfl) :
    PE X (.Call (.Name x p) [] kws pos) (tExVN C sp gV tk) := by
  obtain ⟨fd, g, Fn, b⟩ := pr
  refine ⟨fun pins s σ H Q J h => wpAny_Call_Name_kw (ld_glob J hg hm ?_ hdb)⟩
  refine PySem.W.callWith_KW0 (h₀ := X.base) J.ok.mod.kin T.ox.kC hall ?_ hpl
  refine thn (hkw.run pos pins s σ H _ J h) fun ws s2 ⟨zs, H2, J2, rz, l2, q2⟩ => ⟨J2.kIn, ?_⟩
  rw [hks]
  match zs, ws, rz, l2 with
  | [y], _, .cons ry .nil, _ => exact make_exN Fb T Fn hr b J2 ry Q q2
end
end TS

set_option maxHeartbeats 2000000
/-! ### 63. exceptions of classes without an __init__ of their own; fields and kinds of exceptions that are held -/
namespace TS
open PySem PySem.Spec PyProof.Rows L2
theorem bas_Look : Bas "LookupError" "LookupError.__new__" "LookupError.__init__" lookT where
  by_ := ⟨_, _, _, F.excBase_LookupError, by decide +kernel⟩
  slot := by
    refine .of (owner := "LookupError") (n := "__init__") ?_ ?_ ?_ ?_ ?_ ?_
    · rw [typeLookup_type, builtinLookup_eq_fast]; kernel_rfl
    · decide +kernel
    · decide +kernel
    · decide +kernel
    · first | exact .inl (by decide +kernel) | exact .inr (by decide +kernel)
    · rw [isSubtype_type]; kernel_rfl
  entry := by
    refine entryFor_alias (id' := "BaseException.__init__") ?_ ?_ ?_ ?_
    · rw [fastTable_eq_tree]; kernel_rfl
    · first | rfl | decide +kernel
    · decide +kernel
    · rw [fastTable_eq_tree]; kernel_rfl
  split := by kernel_rfl
  kind := by kernel_rfl
  row := by kernel_rfl
  star := by decide +kernel
  hasB := by decide +kernel
  noA := by decide +kernel
  noN := by decide +kernel
  pass := fun _ => by kernel_rfl
  ob := by decide +kernel
  no := by decide +kernel
  handed := by decide +kernel
section
variable {prog : Program} {w : World} {A : Around} {E : Value → Shared → Prop} {R : Result → Shared → Prop} {hh : Heap} {gg : Array GenState} {dr : Drawn} {tn : Nat} {os : OsState}
variable {nm q : Str} {C N : Addr} {bs bm tlL : List Value} {hdct : Bool} {sn : List Str} {sub : List Value} {ab : Bool} {col : Option Bool} {dd : Option Addr} {k0 k1 k2 k3 k5 : Option Value} {L nw iniL : String}
open HandSPX in
theorem type_callV (Fx : ExcBaseFacts L nw iniL tlL) (has : bm.contains (.type L) = true) (noA : bm.contains (.type "AttributeError") = false) (noN : bm.contains (.type "NameError") = false) {rest : List Value} {fv : Value} {Q : Fin → Shared → Prop}
    (ec : hh.get? C = some (excClassObj nm q C N bs bm hdct sn sub ab col dd k0 k1 k2 k3 k5 nw))
    (li : PySem.W.Looks (model prog w) hh (typeLookup (.ref C) "__init__") (some fv)) (lb : ∀ self, PySem.W.Looks (model prog w) hh (bindSpecial fv self) (fv, [self])) (few : rest.length ≤ sizeLine)
    (k : codeAny (model prog w) A (.call fv ⟨.ref (hh.objs.size + 1) :: rest, []⟩)
      (fun r s' => match r with | .ok (.ret v) => v = .none ∧ Q (.done (.ret (.ref (hh.objs.size + 1)))) s' | .ok _ => False | .error e => E e s')
      ⟨(hh.push (PySem.W.kdv_tup rest)).push (excO C hh.objs.size), gg, dr, tn, os⟩) :
    wpAny (model prog w) A (Builtin.«type.__call__» ⟨.ref C :: rest, []⟩) Q E ⟨hh, gg, dr, tn, os⟩ := by
  repeat (first | with_reducible refine wpAny_loadPart_at ec ?_ | with_reducible refine wpAny_madeBy_exc ec ?_ | wp_step)
  refine codeAny_call_builtin_code (Code.quiet_builtin _ Fx.quiet) (check_newT Fx has ec ?_)
  refine newT Fx has noA noN ec ?_ few
  show wpAny _ _ _ _ _ _
  have kk : ∀ b o, hh.get? b = some o → ((hh.push (PySem.W.kdv_tup rest)).push (excO C hh.objs.size)).get? b = some o := fun b o z => Heap.get?_push_of_some _ (Heap.get?_push_of_some _ z)
  have ec' := kk _ _ ec
  have got : ((hh.push (PySem.W.kdv_tup rest)).push (excO C hh.objs.size)).get? (hh.objs.size + 1) = some (excO C hh.objs.size) := by heap_get
  have own : (Value.ref C :: bm).contains (.ref C) = true := by simp
  have li' := li.keeps kk
  have lb' := (lb (.ref (hh.objs.size + 1))).keeps kk
  unfold isInstance
  repeat (first | with_reducible refine wpAny_loadPart_at got ?_ | (with_reducible refine wpAny_isSubtype_exc ec' ?_; rw [own]) | wp_step)
  show wpAny _ _ (typeLookup (.ref C) _) _ _ _
  refine li'.at ?_
  refine wpAny_holding (wpAny_bind (lb'.at ?_))
  refine wpAny_bind (wpAny_call (codeAny_mono k fun r s' z => ?_))
  rcases r with e | (v | _ | _ | _) <;> first | exact z | exact z.elim | skip
  obtain ⟨rfl, z⟩ := z
  first
    | exact wpAny_pure (wpAny_pure z)
    | (wp_walk; exact z)
open HandSPX in
theorem call_ownV (Fx : ExcBaseFacts L nw iniL tlL) (has : bm.contains (.type L) = true) (noA : bm.contains (.type "AttributeError") = false) (noN : bm.contains (.type "NameError") = false) {rest : List Value} {fv : Value}
    (ec : hh.get? C = some (excClassObj nm q C N bs bm hdct sn sub ab col dd k0 k1 k2 k3 k5 nw))
    (li : PySem.W.Looks (model prog w) hh (typeLookup (.ref C) "__init__") (some fv)) (lb : ∀ self, PySem.W.Looks (model prog w) hh (bindSpecial fv self) (fv, [self])) (few : rest.length ≤ sizeLine)
    (k : codeAny (model prog w) (A.under (.builtin "type.__call__" ⟨.ref C :: rest, []⟩)) (.call fv ⟨.ref (hh.objs.size + 1) :: rest, []⟩) (PySem.W.InitBack (hh.objs.size + 1) R)
      ⟨(hh.push (PySem.W.kdv_tup rest)).push (excO C hh.objs.size), gg, dr, tn, os⟩) :
    codeAny (model prog w) A (.call (.ref C) ⟨rest, []⟩) R ⟨hh, gg, dr, tn, os⟩ := by
  have f1 := tc_lookup
  have f2 := tc_bind (.ref C)
  have isT : (⟨hh, gg, dr, tn, os⟩ : Shared).TypeIs (.ref C) "type" := ⟨_, ec, rfl⟩
  refine codeAny_of_tree ?_
  show wpAny _ _ (callAny (.ref C) _) _ _ _
  repeat (any_goals (first | assumption | with_reducible refine wpAny_loadPart_at ec ?_ | wp_step))
  refine ⟨rfl, ?_⟩
  refine codeAny_call_builtin_at (Code.quiet_builtin _ (by decide +kernel)) entry_typeCall (wpAny_check_type_call_sub ec (type_callV Fx has noA noN ec li lb few ?_))
  refine codeAny_mono k fun r s' z => ?_
  rcases r with e | (v | _ | _ | _) <;> exact z
end
section
variable {X : Cx} {B nw ini : String} {tl : List Value} {C : Addr} {x : Str} {p pos : Pos} {e : Expr} {es : List Expr} {ta : TA}
theorem make_fam {pins : List (Addr × Obj)} {σ : L2.St} {H : Hp} {hh : Heap} {gg : Array GenState} {dr : Drawn} {tn : Nat} {os : OsState} {us : List Value} {Rr : Value → Shared → Prop} (Fb : Bas B nw ini tl) (T : OexT X.K C nw tl)
    (hi : PySem.W.findIn X.K (.ref C) "__init__" = some (some (.builtin ini))) (J : Inv X pins σ H ⟨hh, gg, dr, tn, os⟩) (hl : us.length ≤ sizeLine)
    (fin : ∀ (a t1 : Addr) (h' : Heap), hh.objs.size ≤ a → (∀ b o, hh.get? b = some o → h'.get? b = some o) → h'.get? a = some (PySem.HandSPX.excO C t1) → Rr (.ref a) ⟨h', gg, dr, tn, os⟩) :
    wpAny (model X.prog X.w) X.A (call (.ref C) us) Rr X.xe ⟨hh, gg, dr, tn, os⟩ := by
  obtain ⟨nm, qn, N, bs, bm, sn, sub, ab, col, dd, k0, k1, k2, k3, k5, kc, rf⟩ := T.cls
  obtain ⟨L, iniL, tlL, Fx, hasL⟩ := Fb.by_
  have kk : ∀ b o, hh.get? b = some o → ((hh.push (PySem.W.kdv_tup us)).push (PySem.HandSPX.excO C hh.objs.size)).get? b = some o := fun b o z => Heap.get?_push_of_some _ (Heap.get?_push_of_some _ z)
  have got : ((hh.push (PySem.W.kdv_tup us)).push (PySem.HandSPX.excO C hh.objs.size)).get? (hh.objs.size + 1) = some (PySem.HandSPX.excO C hh.objs.size) := by heap_get
  have kC := J.kIn _ _ kc
  refine wpAny_call (call_ownV Fx ((refsT_has _ _ rf).trans hasL) ((refsT_has _ _ rf).trans Fb.noA) ((refsT_has _ _ rf).trans Fb.noN) kC (PySem.W.looks_findIn J.kIn hi) (fun self => by rw [Fb.slot.bind self]; exact .now) hl ?_)
  refine init_baseT Fb ((refsT_has _ _ rf).trans Fb.hasB) (kk _ _ kC) got hl fun h' t1 kp xd => ?_
  exact ⟨rfl, fin (hh.objs.size + 1) t1 h' (Nat.le_succ _) (fun b o z => kp b o (Nat.ne_of_lt (Nat.lt_of_lt_of_le (Heap.lt_size z) (Nat.le_succ _))) (kk b o z)) xd⟩
def tFamV (C : Addr) (ta : TA) : TE := fun σ H Q => ta σ H fun vs H1 => vs.length ≤ 1000 ∧ ∀ a, H1 a = none → Q (.ref a) (upd H1 a (exo a C none))
/-- C(e, ..) as a value, C without an __init__ of its own -/
theorem pe_famV (Fb : Bas B nw ini tl) (T : OexT X.K C nw tl) (hi : PySem.W.findIn X.K (.ref C) "__init__" = some (some (.builtin ini))) (hg : Gl X x) (hm : X.mg x = some (.ref C)) (ha : PA X (e :: es) ta)
    (hdb : (x == ("__debug__" : Str)) = false := by decide) (he : starEach (e :: es) X.env = (false, eval e X.env) :: starEach es X.env := by rfl) (hpl : (backTo pos (starEach es X.env)).any (·.1) = false := by rfl) :
    PE X (.Call (.Name x p) (e :: es) [] pos) (tFamV C ta) := by
  refine ⟨fun pins s σ H Q J h => wpAny_Call_Name_kw (ld_glob J hg hm ?_ hdb)⟩
  refine PySem.W.callWith_K (h₀ := X.base) J.ok.mod.kin T.kC (thn (ha.run pos pins s σ H _ J h) fun us t ⟨vs, H1, J1, r, hl, q⟩ => ⟨J1.kIn, ?_⟩) he hpl
  obtain ⟨hh, gg, dr, tn, os⟩ := t
  refine make_fam Fb T hi J1 (by show us.length ≤ _; rw [← Paired.length r, sizeLine_eq]; omega) fun a t1 h' new kk xd => ?_
  exact ⟨.ref a, _, J1.laid (t' := tn) (a := a) (o := exo a C none) (h' := h') kk new (exo_ok xd), rfl, q a (J1.hok.fresh new)⟩
/-- the same, made to be raised -/
theorem pmk_fam (Fb : Bas B nw ini tl) (T : OexT X.K C nw tl) (hi : PySem.W.findIn X.K (.ref C) "__init__" = some (some (.builtin ini))) (hg : Gl X x) (hm : X.mg x = some (.ref C)) (ha : PA X (e :: es) ta)
    (hdb : (x == ("__debug__" : Str)) = false := by decide) (he : starEach (e :: es) X.env = (false, eval e X.env) :: starEach es X.env := by rfl) (hpl : (backTo pos (starEach es X.env)).any (·.1) = false := by rfl) :
    PMk X (.Call (.Name x p) (e :: es) [] pos) (fun σ H Q => ta σ H fun vs H1 => vs.length ≤ 1000 ∧ Q (.ref C) none H1) := by
  intro pins s σ H Q J h
  refine wpAny_Call_Name_kw (ld_glob J hg hm ?_ hdb)
  refine PySem.W.callWith_K (h₀ := X.base) J.ok.mod.kin T.kC (thn (ha.run pos pins s σ H _ J h) fun us t ⟨vs, H1, J1, r, hl, q⟩ => ⟨J1.kIn, ?_⟩) he hpl
  obtain ⟨hh, gg, dr, tn, os⟩ := t
  refine make_fam Fb T hi J1 (by show us.length ≤ _; rw [← Paired.length r, sizeLine_eq]; omega) fun a t1 h' new kk xd => ?_
  refine ⟨a, _, _, ⟨hh, gg, dr, tn, os⟩, H1, .ref C, none, rfl, J1, kk, ?_, xd, ⟨rfl, rfl⟩, rfl, rfl, J1.hok.fresh new, rfl, J1.bare, raises_own T.exC T.tyC, q⟩
  cases z : hh.get? a with
  | none => rfl
  | some o => exact absurd (Heap.lt_size z) (Nat.not_lt.mpr new)
end
def spIni0 (C : Addr) : Sp := fun vs H Q _ => ∃ a, vs = [.ref a] ∧ H a = some (exo a C none) ∧ Q .non H
/-- C(), C an own class of exceptions with an own __init__ -/
def tExV0 (C : Addr) (sp : Sp) : TE := fun _ H Q => ∀ a, H a = none → sp [.ref a] (upd H a (exo a C none)) (fun v H2 => v = .non ∧ Q (.ref a) H2) E0
theorem pe_exV0 {X : Cx} {B nw ini : String} {tl : List Value} {C : Addr} {f x : Str} {k : Nat} {ps : List Str} {sp : Sp} {p pos : Pos} (Fb : Bas B nw ini tl) (T : OwnT X.K C f nw tl) (pr : PromA CX0 X.prog X.w X.K X.mg X.base k (He.ma X.K C "__init__") ps sp) (hr : Room (k + 1) X.A) (hg : Gl X x) (hm : X.mg x = some (.ref C))
    (hdb : (x == ("__debug__" : Str)) = false := by decide) : PE X (.Call (.Name x p) [] [] pos) (tExV0 C sp) := by
  obtain ⟨fd, Fn, b⟩ := pr
  refine ⟨fun pins s σ H Q J h => wpAny_Call_Name_kw (ld_glob J hg hm ?_ hdb)⟩
  exact PySem.W.callWith_K0 J.kIn T.ox.kC (make_exT Fb T Fn hr b J .nil (by simp) Q (fun a ha => h a ha) fun a G hp2 t2 _ _ _ _ _ _ J2 q2 => ⟨.ref a, G, J2, rfl, q2⟩)
/-! exceptions that are held -/
def tXfH (K : PySem.W.Frag) (f : Str) (te : TE) : TE := fun σ H Q => te σ H fun x H1 => ∃ (a C d : Addr) (fs : List (Str × V)) (v : V), x = .ref a ∧ H1 a = some (exo a C (some d)) ∧ H1 d = some (exd d fs) ∧ XfC K C ∧ PySem.W.findIn K (.ref C) f = some none ∧ fs.lookup f = some v ∧ Q v H1
theorem pe_xfH {X : Cx} {K : PySem.W.Frag} {e : Expr} {te : TE} {pos : Pos} {n : Str} (he : PE X e te) (hK : X.K = K := by rfl) (hb : attributeBase e n X.env (eval e X.env) = eval e X.env := by rfl) : PE X (.Attribute e n pos) (tXfH K n te) := by
  subst hK
  refine ⟨fun pins s σ H Q I h => ?_⟩
  refine attr_of hb (thn (he.run pins s σ H _ I h) fun u s1 ⟨x, H1, I1, rx, a, C, d, fs, v, ex, ea, ed, T, no, l, q⟩ => ?_)
  subst ex
  obtain rfl : u = Value.ref a := rx
  obtain ⟨t1, ha⟩ := exo_at I1.hok ea
  obtain ⟨mA, hns, hr⟩ := exd_at I1.hok ed
  obtain ⟨od, ho, hl⟩ := lookIn_ns hns
  obtain ⟨u, hu, ru⟩ := RelO.some_of (v := v) (o := mA n) (by rw [← l]; exact hr n)
  have J : PySem.W.InstAt s1.heap a _ C (some od) := ⟨ha, rfl, rfl, ho⟩
  exact HandSPX.exc_get I1.kIn J T.ga T.gg T.exC (PySem.W.findObj_own T.hdC no rfl (by rw [hl, hu])) (handed_of ru) ⟨v, H1, I1.tok _, ru, q⟩
/-- an exception of the class at C that is held, with a dict or without -/
def Hld (H : Hp) (a C : Addr) : Prop := (∃ d fs, H a = some (exo a C (some d)) ∧ H d = some (exd d fs)) ∨ H a = some (exo a C none)
theorem Hld.same {H G : Hp} {a C : Addr} (s : Same H G) (h : Hld H a C) : Hld G a C := by
  rcases h with ⟨d, fs, h1, h2⟩ | h
  · exact .inl ⟨d, fs, s _ _ h1, s _ _ h2⟩
  · exact .inr (s _ _ h)
def rIsH (K : PySem.W.Frag) : List V → Hp → VK → Prop := fun xs H Q => ∃ (a C : Addr) (c : V) (cv : Value) (r : Bool), xs = [.ref a, c] ∧ Hld H a C ∧ exI K C = true ∧ (∀ u, RelV c u → u = cv) ∧ PySem.W.kitOne K (.ref C) cv = some r ∧ Q (.bl r) H
theorem call_isH {X : Cx} {K : PySem.W.Frag} (hK : X.K = K := by rfl) : CallR X (.builtin "isinstance") (rIsH K) := by
  subst hK
  intro pins s σ H xs us Q I r h
  obtain ⟨a, D, c, cv, b, rfl, he, hi, hcv, e, q⟩ := h
  cases r with
  | cons rx rr =>
    cases rr with
    | cons rt rr =>
      cases rr
      cases rx
      have ec := hcv _ rt
      subst ec
      simp only [exI, Bool.and_eq_true, beq_iff_eq] at hi
      obtain ⟨i1, i2, i3, i4, i5, i6, i7, i8⟩ := hi
      rcases he with ⟨d, fs, h1, h2⟩ | h1
      · obtain ⟨t1, hget⟩ := exo_at I.hok h1
        obtain ⟨mA, ⟨od, es, ep, hod, _⟩, _⟩ := exd_at I.hok h2
        have J : PySem.W.InstAt s.heap a _ D (some od) := ⟨hget, rfl, rfl, hod⟩
        exact PySem.W.kia_one (PySem.W.kitx_exc i1 i2 i3 i4 i5 i6 i7 i8) I.kIn J e (fun z => nomatch z) fun tk => ⟨.bl b, H, I.kept (t' := tk) fun _ _ z => z, rfl, q⟩
      · obtain ⟨t1, hget⟩ := exo_at I.hok h1
        have J : PySem.W.InstAt s.heap a _ D none := ⟨hget, rfl, rfl, trivial⟩
        exact PySem.W.kia_one (PySem.W.kitx_exc i1 i2 i3 i4 i5 i6 i7 i8) I.kIn J e (fun z => nomatch z) fun tk => ⟨.bl b, H, I.kept (t' := tk) fun _ _ z => z, rfl, q⟩
end TS

/-! ### 64. the 34 refusals and their three families, by their places -/
namespace TS
open PySem PySem.Spec PyProof.Rows L2
/-- is the i-th one of the j-th's kind? -/
def isE (i j : Nat) : Bool := decide (i = j) || ((decide (j = 34) && decide (i < 29)) || ((decide (j = 35) && (decide (29 ≤ i) && decide (i < 31))) || (decide (j = 36) && (decide (31 ≤ i) && decide (i < 34)))))
structure Ks (K : PySem.W.Frag) : Prop where
  ex : ∀ i, i < 37 → exI K (cE K i) = true
  kk : ∀ i, i < 37 → ∀ j, j < 37 → PySem.W.kitOne K (.ref (cE K i)) (.ref (cE K j)) = some (isE i j)
  kv : ∀ i, i < 37 → PySem.W.kitOne K (.ref (cE K i)) (.type "ValueError") = some (isE i 34)
  ky : ∀ i, i < 37 → PySem.W.kitOne K (.ref (cE K i)) (.type "KeyError") = some (isE i 35)
  kl : ∀ i, i < 37 → PySem.W.kitOne K (.ref (cE K i)) (.type "LookupError") = some (isE i 35 || isE i 36)
theorem tyE {K : PySem.W.Frag} : ∀ i, i < 37 → (mroE K i).contains (.type "ValueError") = isE i 34 ∧ (mroE K i).contains (.type "KeyError") = isE i 35 ∧ (mroE K i).contains (.type "LookupError") = (isE i 35 || isE i 36) := by
  intro i hi
  have r : ∀ (a : Addr) (T : String), ((Value.type T) == (Value.ref a)) = false := fun a T => rfl
  have key : i < 29 ∨ i = 29 ∨ i = 30 ∨ i = 31 ∨ i = 32 ∨ i = 33 ∨ i = 34 ∨ i = 35 ∨ i = 36 := by omega
  rcases key with h | rfl | rfl | rfl | rfl | rfl | rfl | rfl | rfl
  · have e : isE i 34 = true ∧ isE i 35 = false ∧ (isE i 35 || isE i 36) = false := (by decide : ∀ i, i < 29 → isE i 34 = true ∧ isE i 35 = false ∧ (isE i 35 || isE i 36) = false) i h
    unfold mroE
    rw [if_pos h, e.2.2, e.1, e.2.1]
    refine ⟨?_, ?_, ?_⟩ <;> simp [List.contains_cons, r] <;> decide
  all_goals (refine ⟨?_, ?_, ?_⟩ <;> simp [mroE, isE, List.contains_cons, r] <;> decide)
theorem ksB_ok {K : PySem.W.Frag} (h : ksB K = true) : Ks K := by
  obtain ⟨h1, h2⟩ := He.ba h
  have lt : ∀ i j, i < 37 → j < i → cE K i ≠ cE K j := fun i j hi hj e => by
    have := List.all_eq_true.mp (List.all_eq_true.mp h2 i (List.mem_range.mpr hi)) j (List.mem_range.mpr hj)
    rw [e, Nat.beq_refl] at this
    cases this
  have inj : ∀ i j, i < 37 → j < 37 → (cE K i = cE K j ↔ i = j) := fun i j hi hj => ⟨fun e => by
    rcases Nat.lt_trichotomy i j with h | h | h
    · exact absurd e.symm (lt j i hj h)
    · exact h
    · exact absurd e (lt i j hi h), fun e => by rw [e]⟩
  have g : ∀ i, i < 37 → exI K (cE K i) = true ∧ PySem.W.typeIn K (.ref (cE K i)) = some (.type "type") ∧ ∃ cd, PySem.W.clsIn K (cE K i) = some cd ∧ cd.mro = mroE K i := fun i hi => by
    obtain ⟨a1, a2⟩ := He.ba (show (exI K (cE K i) && _) = true from List.all_eq_true.mp h1 i (List.mem_range.mpr hi))
    obtain ⟨a3, a4⟩ := He.ba a2
    refine ⟨a1, of_decide_eq_true a3, ?_⟩
    cases e : PySem.W.clsIn K (cE K i) with
    | none => rw [e] at a4; cases a4
    | some cd => rw [e] at a4; exact ⟨cd, rfl, of_decide_eq_true a4⟩
  have ne : ∀ i, (mroE K i).isEmpty = false := fun i => by
    unfold mroE
    split
    · rfl
    · split
      · rfl
      · split
        · rfl
        · split
          · rfl
          · split <;> rfl
  have sub : ∀ i, i < 37 → ∀ v : Value, PySem.W.subIn K (.ref (cE K i)) v = some ((mroE K i).contains v) := fun i hi v => by
    obtain ⟨_, _, cd, e1, e2⟩ := g i hi
    show PySem.W.mroIn K (cE K i) v = _
    unfold PySem.W.mroIn
    rw [e1]
    show (if cd.mro.isEmpty = true then none else some (cd.mro.contains v)) = _
    rw [e2, ne i, if_neg Bool.false_ne_true]
  have refs : ∀ i j, i < 37 → j < 37 → (mroE K i).contains (.ref (cE K j)) = isE i j := fun i j hi hj => by
    have b1 : ∀ k, k < 37 → ((Value.ref (cE K j)) == (Value.ref (cE K k))) = decide (k = j) := fun k hk => by
      by_cases c : k = j
      · subst c; simp
      · rw [decide_eq_false c]
        have n : cE K j ≠ cE K k := fun e => c ((inj j k hj hk).mp e).symm
        simpa using n
    have t : ∀ T : String, ((Value.ref (cE K j)) == (Value.type T)) = false := fun T => rfl
    unfold mroE isE
    split
    · rename_i h
      simp only [List.contains_cons, List.contains_nil, b1 i hi, b1 34 (by decide), t, Bool.or_false, decide_eq_true h, Bool.and_true]
      have e5 : decide (29 ≤ i) = false := decide_eq_false (by omega)
      have e6 : decide (31 ≤ i) = false := decide_eq_false (by omega)
      simp only [e5, e6, Bool.false_and, Bool.and_false, Bool.or_false]
      have : decide (34 = j) = decide (j = 34) := by by_cases c : j = 34 <;> simp [c, eq_comm]
      rw [this]
    · rename_i h
      have e1 : decide (i < 29) = false := decide_eq_false h
      split
      · rename_i h2
        have e2 : decide (29 ≤ i) = true := decide_eq_true (by omega)
        have e6 : decide (31 ≤ i) = false := decide_eq_false (by omega)
        simp only [List.contains_cons, List.contains_nil, b1 i hi, b1 35 (by decide), t, Bool.or_false, e1, e2, e6, decide_eq_true h2, Bool.and_true, Bool.and_false, Bool.false_and, Bool.false_or]
        have : decide (35 = j) = decide (j = 35) := by by_cases c : j = 35 <;> simp [c, eq_comm]
        rw [this]
      · rename_i h2
        have e2 : decide (i < 31) = false := decide_eq_false h2
        split
        · rename_i h3
          have e3 : decide (31 ≤ i) = true := decide_eq_true (by omega)
          simp only [List.contains_cons, List.contains_nil, b1 i hi, b1 36 (by decide), t, Bool.or_false, e1, e2, e3, decide_eq_true h3, Bool.and_true, Bool.and_false, Bool.false_or]
          have : decide (36 = j) = decide (j = 36) := by by_cases c : j = 36 <;> simp [c, eq_comm]
          rw [this]
        · rename_i h3
          have e3 : decide (i < 34) = false := decide_eq_false h3
          simp only [e1, e2, e3, Bool.and_false, Bool.or_false]
          have i3 : i = 34 ∨ i = 35 ∨ i = 36 := by omega
          rcases i3 with rfl | rfl | rfl <;> simp [List.contains_cons, b1, t] <;> exact ⟨fun e => ((inj j _ hj hi).mp e).symm, fun e => by rw [e]⟩
  refine ⟨fun i hi => (g i hi).1, fun i hi j hj => ?_, fun i hi => ?_, fun i hi => ?_, fun i hi => ?_⟩
  · unfold PySem.W.kitOne
    by_cases c : i = j
    · subst c
      rw [if_pos (by simp)]
      have : isE i i = true := by unfold isE; simp
      rw [this]
    · have n : ¬ ((Value.ref (cE K i) == Value.ref (cE K j)) = true) := by simpa using fun e => c ((inj i j hi hj).mp e)
      rw [if_neg n]
      obtain ⟨_, t2, cd, e1, _⟩ := g j hj
      show (if ((PySem.W.clsIn K (cE K j)).isSome && PySem.W.typeIn K (.ref (cE K j)) == some (.type "type")) = true then _ else none) = _
      rw [e1, t2, if_pos (by simp), sub i hi, refs i j hi hj]
  · show (if (Value.ref (cE K i) == Value.type "ValueError") = true then some true else if PySem.W.kitMeta "ValueError" = true then PySem.W.subIn K (.ref (cE K i)) (.type "ValueError") else none) = _
    rw [if_neg (by simp), if_pos (by decide +kernel), sub i hi]
    exact congrArg some (tyE i hi).1
  · show (if (Value.ref (cE K i) == Value.type "KeyError") = true then some true else if PySem.W.kitMeta "KeyError" = true then PySem.W.subIn K (.ref (cE K i)) (.type "KeyError") else none) = _
    rw [if_neg (by simp), if_pos (by decide +kernel), sub i hi]
    exact congrArg some (tyE i hi).2.1
  · show (if (Value.ref (cE K i) == Value.type "LookupError") = true then some true else if PySem.W.kitMeta "LookupError" = true then PySem.W.subIn K (.ref (cE K i)) (.type "LookupError") else none) = _
    rw [if_neg (by simp), if_pos (by decide +kernel), sub i hi]
    exact congrArg some (tyE i hi).2.2
/-- what the head tells of a family: its classes are made by the built-in ways -/
structure FamE (K : PySem.W.Frag) (C : Addr) (nw ini : String) (tl : List Value) : Prop where
  ox : OexT K C nw tl
  ini : PySem.W.findIn K (.ref C) "__init__" = some (some (.builtin ini))
theorem famEB_ok {K : PySem.W.Frag} {x : Str} {nw ini : String} {tl : List Value} (h : famEB K x nw ini tl = true) : FamE K (He.ga K x) nw ini tl := by
  obtain ⟨h1, h2⟩ := He.ba h
  obtain ⟨a1, h1⟩ := He.ba h1
  obtain ⟨a2, h1⟩ := He.ba h1
  obtain ⟨a3, h1⟩ := He.ba h1
  obtain ⟨a4, a5⟩ := He.ba h1
  exact ⟨⟨oexTB_ok a1, He.eqO_ok a2, of_decide_eq_true a3, of_decide_eq_true a4, a5⟩, He.eqO_ok h2⟩
end TS

namespace TS
open PySem PySem.Spec PyProof.Rows L2 TL
theorem sz5' {n : Nat} (h : n ≤ 100000) : n < sizeLine := Nat.lt_of_le_of_lt h (by decide)
theorem sz5 {n : Nat} (h : n ≤ 100000) : n ≤ sizeLine := Nat.le_trans h (by decide)
theorem iteT' {b : Bool} {A B : Prop} (h : b = true) (a : A) : if b = true then A else B := by rw [h]; exact iteT a
theorem iteF' {b : Bool} {A B : Prop} (h : b = false) (a : B) : if b = true then A else B := by rw [h]; exact iteF a
/-! ### the refusals' promises -/
section
variable {P : Program} {w : World} {K : PySem.W.Frag} {mg : Str → Option Value} {base : Heap}
theorem sc_NoName___init__ : FnScope ["self", "found"] ["self", "found"] (defScope s_NoName___init__) := ⟨rfl, rfl, rfl, by decide +kernel, rfl, by decide +kernel, by decide +kernel⟩

theorem ok_NoName_ini (fam_F : FamT K (He.ga K "TermError") "ValueError.__init__") (g_F : mg "TermError" = some (.ref (He.ga K "TermError"))) (x_X : OwnT K (He.ga K "NoName") "found" "ValueError.__new__" veT) (D : DefM K (He.ma K (He.ga K "NoName") "__init__") "__init__" "NoName.__init__" s_NoName___init__) :
    MethA P w K mg base 1 (He.ma K (He.ga K "NoName") "__init__") "__init__" "NoName.__init__" s_NoName___init__ ["self", "found"] (spIni (He.ga K "NoName") "found") := by
  refine methA_mk D sc_NoName___init__ (fun vs H Q E h => ?_) (fun cdv A outer s H vs Q E hr h => ?_)
  · obtain ⟨a, v, rfl, _⟩ := h
    rfl
  · obtain ⟨a, v, rfl, ha, q⟩ := h
    refine ⟨_, (pss_cons (ps_expr (pe_famInitT bas_VE fam_F rfl g_F (pa_cons (pv 0) (pa_cons pe_str pa_nil))))
      (pss_one (ps_ostT bas_VE (pv 0) (pv 1)))), ?_⟩
    exact ⟨_, rfl, a, _, _, rfl, by decide, x_X.ox, ha, _, rfl, _, rfl, a, _, rfl, x_X.ox, x_X.no, ha, fun dx h1 h2 => q dx h1 h2⟩
theorem sc_NoWords___init__ : FnScope ["self", "found"] ["self", "found"] (defScope s_NoWords___init__) := ⟨rfl, rfl, rfl, by decide +kernel, rfl, by decide +kernel, by decide +kernel⟩

theorem ok_NoWords_ini (fam_F : FamT K (He.ga K "TermError") "ValueError.__init__") (g_F : mg "TermError" = some (.ref (He.ga K "TermError"))) (x_X : OwnT K (He.ga K "NoWords") "found" "ValueError.__new__" veT) (D : DefM K (He.ma K (He.ga K "NoWords") "__init__") "__init__" "NoWords.__init__" s_NoWords___init__) :
    MethA P w K mg base 1 (He.ma K (He.ga K "NoWords") "__init__") "__init__" "NoWords.__init__" s_NoWords___init__ ["self", "found"] (spIni (He.ga K "NoWords") "found") := by
  refine methA_mk D sc_NoWords___init__ (fun vs H Q E h => ?_) (fun cdv A outer s H vs Q E hr h => ?_)
  · obtain ⟨a, v, rfl, _⟩ := h
    rfl
  · obtain ⟨a, v, rfl, ha, q⟩ := h
    refine ⟨_, (pss_cons (ps_expr (pe_famInitT bas_VE fam_F rfl g_F (pa_cons (pv 0) (pa_cons pe_str pa_nil))))
      (pss_one (ps_ostT bas_VE (pv 0) (pv 1)))), ?_⟩
    exact ⟨_, rfl, a, _, _, rfl, by decide, x_X.ox, ha, _, rfl, _, rfl, a, _, rfl, x_X.ox, x_X.no, ha, fun dx h1 h2 => q dx h1 h2⟩
theorem sc_NoSigns___init__ : FnScope ["self", "found"] ["self", "found"] (defScope s_NoSigns___init__) := ⟨rfl, rfl, rfl, by decide +kernel, rfl, by decide +kernel, by decide +kernel⟩

theorem ok_NoSigns_ini (fam_F : FamT K (He.ga K "TermError") "ValueError.__init__") (g_F : mg "TermError" = some (.ref (He.ga K "TermError"))) (x_X : OwnT K (He.ga K "NoSigns") "found" "ValueError.__new__" veT) (D : DefM K (He.ma K (He.ga K "NoSigns") "__init__") "__init__" "NoSigns.__init__" s_NoSigns___init__) :
    MethA P w K mg base 1 (He.ma K (He.ga K "NoSigns") "__init__") "__init__" "NoSigns.__init__" s_NoSigns___init__ ["self", "found"] (spIni (He.ga K "NoSigns") "found") := by
  refine methA_mk D sc_NoSigns___init__ (fun vs H Q E h => ?_) (fun cdv A outer s H vs Q E hr h => ?_)
  · obtain ⟨a, v, rfl, _⟩ := h
    rfl
  · obtain ⟨a, v, rfl, ha, q⟩ := h
    refine ⟨_, (pss_cons (ps_expr (pe_famInitT bas_VE fam_F rfl g_F (pa_cons (pv 0) (pa_cons pe_str pa_nil))))
      (pss_one (ps_ostT bas_VE (pv 0) (pv 1)))), ?_⟩
    exact ⟨_, rfl, a, _, _, rfl, by decide, x_X.ox, ha, _, rfl, _, rfl, a, _, rfl, x_X.ox, x_X.no, ha, fun dx h1 h2 => q dx h1 h2⟩
theorem sc_NoSign___init__ : FnScope ["self", "at"] ["self", "at"] (defScope s_NoSign___init__) := ⟨rfl, rfl, rfl, by decide +kernel, rfl, by decide +kernel, by decide +kernel⟩

theorem ok_NoSign_ini (fam_F : FamT K (He.ga K "TermError") "ValueError.__init__") (g_F : mg "TermError" = some (.ref (He.ga K "TermError"))) (x_X : OwnT K (He.ga K "NoSign") "at" "ValueError.__new__" veT) (D : DefM K (He.ma K (He.ga K "NoSign") "__init__") "__init__" "NoSign.__init__" s_NoSign___init__) :
    MethA P w K mg base 1 (He.ma K (He.ga K "NoSign") "__init__") "__init__" "NoSign.__init__" s_NoSign___init__ ["self", "at"] (spIni (He.ga K "NoSign") "at") := by
  refine methA_mk D sc_NoSign___init__ (fun vs H Q E h => ?_) (fun cdv A outer s H vs Q E hr h => ?_)
  · obtain ⟨a, v, rfl, _⟩ := h
    rfl
  · obtain ⟨a, v, rfl, ha, q⟩ := h
    refine ⟨_, (pss_cons (ps_expr (pe_famInitT bas_VE fam_F rfl g_F (pa_cons (pv 0) (pa_cons pe_str pa_nil))))
      (pss_one (ps_ostT bas_VE (pv 0) (pv 1)))), ?_⟩
    exact ⟨_, rfl, a, _, _, rfl, by decide, x_X.ox, ha, _, rfl, _, rfl, a, _, rfl, x_X.ox, x_X.no, ha, fun dx h1 h2 => q dx h1 h2⟩
theorem sc_NoWord___init__ : FnScope ["self", "found"] ["self", "found"] (defScope s_NoWord___init__) := ⟨rfl, rfl, rfl, by decide +kernel, rfl, by decide +kernel, by decide +kernel⟩

theorem ok_NoWord_ini (fam_F : FamT K (He.ga K "TermError") "ValueError.__init__") (g_F : mg "TermError" = some (.ref (He.ga K "TermError"))) (x_X : OwnT K (He.ga K "NoWord") "found" "ValueError.__new__" veT) (D : DefM K (He.ma K (He.ga K "NoWord") "__init__") "__init__" "NoWord.__init__" s_NoWord___init__) :
    MethA P w K mg base 1 (He.ma K (He.ga K "NoWord") "__init__") "__init__" "NoWord.__init__" s_NoWord___init__ ["self", "found"] (spIni (He.ga K "NoWord") "found") := by
  refine methA_mk D sc_NoWord___init__ (fun vs H Q E h => ?_) (fun cdv A outer s H vs Q E hr h => ?_)
  · obtain ⟨a, v, rfl, _⟩ := h
    rfl
  · obtain ⟨a, v, rfl, ha, q⟩ := h
    refine ⟨_, (pss_cons (ps_expr (pe_famInitT bas_VE fam_F rfl g_F (pa_cons (pv 0) (pa_cons pe_str pa_nil))))
      (pss_one (ps_ostT bas_VE (pv 0) (pv 1)))), ?_⟩
    exact ⟨_, rfl, a, _, _, rfl, by decide, x_X.ox, ha, _, rfl, _, rfl, a, _, rfl, x_X.ox, x_X.no, ha, fun dx h1 h2 => q dx h1 h2⟩
theorem sc_Beyond___init__ : FnScope ["self", "at"] ["self", "at"] (defScope s_Beyond___init__) := ⟨rfl, rfl, rfl, by decide +kernel, rfl, by decide +kernel, by decide +kernel⟩

theorem ok_Beyond_ini (fam_F : FamT K (He.ga K "TermError") "ValueError.__init__") (g_F : mg "TermError" = some (.ref (He.ga K "TermError"))) (x_X : OwnT K (He.ga K "Beyond") "at" "ValueError.__new__" veT) (D : DefM K (He.ma K (He.ga K "Beyond") "__init__") "__init__" "Beyond.__init__" s_Beyond___init__) :
    MethA P w K mg base 1 (He.ma K (He.ga K "Beyond") "__init__") "__init__" "Beyond.__init__" s_Beyond___init__ ["self", "at"] (spIni (He.ga K "Beyond") "at") := by
  refine methA_mk D sc_Beyond___init__ (fun vs H Q E h => ?_) (fun cdv A outer s H vs Q E hr h => ?_)
  · obtain ⟨a, v, rfl, _⟩ := h
    rfl
  · obtain ⟨a, v, rfl, ha, q⟩ := h
    refine ⟨_, (pss_cons (ps_expr (pe_famInitT bas_VE fam_F rfl g_F (pa_cons (pv 0) (pa_cons pe_str pa_nil))))
      (pss_one (ps_ostT bas_VE (pv 0) (pv 1)))), ?_⟩
    exact ⟨_, rfl, a, _, _, rfl, by decide, x_X.ox, ha, _, rfl, _, rfl, a, _, rfl, x_X.ox, x_X.no, ha, fun dx h1 h2 => q dx h1 h2⟩
theorem sc_Unended___init__ : FnScope ["self", "many"] ["self", "many"] (defScope s_Unended___init__) := ⟨rfl, rfl, rfl, by decide +kernel, rfl, by decide +kernel, by decide +kernel⟩

theorem ok_Unended_ini (fam_F : FamT K (He.ga K "TermError") "ValueError.__init__") (g_F : mg "TermError" = some (.ref (He.ga K "TermError"))) (x_X : OwnT K (He.ga K "Unended") "many" "ValueError.__new__" veT) (D : DefM K (He.ma K (He.ga K "Unended") "__init__") "__init__" "Unended.__init__" s_Unended___init__) :
    MethA P w K mg base 1 (He.ma K (He.ga K "Unended") "__init__") "__init__" "Unended.__init__" s_Unended___init__ ["self", "many"] (spIni (He.ga K "Unended") "many") := by
  refine methA_mk D sc_Unended___init__ (fun vs H Q E h => ?_) (fun cdv A outer s H vs Q E hr h => ?_)
  · obtain ⟨a, v, rfl, _⟩ := h
    rfl
  · obtain ⟨a, v, rfl, ha, q⟩ := h
    refine ⟨_, (pss_cons (ps_expr (pe_famInitT bas_VE fam_F rfl g_F (pa_cons (pv 0) (pa_cons pe_str pa_nil))))
      (pss_one (ps_ostT bas_VE (pv 0) (pv 1)))), ?_⟩
    exact ⟨_, rfl, a, _, _, rfl, by decide, x_X.ox, ha, _, rfl, _, rfl, a, _, rfl, x_X.ox, x_X.no, ha, fun dx h1 h2 => q dx h1 h2⟩
theorem sc_NoTerm___init__ : FnScope ["self", "found"] ["self", "found"] (defScope s_NoTerm___init__) := ⟨rfl, rfl, rfl, by decide +kernel, rfl, by decide +kernel, by decide +kernel⟩

theorem ok_NoTerm_ini (fam_F : FamT K (He.ga K "TermError") "ValueError.__init__") (g_F : mg "TermError" = some (.ref (He.ga K "TermError"))) (x_X : OwnT K (He.ga K "NoTerm") "found" "ValueError.__new__" veT) (D : DefM K (He.ma K (He.ga K "NoTerm") "__init__") "__init__" "NoTerm.__init__" s_NoTerm___init__) :
    MethA P w K mg base 1 (He.ma K (He.ga K "NoTerm") "__init__") "__init__" "NoTerm.__init__" s_NoTerm___init__ ["self", "found"] (spIni (He.ga K "NoTerm") "found") := by
  refine methA_mk D sc_NoTerm___init__ (fun vs H Q E h => ?_) (fun cdv A outer s H vs Q E hr h => ?_)
  · obtain ⟨a, v, rfl, _⟩ := h
    rfl
  · obtain ⟨a, v, rfl, ha, q⟩ := h
    refine ⟨_, (pss_cons (ps_expr (pe_famInitT bas_VE fam_F rfl g_F (pa_cons (pv 0) (pa_cons pe_str pa_nil))))
      (pss_one (ps_ostT bas_VE (pv 0) (pv 1)))), ?_⟩
    exact ⟨_, rfl, a, _, _, rfl, by decide, x_X.ox, ha, _, rfl, _, rfl, a, _, rfl, x_X.ox, x_X.no, ha, fun dx h1 h2 => q dx h1 h2⟩
theorem sc_NoTerms___init__ : FnScope ["self", "found"] ["self", "found"] (defScope s_NoTerms___init__) := ⟨rfl, rfl, rfl, by decide +kernel, rfl, by decide +kernel, by decide +kernel⟩

theorem ok_NoTerms_ini (fam_F : FamT K (He.ga K "TermError") "ValueError.__init__") (g_F : mg "TermError" = some (.ref (He.ga K "TermError"))) (x_X : OwnT K (He.ga K "NoTerms") "found" "ValueError.__new__" veT) (D : DefM K (He.ma K (He.ga K "NoTerms") "__init__") "__init__" "NoTerms.__init__" s_NoTerms___init__) :
    MethA P w K mg base 1 (He.ma K (He.ga K "NoTerms") "__init__") "__init__" "NoTerms.__init__" s_NoTerms___init__ ["self", "found"] (spIni (He.ga K "NoTerms") "found") := by
  refine methA_mk D sc_NoTerms___init__ (fun vs H Q E h => ?_) (fun cdv A outer s H vs Q E hr h => ?_)
  · obtain ⟨a, v, rfl, _⟩ := h
    rfl
  · obtain ⟨a, v, rfl, ha, q⟩ := h
    refine ⟨_, (pss_cons (ps_expr (pe_famInitT bas_VE fam_F rfl g_F (pa_cons (pv 0) (pa_cons pe_str pa_nil))))
      (pss_one (ps_ostT bas_VE (pv 0) (pv 1)))), ?_⟩
    exact ⟨_, rfl, a, _, _, rfl, by decide, x_X.ox, ha, _, rfl, _, rfl, a, _, rfl, x_X.ox, x_X.no, ha, fun dx h1 h2 => q dx h1 h2⟩
theorem sc_NoLetter___init__ : FnScope ["self", "found"] ["self", "found"] (defScope s_NoLetter___init__) := ⟨rfl, rfl, rfl, by decide +kernel, rfl, by decide +kernel, by decide +kernel⟩

theorem ok_NoLetter_ini (fam_F : FamT K (He.ga K "TermError") "ValueError.__init__") (g_F : mg "TermError" = some (.ref (He.ga K "TermError"))) (x_X : OwnT K (He.ga K "NoLetter") "found" "ValueError.__new__" veT) (D : DefM K (He.ma K (He.ga K "NoLetter") "__init__") "__init__" "NoLetter.__init__" s_NoLetter___init__) :
    MethA P w K mg base 1 (He.ma K (He.ga K "NoLetter") "__init__") "__init__" "NoLetter.__init__" s_NoLetter___init__ ["self", "found"] (spIni (He.ga K "NoLetter") "found") := by
  refine methA_mk D sc_NoLetter___init__ (fun vs H Q E h => ?_) (fun cdv A outer s H vs Q E hr h => ?_)
  · obtain ⟨a, v, rfl, _⟩ := h
    rfl
  · obtain ⟨a, v, rfl, ha, q⟩ := h
    refine ⟨_, (pss_cons (ps_expr (pe_famInitT bas_VE fam_F rfl g_F (pa_cons (pv 0) (pa_cons pe_str pa_nil))))
      (pss_one (ps_ostT bas_VE (pv 0) (pv 1)))), ?_⟩
    exact ⟨_, rfl, a, _, _, rfl, by decide, x_X.ox, ha, _, rfl, _, rfl, a, _, rfl, x_X.ox, x_X.no, ha, fun dx h1 h2 => q dx h1 h2⟩
theorem sc_NoPairs___init__ : FnScope ["self", "found"] ["self", "found"] (defScope s_NoPairs___init__) := ⟨rfl, rfl, rfl, by decide +kernel, rfl, by decide +kernel, by decide +kernel⟩

theorem ok_NoPairs_ini (fam_F : FamT K (He.ga K "TermError") "ValueError.__init__") (g_F : mg "TermError" = some (.ref (He.ga K "TermError"))) (x_X : OwnT K (He.ga K "NoPairs") "found" "ValueError.__new__" veT) (D : DefM K (He.ma K (He.ga K "NoPairs") "__init__") "__init__" "NoPairs.__init__" s_NoPairs___init__) :
    MethA P w K mg base 1 (He.ma K (He.ga K "NoPairs") "__init__") "__init__" "NoPairs.__init__" s_NoPairs___init__ ["self", "found"] (spIni (He.ga K "NoPairs") "found") := by
  refine methA_mk D sc_NoPairs___init__ (fun vs H Q E h => ?_) (fun cdv A outer s H vs Q E hr h => ?_)
  · obtain ⟨a, v, rfl, _⟩ := h
    rfl
  · obtain ⟨a, v, rfl, ha, q⟩ := h
    refine ⟨_, (pss_cons (ps_expr (pe_famInitT bas_VE fam_F rfl g_F (pa_cons (pv 0) (pa_cons pe_str pa_nil))))
      (pss_one (ps_ostT bas_VE (pv 0) (pv 1)))), ?_⟩
    exact ⟨_, rfl, a, _, _, rfl, by decide, x_X.ox, ha, _, rfl, _, rfl, a, _, rfl, x_X.ox, x_X.no, ha, fun dx h1 h2 => q dx h1 h2⟩
theorem sc_NoPutting___init__ : FnScope ["self", "found"] ["self", "found"] (defScope s_NoPutting___init__) := ⟨rfl, rfl, rfl, by decide +kernel, rfl, by decide +kernel, by decide +kernel⟩

theorem ok_NoPutting_ini (fam_F : FamT K (He.ga K "TermError") "ValueError.__init__") (g_F : mg "TermError" = some (.ref (He.ga K "TermError"))) (x_X : OwnT K (He.ga K "NoPutting") "found" "ValueError.__new__" veT) (D : DefM K (He.ma K (He.ga K "NoPutting") "__init__") "__init__" "NoPutting.__init__" s_NoPutting___init__) :
    MethA P w K mg base 1 (He.ma K (He.ga K "NoPutting") "__init__") "__init__" "NoPutting.__init__" s_NoPutting___init__ ["self", "found"] (spIni (He.ga K "NoPutting") "found") := by
  refine methA_mk D sc_NoPutting___init__ (fun vs H Q E h => ?_) (fun cdv A outer s H vs Q E hr h => ?_)
  · obtain ⟨a, v, rfl, _⟩ := h
    rfl
  · obtain ⟨a, v, rfl, ha, q⟩ := h
    refine ⟨_, (pss_cons (ps_expr (pe_famInitT bas_VE fam_F rfl g_F (pa_cons (pv 0) (pa_cons pe_str pa_nil))))
      (pss_one (ps_ostT bas_VE (pv 0) (pv 1)))), ?_⟩
    exact ⟨_, rfl, a, _, _, rfl, by decide, x_X.ox, ha, _, rfl, _, rfl, a, _, rfl, x_X.ox, x_X.no, ha, fun dx h1 h2 => q dx h1 h2⟩
theorem sc_NoWay___init__ : FnScope ["self", "found"] ["self", "found"] (defScope s_NoWay___init__) := ⟨rfl, rfl, rfl, by decide +kernel, rfl, by decide +kernel, by decide +kernel⟩

theorem ok_NoWay_ini (fam_F : FamT K (He.ga K "TermError") "ValueError.__init__") (g_F : mg "TermError" = some (.ref (He.ga K "TermError"))) (x_X : OwnT K (He.ga K "NoWay") "found" "ValueError.__new__" veT) (D : DefM K (He.ma K (He.ga K "NoWay") "__init__") "__init__" "NoWay.__init__" s_NoWay___init__) :
    MethA P w K mg base 1 (He.ma K (He.ga K "NoWay") "__init__") "__init__" "NoWay.__init__" s_NoWay___init__ ["self", "found"] (spIni (He.ga K "NoWay") "found") := by
  refine methA_mk D sc_NoWay___init__ (fun vs H Q E h => ?_) (fun cdv A outer s H vs Q E hr h => ?_)
  · obtain ⟨a, v, rfl, _⟩ := h
    rfl
  · obtain ⟨a, v, rfl, ha, q⟩ := h
    refine ⟨_, (pss_cons (ps_expr (pe_famInitT bas_VE fam_F rfl g_F (pa_cons (pv 0) (pa_cons pe_str pa_nil))))
      (pss_one (ps_ostT bas_VE (pv 0) (pv 1)))), ?_⟩
    exact ⟨_, rfl, a, _, _, rfl, by decide, x_X.ox, ha, _, rfl, _, rfl, a, _, rfl, x_X.ox, x_X.no, ha, fun dx h1 h2 => q dx h1 h2⟩
theorem sc_NoNumber___init__ : FnScope ["self", "found"] ["self", "found"] (defScope s_NoNumber___init__) := ⟨rfl, rfl, rfl, by decide +kernel, rfl, by decide +kernel, by decide +kernel⟩

theorem ok_NoNumber_ini (fam_F : FamT K (He.ga K "TermError") "ValueError.__init__") (g_F : mg "TermError" = some (.ref (He.ga K "TermError"))) (x_X : OwnT K (He.ga K "NoNumber") "found" "ValueError.__new__" veT) (D : DefM K (He.ma K (He.ga K "NoNumber") "__init__") "__init__" "NoNumber.__init__" s_NoNumber___init__) :
    MethA P w K mg base 1 (He.ma K (He.ga K "NoNumber") "__init__") "__init__" "NoNumber.__init__" s_NoNumber___init__ ["self", "found"] (spIni (He.ga K "NoNumber") "found") := by
  refine methA_mk D sc_NoNumber___init__ (fun vs H Q E h => ?_) (fun cdv A outer s H vs Q E hr h => ?_)
  · obtain ⟨a, v, rfl, _⟩ := h
    rfl
  · obtain ⟨a, v, rfl, ha, q⟩ := h
    refine ⟨_, (pss_cons (ps_expr (pe_famInitT bas_VE fam_F rfl g_F (pa_cons (pv 0) (pa_cons pe_str pa_nil))))
      (pss_one (ps_ostT bas_VE (pv 0) (pv 1)))), ?_⟩
    exact ⟨_, rfl, a, _, _, rfl, by decide, x_X.ox, ha, _, rfl, _, rfl, a, _, rfl, x_X.ox, x_X.no, ha, fun dx h1 h2 => q dx h1 h2⟩
theorem sc_NoTruth___init__ : FnScope ["self", "found"] ["self", "found"] (defScope s_NoTruth___init__) := ⟨rfl, rfl, rfl, by decide +kernel, rfl, by decide +kernel, by decide +kernel⟩

theorem ok_NoTruth_ini (fam_F : FamT K (He.ga K "TermError") "ValueError.__init__") (g_F : mg "TermError" = some (.ref (He.ga K "TermError"))) (x_X : OwnT K (He.ga K "NoTruth") "found" "ValueError.__new__" veT) (D : DefM K (He.ma K (He.ga K "NoTruth") "__init__") "__init__" "NoTruth.__init__" s_NoTruth___init__) :
    MethA P w K mg base 1 (He.ma K (He.ga K "NoTruth") "__init__") "__init__" "NoTruth.__init__" s_NoTruth___init__ ["self", "found"] (spIni (He.ga K "NoTruth") "found") := by
  refine methA_mk D sc_NoTruth___init__ (fun vs H Q E h => ?_) (fun cdv A outer s H vs Q E hr h => ?_)
  · obtain ⟨a, v, rfl, _⟩ := h
    rfl
  · obtain ⟨a, v, rfl, ha, q⟩ := h
    refine ⟨_, (pss_cons (ps_expr (pe_famInitT bas_VE fam_F rfl g_F (pa_cons (pv 0) (pa_cons pe_str pa_nil))))
      (pss_one (ps_ostT bas_VE (pv 0) (pv 1)))), ?_⟩
    exact ⟨_, rfl, a, _, _, rfl, by decide, x_X.ox, ha, _, rfl, _, rfl, a, _, rfl, x_X.ox, x_X.no, ha, fun dx h1 h2 => q dx h1 h2⟩
theorem sc_NoNote___init__ : FnScope ["self", "found"] ["self", "found"] (defScope s_NoNote___init__) := ⟨rfl, rfl, rfl, by decide +kernel, rfl, by decide +kernel, by decide +kernel⟩

theorem ok_NoNote_ini (fam_F : FamT K (He.ga K "TermError") "ValueError.__init__") (g_F : mg "TermError" = some (.ref (He.ga K "TermError"))) (x_X : OwnT K (He.ga K "NoNote") "found" "ValueError.__new__" veT) (D : DefM K (He.ma K (He.ga K "NoNote") "__init__") "__init__" "NoNote.__init__" s_NoNote___init__) :
    MethA P w K mg base 1 (He.ma K (He.ga K "NoNote") "__init__") "__init__" "NoNote.__init__" s_NoNote___init__ ["self", "found"] (spIni (He.ga K "NoNote") "found") := by
  refine methA_mk D sc_NoNote___init__ (fun vs H Q E h => ?_) (fun cdv A outer s H vs Q E hr h => ?_)
  · obtain ⟨a, v, rfl, _⟩ := h
    rfl
  · obtain ⟨a, v, rfl, ha, q⟩ := h
    refine ⟨_, (pss_cons (ps_expr (pe_famInitT bas_VE fam_F rfl g_F (pa_cons (pv 0) (pa_cons pe_str pa_nil))))
      (pss_one (ps_ostT bas_VE (pv 0) (pv 1)))), ?_⟩
    exact ⟨_, rfl, a, _, _, rfl, by decide, x_X.ox, ha, _, rfl, _, rfl, a, _, rfl, x_X.ox, x_X.no, ha, fun dx h1 h2 => q dx h1 h2⟩
theorem sc_NoList___init__ : FnScope ["self", "found"] ["self", "found"] (defScope s_NoList___init__) := ⟨rfl, rfl, rfl, by decide +kernel, rfl, by decide +kernel, by decide +kernel⟩

theorem ok_NoList_ini (fam_F : FamT K (He.ga K "TermError") "ValueError.__init__") (g_F : mg "TermError" = some (.ref (He.ga K "TermError"))) (x_X : OwnT K (He.ga K "NoList") "found" "ValueError.__new__" veT) (D : DefM K (He.ma K (He.ga K "NoList") "__init__") "__init__" "NoList.__init__" s_NoList___init__) :
    MethA P w K mg base 1 (He.ma K (He.ga K "NoList") "__init__") "__init__" "NoList.__init__" s_NoList___init__ ["self", "found"] (spIni (He.ga K "NoList") "found") := by
  refine methA_mk D sc_NoList___init__ (fun vs H Q E h => ?_) (fun cdv A outer s H vs Q E hr h => ?_)
  · obtain ⟨a, v, rfl, _⟩ := h
    rfl
  · obtain ⟨a, v, rfl, ha, q⟩ := h
    refine ⟨_, (pss_cons (ps_expr (pe_famInitT bas_VE fam_F rfl g_F (pa_cons (pv 0) (pa_cons pe_str pa_nil))))
      (pss_one (ps_ostT bas_VE (pv 0) (pv 1)))), ?_⟩
    exact ⟨_, rfl, a, _, _, rfl, by decide, x_X.ox, ha, _, rfl, _, rfl, a, _, rfl, x_X.ox, x_X.no, ha, fun dx h1 h2 => q dx h1 h2⟩
theorem sc_NoAsk___init__ : FnScope ["self", "found"] ["self", "found"] (defScope s_NoAsk___init__) := ⟨rfl, rfl, rfl, by decide +kernel, rfl, by decide +kernel, by decide +kernel⟩

theorem ok_NoAsk_ini (fam_F : FamT K (He.ga K "TermError") "ValueError.__init__") (g_F : mg "TermError" = some (.ref (He.ga K "TermError"))) (x_X : OwnT K (He.ga K "NoAsk") "found" "ValueError.__new__" veT) (D : DefM K (He.ma K (He.ga K "NoAsk") "__init__") "__init__" "NoAsk.__init__" s_NoAsk___init__) :
    MethA P w K mg base 1 (He.ma K (He.ga K "NoAsk") "__init__") "__init__" "NoAsk.__init__" s_NoAsk___init__ ["self", "found"] (spIni (He.ga K "NoAsk") "found") := by
  refine methA_mk D sc_NoAsk___init__ (fun vs H Q E h => ?_) (fun cdv A outer s H vs Q E hr h => ?_)
  · obtain ⟨a, v, rfl, _⟩ := h
    rfl
  · obtain ⟨a, v, rfl, ha, q⟩ := h
    refine ⟨_, (pss_cons (ps_expr (pe_famInitT bas_VE fam_F rfl g_F (pa_cons (pv 0) (pa_cons pe_str pa_nil))))
      (pss_one (ps_ostT bas_VE (pv 0) (pv 1)))), ?_⟩
    exact ⟨_, rfl, a, _, _, rfl, by decide, x_X.ox, ha, _, rfl, _, rfl, a, _, rfl, x_X.ox, x_X.no, ha, fun dx h1 h2 => q dx h1 h2⟩
theorem sc_NoRule___init__ : FnScope ["self", "found"] ["self", "found"] (defScope s_NoRule___init__) := ⟨rfl, rfl, rfl, by decide +kernel, rfl, by decide +kernel, by decide +kernel⟩

theorem ok_NoRule_ini (fam_F : FamT K (He.ga K "TermError") "ValueError.__init__") (g_F : mg "TermError" = some (.ref (He.ga K "TermError"))) (x_X : OwnT K (He.ga K "NoRule") "found" "ValueError.__new__" veT) (D : DefM K (He.ma K (He.ga K "NoRule") "__init__") "__init__" "NoRule.__init__" s_NoRule___init__) :
    MethA P w K mg base 1 (He.ma K (He.ga K "NoRule") "__init__") "__init__" "NoRule.__init__" s_NoRule___init__ ["self", "found"] (spIni (He.ga K "NoRule") "found") := by
  refine methA_mk D sc_NoRule___init__ (fun vs H Q E h => ?_) (fun cdv A outer s H vs Q E hr h => ?_)
  · obtain ⟨a, v, rfl, _⟩ := h
    rfl
  · obtain ⟨a, v, rfl, ha, q⟩ := h
    refine ⟨_, (pss_cons (ps_expr (pe_famInitT bas_VE fam_F rfl g_F (pa_cons (pv 0) (pa_cons pe_str pa_nil))))
      (pss_one (ps_ostT bas_VE (pv 0) (pv 1)))), ?_⟩
    exact ⟨_, rfl, a, _, _, rfl, by decide, x_X.ox, ha, _, rfl, _, rfl, a, _, rfl, x_X.ox, x_X.no, ha, fun dx h1 h2 => q dx h1 h2⟩
theorem sc_NoRules___init__ : FnScope ["self", "found"] ["self", "found"] (defScope s_NoRules___init__) := ⟨rfl, rfl, rfl, by decide +kernel, rfl, by decide +kernel, by decide +kernel⟩

theorem ok_NoRules_ini (fam_F : FamT K (He.ga K "TermError") "ValueError.__init__") (g_F : mg "TermError" = some (.ref (He.ga K "TermError"))) (x_X : OwnT K (He.ga K "NoRules") "found" "ValueError.__new__" veT) (D : DefM K (He.ma K (He.ga K "NoRules") "__init__") "__init__" "NoRules.__init__" s_NoRules___init__) :
    MethA P w K mg base 1 (He.ma K (He.ga K "NoRules") "__init__") "__init__" "NoRules.__init__" s_NoRules___init__ ["self", "found"] (spIni (He.ga K "NoRules") "found") := by
  refine methA_mk D sc_NoRules___init__ (fun vs H Q E h => ?_) (fun cdv A outer s H vs Q E hr h => ?_)
  · obtain ⟨a, v, rfl, _⟩ := h
    rfl
  · obtain ⟨a, v, rfl, ha, q⟩ := h
    refine ⟨_, (pss_cons (ps_expr (pe_famInitT bas_VE fam_F rfl g_F (pa_cons (pv 0) (pa_cons pe_str pa_nil))))
      (pss_one (ps_ostT bas_VE (pv 0) (pv 1)))), ?_⟩
    exact ⟨_, rfl, a, _, _, rfl, by decide, x_X.ox, ha, _, rfl, _, rfl, a, _, rfl, x_X.ox, x_X.no, ha, fun dx h1 h2 => q dx h1 h2⟩
theorem sc_NoRow___init__ : FnScope ["self", "found"] ["self", "found"] (defScope s_NoRow___init__) := ⟨rfl, rfl, rfl, by decide +kernel, rfl, by decide +kernel, by decide +kernel⟩

theorem ok_NoRow_ini (fam_F : FamT K (He.ga K "TermError") "ValueError.__init__") (g_F : mg "TermError" = some (.ref (He.ga K "TermError"))) (x_X : OwnT K (He.ga K "NoRow") "found" "ValueError.__new__" veT) (D : DefM K (He.ma K (He.ga K "NoRow") "__init__") "__init__" "NoRow.__init__" s_NoRow___init__) :
    MethA P w K mg base 1 (He.ma K (He.ga K "NoRow") "__init__") "__init__" "NoRow.__init__" s_NoRow___init__ ["self", "found"] (spIni (He.ga K "NoRow") "found") := by
  refine methA_mk D sc_NoRow___init__ (fun vs H Q E h => ?_) (fun cdv A outer s H vs Q E hr h => ?_)
  · obtain ⟨a, v, rfl, _⟩ := h
    rfl
  · obtain ⟨a, v, rfl, ha, q⟩ := h
    refine ⟨_, (pss_cons (ps_expr (pe_famInitT bas_VE fam_F rfl g_F (pa_cons (pv 0) (pa_cons pe_str pa_nil))))
      (pss_one (ps_ostT bas_VE (pv 0) (pv 1)))), ?_⟩
    exact ⟨_, rfl, a, _, _, rfl, by decide, x_X.ox, ha, _, rfl, _, rfl, a, _, rfl, x_X.ox, x_X.no, ha, fun dx h1 h2 => q dx h1 h2⟩
theorem sc_NoShelf___init__ : FnScope ["self", "found"] ["self", "found"] (defScope s_NoShelf___init__) := ⟨rfl, rfl, rfl, by decide +kernel, rfl, by decide +kernel, by decide +kernel⟩

theorem ok_NoShelf_ini (fam_F : FamT K (He.ga K "TermError") "ValueError.__init__") (g_F : mg "TermError" = some (.ref (He.ga K "TermError"))) (x_X : OwnT K (He.ga K "NoShelf") "found" "ValueError.__new__" veT) (D : DefM K (He.ma K (He.ga K "NoShelf") "__init__") "__init__" "NoShelf.__init__" s_NoShelf___init__) :
    MethA P w K mg base 1 (He.ma K (He.ga K "NoShelf") "__init__") "__init__" "NoShelf.__init__" s_NoShelf___init__ ["self", "found"] (spIni (He.ga K "NoShelf") "found") := by
  refine methA_mk D sc_NoShelf___init__ (fun vs H Q E h => ?_) (fun cdv A outer s H vs Q E hr h => ?_)
  · obtain ⟨a, v, rfl, _⟩ := h
    rfl
  · obtain ⟨a, v, rfl, ha, q⟩ := h
    refine ⟨_, (pss_cons (ps_expr (pe_famInitT bas_VE fam_F rfl g_F (pa_cons (pv 0) (pa_cons pe_str pa_nil))))
      (pss_one (ps_ostT bas_VE (pv 0) (pv 1)))), ?_⟩
    exact ⟨_, rfl, a, _, _, rfl, by decide, x_X.ox, ha, _, rfl, _, rfl, a, _, rfl, x_X.ox, x_X.no, ha, fun dx h1 h2 => q dx h1 h2⟩
theorem sc_NoDeed___init__ : FnScope ["self", "at"] ["self", "at"] (defScope s_NoDeed___init__) := ⟨rfl, rfl, rfl, by decide +kernel, rfl, by decide +kernel, by decide +kernel⟩

theorem ok_NoDeed_ini (fam_F : FamT K (He.ga K "TermError") "ValueError.__init__") (g_F : mg "TermError" = some (.ref (He.ga K "TermError"))) (x_X : OwnT K (He.ga K "NoDeed") "at" "ValueError.__new__" veT) (D : DefM K (He.ma K (He.ga K "NoDeed") "__init__") "__init__" "NoDeed.__init__" s_NoDeed___init__) :
    MethA P w K mg base 1 (He.ma K (He.ga K "NoDeed") "__init__") "__init__" "NoDeed.__init__" s_NoDeed___init__ ["self", "at"] (spIni (He.ga K "NoDeed") "at") := by
  refine methA_mk D sc_NoDeed___init__ (fun vs H Q E h => ?_) (fun cdv A outer s H vs Q E hr h => ?_)
  · obtain ⟨a, v, rfl, _⟩ := h
    rfl
  · obtain ⟨a, v, rfl, ha, q⟩ := h
    refine ⟨_, (pss_cons (ps_expr (pe_famInitT bas_VE fam_F rfl g_F (pa_cons (pv 0) (pa_cons pe_str pa_nil))))
      (pss_one (ps_ostT bas_VE (pv 0) (pv 1)))), ?_⟩
    exact ⟨_, rfl, a, _, _, rfl, by decide, x_X.ox, ha, _, rfl, _, rfl, a, _, rfl, x_X.ox, x_X.no, ha, fun dx h1 h2 => q dx h1 h2⟩
theorem sc_NoText___init__ : FnScope ["self", "row"] ["self", "row"] (defScope s_NoText___init__) := ⟨rfl, rfl, rfl, by decide +kernel, rfl, by decide +kernel, by decide +kernel⟩

theorem ok_NoText_ini (fam_F : FamT K (He.ga K "TermError") "ValueError.__init__") (g_F : mg "TermError" = some (.ref (He.ga K "TermError"))) (x_X : OwnT K (He.ga K "NoText") "row" "ValueError.__new__" veT) (D : DefM K (He.ma K (He.ga K "NoText") "__init__") "__init__" "NoText.__init__" s_NoText___init__) :
    MethA P w K mg base 1 (He.ma K (He.ga K "NoText") "__init__") "__init__" "NoText.__init__" s_NoText___init__ ["self", "row"] (spIni (He.ga K "NoText") "row") := by
  refine methA_mk D sc_NoText___init__ (fun vs H Q E h => ?_) (fun cdv A outer s H vs Q E hr h => ?_)
  · obtain ⟨a, v, rfl, _⟩ := h
    rfl
  · obtain ⟨a, v, rfl, ha, q⟩ := h
    refine ⟨_, (pss_cons (ps_expr (pe_famInitT bas_VE fam_F rfl g_F (pa_cons (pv 0) (pa_cons pe_str pa_nil))))
      (pss_one (ps_ostT bas_VE (pv 0) (pv 1)))), ?_⟩
    exact ⟨_, rfl, a, _, _, rfl, by decide, x_X.ox, ha, _, rfl, _, rfl, a, _, rfl, x_X.ox, x_X.no, ha, fun dx h1 h2 => q dx h1 h2⟩
theorem sc_NoLine___init__ : FnScope ["self", "found"] ["self", "found"] (defScope s_NoLine___init__) := ⟨rfl, rfl, rfl, by decide +kernel, rfl, by decide +kernel, by decide +kernel⟩

theorem ok_NoLine_ini (fam_F : FamT K (He.ga K "TermError") "ValueError.__init__") (g_F : mg "TermError" = some (.ref (He.ga K "TermError"))) (x_X : OwnT K (He.ga K "NoLine") "found" "ValueError.__new__" veT) (D : DefM K (He.ma K (He.ga K "NoLine") "__init__") "__init__" "NoLine.__init__" s_NoLine___init__) :
    MethA P w K mg base 1 (He.ma K (He.ga K "NoLine") "__init__") "__init__" "NoLine.__init__" s_NoLine___init__ ["self", "found"] (spIni (He.ga K "NoLine") "found") := by
  refine methA_mk D sc_NoLine___init__ (fun vs H Q E h => ?_) (fun cdv A outer s H vs Q E hr h => ?_)
  · obtain ⟨a, v, rfl, _⟩ := h
    rfl
  · obtain ⟨a, v, rfl, ha, q⟩ := h
    refine ⟨_, (pss_cons (ps_expr (pe_famInitT bas_VE fam_F rfl g_F (pa_cons (pv 0) (pa_cons pe_str pa_nil))))
      (pss_one (ps_ostT bas_VE (pv 0) (pv 1)))), ?_⟩
    exact ⟨_, rfl, a, _, _, rfl, by decide, x_X.ox, ha, _, rfl, _, rfl, a, _, rfl, x_X.ox, x_X.no, ha, fun dx h1 h2 => q dx h1 h2⟩
theorem sc_Unlike___init__ : FnScope ["self", "found"] ["self", "found"] (defScope s_Unlike___init__) := ⟨rfl, rfl, rfl, by decide +kernel, rfl, by decide +kernel, by decide +kernel⟩

theorem ok_Unlike_ini (fam_F : FamT K (He.ga K "TermError") "ValueError.__init__") (g_F : mg "TermError" = some (.ref (He.ga K "TermError"))) (x_X : OwnT K (He.ga K "Unlike") "found" "ValueError.__new__" veT) (D : DefM K (He.ma K (He.ga K "Unlike") "__init__") "__init__" "Unlike.__init__" s_Unlike___init__) :
    MethA P w K mg base 1 (He.ma K (He.ga K "Unlike") "__init__") "__init__" "Unlike.__init__" s_Unlike___init__ ["self", "found"] (spIni (He.ga K "Unlike") "found") := by
  refine methA_mk D sc_Unlike___init__ (fun vs H Q E h => ?_) (fun cdv A outer s H vs Q E hr h => ?_)
  · obtain ⟨a, v, rfl, _⟩ := h
    rfl
  · obtain ⟨a, v, rfl, ha, q⟩ := h
    refine ⟨_, (pss_cons (ps_expr (pe_famInitT bas_VE fam_F rfl g_F (pa_cons (pv 0) (pa_cons pe_str pa_nil))))
      (pss_one (ps_ostT bas_VE (pv 0) (pv 1)))), ?_⟩
    exact ⟨_, rfl, a, _, _, rfl, by decide, x_X.ox, ha, _, rfl, _, rfl, a, _, rfl, x_X.ox, x_X.no, ha, fun dx h1 h2 => q dx h1 h2⟩
theorem sc_Twice___init__ : FnScope ["self", "found"] ["self", "found"] (defScope s_Twice___init__) := ⟨rfl, rfl, rfl, by decide +kernel, rfl, by decide +kernel, by decide +kernel⟩

theorem ok_Twice_ini (fam_F : FamT K (He.ga K "TermError") "ValueError.__init__") (g_F : mg "TermError" = some (.ref (He.ga K "TermError"))) (x_X : OwnT K (He.ga K "Twice") "found" "ValueError.__new__" veT) (D : DefM K (He.ma K (He.ga K "Twice") "__init__") "__init__" "Twice.__init__" s_Twice___init__) :
    MethA P w K mg base 1 (He.ma K (He.ga K "Twice") "__init__") "__init__" "Twice.__init__" s_Twice___init__ ["self", "found"] (spIni (He.ga K "Twice") "found") := by
  refine methA_mk D sc_Twice___init__ (fun vs H Q E h => ?_) (fun cdv A outer s H vs Q E hr h => ?_)
  · obtain ⟨a, v, rfl, _⟩ := h
    rfl
  · obtain ⟨a, v, rfl, ha, q⟩ := h
    refine ⟨_, (pss_cons (ps_expr (pe_famInitT bas_VE fam_F rfl g_F (pa_cons (pv 0) (pa_cons pe_str pa_nil))))
      (pss_one (ps_ostT bas_VE (pv 0) (pv 1)))), ?_⟩
    exact ⟨_, rfl, a, _, _, rfl, by decide, x_X.ox, ha, _, rfl, _, rfl, a, _, rfl, x_X.ox, x_X.no, ha, fun dx h1 h2 => q dx h1 h2⟩
theorem sc_TooMany___init__ : FnScope ["self", "many"] ["self", "many"] (defScope s_TooMany___init__) := ⟨rfl, rfl, rfl, by decide +kernel, rfl, by decide +kernel, by decide +kernel⟩

theorem ok_TooMany_ini (fam_F : FamT K (He.ga K "TermError") "ValueError.__init__") (g_F : mg "TermError" = some (.ref (He.ga K "TermError"))) (x_X : OwnT K (He.ga K "TooMany") "many" "ValueError.__new__" veT) (D : DefM K (He.ma K (He.ga K "TooMany") "__init__") "__init__" "TooMany.__init__" s_TooMany___init__) :
    MethA P w K mg base 1 (He.ma K (He.ga K "TooMany") "__init__") "__init__" "TooMany.__init__" s_TooMany___init__ ["self", "many"] (spIni (He.ga K "TooMany") "many") := by
  refine methA_mk D sc_TooMany___init__ (fun vs H Q E h => ?_) (fun cdv A outer s H vs Q E hr h => ?_)
  · obtain ⟨a, v, rfl, _⟩ := h
    rfl
  · obtain ⟨a, v, rfl, ha, q⟩ := h
    refine ⟨_, (pss_cons (ps_expr (pe_famInitT bas_VE fam_F rfl g_F (pa_cons (pv 0) (pa_cons pe_str pa_nil))))
      (pss_one (ps_ostT bas_VE (pv 0) (pv 1)))), ?_⟩
    exact ⟨_, rfl, a, _, _, rfl, by decide, x_X.ox, ha, _, rfl, _, rfl, a, _, rfl, x_X.ox, x_X.no, ha, fun dx h1 h2 => q dx h1 h2⟩
theorem sc_TooGreat___init__ : FnScope ["self", "many"] ["self", "many"] (defScope s_TooGreat___init__) := ⟨rfl, rfl, rfl, by decide +kernel, rfl, by decide +kernel, by decide +kernel⟩

theorem ok_TooGreat_ini (fam_F : FamT K (He.ga K "TermError") "ValueError.__init__") (g_F : mg "TermError" = some (.ref (He.ga K "TermError"))) (x_X : OwnT K (He.ga K "TooGreat") "many" "ValueError.__new__" veT) (D : DefM K (He.ma K (He.ga K "TooGreat") "__init__") "__init__" "TooGreat.__init__" s_TooGreat___init__) :
    MethA P w K mg base 1 (He.ma K (He.ga K "TooGreat") "__init__") "__init__" "TooGreat.__init__" s_TooGreat___init__ ["self", "many"] (spIni (He.ga K "TooGreat") "many") := by
  refine methA_mk D sc_TooGreat___init__ (fun vs H Q E h => ?_) (fun cdv A outer s H vs Q E hr h => ?_)
  · obtain ⟨a, v, rfl, _⟩ := h
    rfl
  · obtain ⟨a, v, rfl, ha, q⟩ := h
    refine ⟨_, (pss_cons (ps_expr (pe_famInitT bas_VE fam_F rfl g_F (pa_cons (pv 0) (pa_cons pe_str pa_nil))))
      (pss_one (ps_ostT bas_VE (pv 0) (pv 1)))), ?_⟩
    exact ⟨_, rfl, a, _, _, rfl, by decide, x_X.ox, ha, _, rfl, _, rfl, a, _, rfl, x_X.ox, x_X.no, ha, fun dx h1 h2 => q dx h1 h2⟩
theorem sc_NotThere___init__ : FnScope ["self", "found"] ["self", "found"] (defScope s_NotThere___init__) := ⟨rfl, rfl, rfl, by decide +kernel, rfl, by decide +kernel, by decide +kernel⟩

theorem ok_NotThere_ini (fam_F : FamT K (He.ga K "Absent") "KeyError.__init__") (g_F : mg "Absent" = some (.ref (He.ga K "Absent"))) (x_X : OwnT K (He.ga K "NotThere") "found" "LookupError.__new__" keyT) (D : DefM K (He.ma K (He.ga K "NotThere") "__init__") "__init__" "NotThere.__init__" s_NotThere___init__) :
    MethA P w K mg base 1 (He.ma K (He.ga K "NotThere") "__init__") "__init__" "NotThere.__init__" s_NotThere___init__ ["self", "found"] (spIni (He.ga K "NotThere") "found") := by
  refine methA_mk D sc_NotThere___init__ (fun vs H Q E h => ?_) (fun cdv A outer s H vs Q E hr h => ?_)
  · obtain ⟨a, v, rfl, _⟩ := h
    rfl
  · obtain ⟨a, v, rfl, ha, q⟩ := h
    refine ⟨_, (pss_cons (ps_expr (pe_famInitT bas_Key fam_F rfl g_F (pa_cons (pv 0) (pa_cons pe_str pa_nil))))
      (pss_one (ps_ostT bas_Key (pv 0) (pv 1)))), ?_⟩
    exact ⟨_, rfl, a, _, _, rfl, by decide, x_X.ox, ha, _, rfl, _, rfl, a, _, rfl, x_X.ox, x_X.no, ha, fun dx h1 h2 => q dx h1 h2⟩
theorem sc_NoSpot___init__ : FnScope ["self", "found"] ["self", "found"] (defScope s_NoSpot___init__) := ⟨rfl, rfl, rfl, by decide +kernel, rfl, by decide +kernel, by decide +kernel⟩

theorem ok_NoSpot_ini (fam_F : FamT K (He.ga K "Absent") "KeyError.__init__") (g_F : mg "Absent" = some (.ref (He.ga K "Absent"))) (x_X : OwnT K (He.ga K "NoSpot") "found" "LookupError.__new__" keyT) (D : DefM K (He.ma K (He.ga K "NoSpot") "__init__") "__init__" "NoSpot.__init__" s_NoSpot___init__) :
    MethA P w K mg base 1 (He.ma K (He.ga K "NoSpot") "__init__") "__init__" "NoSpot.__init__" s_NoSpot___init__ ["self", "found"] (spIni (He.ga K "NoSpot") "found") := by
  refine methA_mk D sc_NoSpot___init__ (fun vs H Q E h => ?_) (fun cdv A outer s H vs Q E hr h => ?_)
  · obtain ⟨a, v, rfl, _⟩ := h
    rfl
  · obtain ⟨a, v, rfl, ha, q⟩ := h
    refine ⟨_, (pss_cons (ps_expr (pe_famInitT bas_Key fam_F rfl g_F (pa_cons (pv 0) (pa_cons pe_str pa_nil))))
      (pss_one (ps_ostT bas_Key (pv 0) (pv 1)))), ?_⟩
    exact ⟨_, rfl, a, _, _, rfl, by decide, x_X.ox, ha, _, rfl, _, rfl, a, _, rfl, x_X.ox, x_X.no, ha, fun dx h1 h2 => q dx h1 h2⟩
theorem sc_Changed___init__ : FnScope ["self", "many"] ["self", "many"] (defScope s_Changed___init__) := ⟨rfl, rfl, rfl, by decide +kernel, rfl, by decide +kernel, by decide +kernel⟩

theorem ok_Changed_ini (fam_F : FamT K (He.ga K "Ended") "LookupError.__init__") (g_F : mg "Ended" = some (.ref (He.ga K "Ended"))) (x_X : OwnT K (He.ga K "Changed") "many" "LookupError.__new__" lookT) (D : DefM K (He.ma K (He.ga K "Changed") "__init__") "__init__" "Changed.__init__" s_Changed___init__) :
    MethA P w K mg base 1 (He.ma K (He.ga K "Changed") "__init__") "__init__" "Changed.__init__" s_Changed___init__ ["self", "many"] (spIni (He.ga K "Changed") "many") := by
  refine methA_mk D sc_Changed___init__ (fun vs H Q E h => ?_) (fun cdv A outer s H vs Q E hr h => ?_)
  · obtain ⟨a, v, rfl, _⟩ := h
    rfl
  · obtain ⟨a, v, rfl, ha, q⟩ := h
    refine ⟨_, (pss_cons (ps_expr (pe_famInitT bas_Look fam_F rfl g_F (pa_cons (pv 0) (pa_cons pe_str pa_nil))))
      (pss_one (ps_ostT bas_Look (pv 0) (pv 1)))), ?_⟩
    exact ⟨_, rfl, a, _, _, rfl, by decide, x_X.ox, ha, _, rfl, _, rfl, a, _, rfl, x_X.ox, x_X.no, ha, fun dx h1 h2 => q dx h1 h2⟩
theorem sc_Endless___init__ : FnScope ["self", "many"] ["self", "many"] (defScope s_Endless___init__) := ⟨rfl, rfl, rfl, by decide +kernel, rfl, by decide +kernel, by decide +kernel⟩

theorem ok_Endless_ini (fam_F : FamT K (He.ga K "Ended") "LookupError.__init__") (g_F : mg "Ended" = some (.ref (He.ga K "Ended"))) (x_X : OwnT K (He.ga K "Endless") "many" "LookupError.__new__" lookT) (D : DefM K (He.ma K (He.ga K "Endless") "__init__") "__init__" "Endless.__init__" s_Endless___init__) :
    MethA P w K mg base 1 (He.ma K (He.ga K "Endless") "__init__") "__init__" "Endless.__init__" s_Endless___init__ ["self", "many"] (spIni (He.ga K "Endless") "many") := by
  refine methA_mk D sc_Endless___init__ (fun vs H Q E h => ?_) (fun cdv A outer s H vs Q E hr h => ?_)
  · obtain ⟨a, v, rfl, _⟩ := h
    rfl
  · obtain ⟨a, v, rfl, ha, q⟩ := h
    refine ⟨_, (pss_cons (ps_expr (pe_famInitT bas_Look fam_F rfl g_F (pa_cons (pv 0) (pa_cons pe_str pa_nil))))
      (pss_one (ps_ostT bas_Look (pv 0) (pv 1)))), ?_⟩
    exact ⟨_, rfl, a, _, _, rfl, by decide, x_X.ox, ha, _, rfl, _, rfl, a, _, rfl, x_X.ox, x_X.no, ha, fun dx h1 h2 => q dx h1 h2⟩
theorem sc_NoMore___init__ : FnScope ["self"] ["self"] (defScope s_NoMore___init__) := ⟨rfl, rfl, rfl, by decide +kernel, rfl, by decide +kernel, by decide +kernel⟩

theorem ok_NoMore_ini (fam_F : FamT K (He.ga K "Ended") "LookupError.__init__") (g_F : mg "Ended" = some (.ref (He.ga K "Ended"))) (x_X : OwnT K (He.ga K "NoMore") "many" "LookupError.__new__" lookT) (D : DefM K (He.ma K (He.ga K "NoMore") "__init__") "__init__" "NoMore.__init__" s_NoMore___init__) :
    MethA P w K mg base 1 (He.ma K (He.ga K "NoMore") "__init__") "__init__" "NoMore.__init__" s_NoMore___init__ ["self"] (spIni0 (He.ga K "NoMore")) := by
  refine methA_mk D sc_NoMore___init__ (fun vs H Q E h => ?_) (fun cdv A outer s H vs Q E hr h => ?_)
  · obtain ⟨a, rfl, _⟩ := h
    rfl
  · obtain ⟨a, rfl, ha, q⟩ := h
    refine ⟨_, (pss_one (ps_expr (pe_famInitT bas_Look fam_F rfl g_F (pa_cons (pv 0) (pa_cons pe_str pa_nil))))), ?_⟩
    exact ⟨_, rfl, a, _, _, rfl, by decide, x_X.ox, ha, q⟩
end

end TS

namespace TS
open PySem PySem.Spec PyProof.Rows L2 TL
/-! ### the kinds of a refusal, told -/
def spMarks (K : PySem.W.Frag) (lo n : Nat) : Sp := fun vs H Q _ => ∃ (a : Addr) (i : Nat), vs = [.ref a] ∧ i < 37 ∧ Hld H a (cE K i) ∧ ∀ G p, Same H G → H p = none → G p = some (.lst ((List.range n).map fun j => .bl (isE i (lo + j)))) → Q (.ref p) G
section
variable {P : Program} {w : World} {K : PySem.W.Frag} {mg : Str → Option Value} {base : Heap}
theorem sc__law_marks_first : FnScope ["_law_e", "_law_gained"] ["_law_e"] (defScope s__law_marks_first) := ⟨rfl, rfl, rfl, by decide +kernel, rfl, by decide +kernel, by decide +kernel⟩

set_option maxHeartbeats 1000000 in
theorem ok_mfirst (bt : Bt mg) (ks : Ks K) (gE : ∀ i, i < 37 → mg (nmE.getD i "") = some (.ref (cE K i))) (D : Def K mg "_law_marks_first" s__law_marks_first) : Prom P w K mg base 1 "_law_marks_first" ["_law_e"] (spMarks K 0 18) := by
  have g_NoName : mg "NoName" = some (.ref (He.ga K "NoName")) := gE 0 (by decide)
  have g_NoWords : mg "NoWords" = some (.ref (He.ga K "NoWords")) := gE 1 (by decide)
  have g_NoSigns : mg "NoSigns" = some (.ref (He.ga K "NoSigns")) := gE 2 (by decide)
  have g_NoSign : mg "NoSign" = some (.ref (He.ga K "NoSign")) := gE 3 (by decide)
  have g_NoWord : mg "NoWord" = some (.ref (He.ga K "NoWord")) := gE 4 (by decide)
  have g_Beyond : mg "Beyond" = some (.ref (He.ga K "Beyond")) := gE 5 (by decide)
  have g_Unended : mg "Unended" = some (.ref (He.ga K "Unended")) := gE 6 (by decide)
  have g_NoTerm : mg "NoTerm" = some (.ref (He.ga K "NoTerm")) := gE 7 (by decide)
  have g_NoTerms : mg "NoTerms" = some (.ref (He.ga K "NoTerms")) := gE 8 (by decide)
  have g_NoLetter : mg "NoLetter" = some (.ref (He.ga K "NoLetter")) := gE 9 (by decide)
  have g_NoPairs : mg "NoPairs" = some (.ref (He.ga K "NoPairs")) := gE 10 (by decide)
  have g_NoPutting : mg "NoPutting" = some (.ref (He.ga K "NoPutting")) := gE 11 (by decide)
  have g_NoWay : mg "NoWay" = some (.ref (He.ga K "NoWay")) := gE 12 (by decide)
  have g_NoNumber : mg "NoNumber" = some (.ref (He.ga K "NoNumber")) := gE 13 (by decide)
  have g_NoTruth : mg "NoTruth" = some (.ref (He.ga K "NoTruth")) := gE 14 (by decide)
  have g_NoNote : mg "NoNote" = some (.ref (He.ga K "NoNote")) := gE 15 (by decide)
  have g_NoList : mg "NoList" = some (.ref (He.ga K "NoList")) := gE 16 (by decide)
  have g_NoAsk : mg "NoAsk" = some (.ref (He.ga K "NoAsk")) := gE 17 (by decide)
  refine prom_mk D sc__law_marks_first (fun vs H Q E h => ?_) (fun _ _ _ _ _ _ us hl => match us, hl with | [_], _ => rfl) (fun f cdv A outer s H vs Q E hr h => ?_)
  · obtain ⟨a, i, rfl, _⟩ := h
    rfl
  · obtain ⟨a, i, rfl, hi, hl, q⟩ := h
    refine ⟨_, (pss_cons (ps_set (i := 1) sc__law_marks_first.nd rfl (Or.inl rfl) (pe_lst (pa_cons (pe_callB (id := "isinstance") (call_isH (K := K) rfl) (by rfl) bt.isinstance_ (by decide +kernel) (pa_cons (pv 0) (pa_cons (pe_glob (v := .ref (He.ga K "NoName")) rfl g_NoName rfl) pa_nil))) (pa_cons (pe_callB (id := "isinstance") (call_isH (K := K) rfl) (by rfl) bt.isinstance_ (by decide +kernel) (pa_cons (pv 0) (pa_cons (pe_glob (v := .ref (He.ga K "NoWords")) rfl g_NoWords rfl) pa_nil))) (pa_cons (pe_callB (id := "isinstance") (call_isH (K := K) rfl) (by rfl) bt.isinstance_ (by decide +kernel) (pa_cons (pv 0) (pa_cons (pe_glob (v := .ref (He.ga K "NoSigns")) rfl g_NoSigns rfl) pa_nil))) pa_nil)))))
      (pss_cons (ps_set (i := 1) sc__law_marks_first.nd rfl (Or.inl rfl) (pe_op op_cat (pv 1) (pe_lst (pa_cons (pe_callB (id := "isinstance") (call_isH (K := K) rfl) (by rfl) bt.isinstance_ (by decide +kernel) (pa_cons (pv 0) (pa_cons (pe_glob (v := .ref (He.ga K "NoSign")) rfl g_NoSign rfl) pa_nil))) (pa_cons (pe_callB (id := "isinstance") (call_isH (K := K) rfl) (by rfl) bt.isinstance_ (by decide +kernel) (pa_cons (pv 0) (pa_cons (pe_glob (v := .ref (He.ga K "NoWord")) rfl g_NoWord rfl) pa_nil))) (pa_cons (pe_callB (id := "isinstance") (call_isH (K := K) rfl) (by rfl) bt.isinstance_ (by decide +kernel) (pa_cons (pv 0) (pa_cons (pe_glob (v := .ref (He.ga K "Beyond")) rfl g_Beyond rfl) pa_nil))) pa_nil))))))
      (pss_cons (ps_set (i := 1) sc__law_marks_first.nd rfl (Or.inl rfl) (pe_op op_cat (pv 1) (pe_lst (pa_cons (pe_callB (id := "isinstance") (call_isH (K := K) rfl) (by rfl) bt.isinstance_ (by decide +kernel) (pa_cons (pv 0) (pa_cons (pe_glob (v := .ref (He.ga K "Unended")) rfl g_Unended rfl) pa_nil))) (pa_cons (pe_callB (id := "isinstance") (call_isH (K := K) rfl) (by rfl) bt.isinstance_ (by decide +kernel) (pa_cons (pv 0) (pa_cons (pe_glob (v := .ref (He.ga K "NoTerm")) rfl g_NoTerm rfl) pa_nil))) (pa_cons (pe_callB (id := "isinstance") (call_isH (K := K) rfl) (by rfl) bt.isinstance_ (by decide +kernel) (pa_cons (pv 0) (pa_cons (pe_glob (v := .ref (He.ga K "NoTerms")) rfl g_NoTerms rfl) pa_nil))) pa_nil))))))
      (pss_cons (ps_set (i := 1) sc__law_marks_first.nd rfl (Or.inl rfl) (pe_op op_cat (pv 1) (pe_lst (pa_cons (pe_callB (id := "isinstance") (call_isH (K := K) rfl) (by rfl) bt.isinstance_ (by decide +kernel) (pa_cons (pv 0) (pa_cons (pe_glob (v := .ref (He.ga K "NoLetter")) rfl g_NoLetter rfl) pa_nil))) (pa_cons (pe_callB (id := "isinstance") (call_isH (K := K) rfl) (by rfl) bt.isinstance_ (by decide +kernel) (pa_cons (pv 0) (pa_cons (pe_glob (v := .ref (He.ga K "NoPairs")) rfl g_NoPairs rfl) pa_nil))) (pa_cons (pe_callB (id := "isinstance") (call_isH (K := K) rfl) (by rfl) bt.isinstance_ (by decide +kernel) (pa_cons (pv 0) (pa_cons (pe_glob (v := .ref (He.ga K "NoPutting")) rfl g_NoPutting rfl) pa_nil))) pa_nil))))))
      (pss_cons (ps_set (i := 1) sc__law_marks_first.nd rfl (Or.inl rfl) (pe_op op_cat (pv 1) (pe_lst (pa_cons (pe_callB (id := "isinstance") (call_isH (K := K) rfl) (by rfl) bt.isinstance_ (by decide +kernel) (pa_cons (pv 0) (pa_cons (pe_glob (v := .ref (He.ga K "NoWay")) rfl g_NoWay rfl) pa_nil))) (pa_cons (pe_callB (id := "isinstance") (call_isH (K := K) rfl) (by rfl) bt.isinstance_ (by decide +kernel) (pa_cons (pv 0) (pa_cons (pe_glob (v := .ref (He.ga K "NoNumber")) rfl g_NoNumber rfl) pa_nil))) (pa_cons (pe_callB (id := "isinstance") (call_isH (K := K) rfl) (by rfl) bt.isinstance_ (by decide +kernel) (pa_cons (pv 0) (pa_cons (pe_glob (v := .ref (He.ga K "NoTruth")) rfl g_NoTruth rfl) pa_nil))) pa_nil))))))
      (pss_cons (ps_set (i := 1) sc__law_marks_first.nd rfl (Or.inl rfl) (pe_op op_cat (pv 1) (pe_lst (pa_cons (pe_callB (id := "isinstance") (call_isH (K := K) rfl) (by rfl) bt.isinstance_ (by decide +kernel) (pa_cons (pv 0) (pa_cons (pe_glob (v := .ref (He.ga K "NoNote")) rfl g_NoNote rfl) pa_nil))) (pa_cons (pe_callB (id := "isinstance") (call_isH (K := K) rfl) (by rfl) bt.isinstance_ (by decide +kernel) (pa_cons (pv 0) (pa_cons (pe_glob (v := .ref (He.ga K "NoList")) rfl g_NoList rfl) pa_nil))) (pa_cons (pe_callB (id := "isinstance") (call_isH (K := K) rfl) (by rfl) bt.isinstance_ (by decide +kernel) (pa_cons (pv 0) (pa_cons (pe_glob (v := .ref (He.ga K "NoAsk")) rfl g_NoAsk rfl) pa_nil))) pa_nil))))))
      (pss_one (ps_ret (pv 1))))))))), ?_⟩
    have s0 : Same H H := Same.refl H
    refine ⟨_, rfl, a, cE K i, .ref (cE K 0), .ref (cE K 0), _, rfl, hl.same s0, ks.ex i hi, (fun _ h => h), ks.kk i hi 0 (by decide), _, rfl, a, cE K i, .ref (cE K 1), .ref (cE K 1), _, rfl, hl.same s0, ks.ex i hi, (fun _ h => h), ks.kk i hi 1 (by decide), _, rfl, a, cE K i, .ref (cE K 2), .ref (cE K 2), _, rfl, hl.same s0, ks.ex i hi, (fun _ h => h), ks.kk i hi 2 (by decide), (by show 3 ≤ sizeLine; decide), fun p0 hp0 => ?_⟩
    (generalize hG : L2.upd _ p0 _ = H0a; have sp0 := same_of hG hp0; have ep0 := at_of hG; clear hG)
    have s0a := s0.trans sp0
    refine ⟨_, rfl, _, rfl, a, cE K i, .ref (cE K 3), .ref (cE K 3), _, rfl, hl.same s0a, ks.ex i hi, (fun _ h => h), ks.kk i hi 3 (by decide), _, rfl, a, cE K i, .ref (cE K 4), .ref (cE K 4), _, rfl, hl.same s0a, ks.ex i hi, (fun _ h => h), ks.kk i hi 4 (by decide), _, rfl, a, cE K i, .ref (cE K 5), .ref (cE K 5), _, rfl, hl.same s0a, ks.ex i hi, (fun _ h => h), ks.kk i hi 5 (by decide), (by show 3 ≤ sizeLine; decide), fun p1 hp1 => ?_⟩
    (generalize hG : L2.upd _ p1 _ = H1a; have sp1 := same_of hG hp1; have ep1 := at_of hG; clear hG)
    have s1a := s0a.trans sp1
    refine ⟨p0, p1, _, _, rfl, rfl, sp1 _ _ ep0, ep1, sz5 (by simp), fun r1 hr1 => ?_⟩
    (generalize hG : L2.upd _ r1 _ = H1b; have sr1 := same_of hG hr1; have er1 := at_of hG; clear hG)
    have s1b := s1a.trans sr1
    refine ⟨_, rfl, _, rfl, a, cE K i, .ref (cE K 6), .ref (cE K 6), _, rfl, hl.same s1b, ks.ex i hi, (fun _ h => h), ks.kk i hi 6 (by decide), _, rfl, a, cE K i, .ref (cE K 7), .ref (cE K 7), _, rfl, hl.same s1b, ks.ex i hi, (fun _ h => h), ks.kk i hi 7 (by decide), _, rfl, a, cE K i, .ref (cE K 8), .ref (cE K 8), _, rfl, hl.same s1b, ks.ex i hi, (fun _ h => h), ks.kk i hi 8 (by decide), (by show 3 ≤ sizeLine; decide), fun p2 hp2 => ?_⟩
    (generalize hG : L2.upd _ p2 _ = H2a; have sp2 := same_of hG hp2; have ep2 := at_of hG; clear hG)
    have s2a := s1b.trans sp2
    refine ⟨r1, p2, _, _, rfl, rfl, sp2 _ _ er1, ep2, sz5 (by simp), fun r2 hr2 => ?_⟩
    (generalize hG : L2.upd _ r2 _ = H2b; have sr2 := same_of hG hr2; have er2 := at_of hG; clear hG)
    have s2b := s2a.trans sr2
    refine ⟨_, rfl, _, rfl, a, cE K i, .ref (cE K 9), .ref (cE K 9), _, rfl, hl.same s2b, ks.ex i hi, (fun _ h => h), ks.kk i hi 9 (by decide), _, rfl, a, cE K i, .ref (cE K 10), .ref (cE K 10), _, rfl, hl.same s2b, ks.ex i hi, (fun _ h => h), ks.kk i hi 10 (by decide), _, rfl, a, cE K i, .ref (cE K 11), .ref (cE K 11), _, rfl, hl.same s2b, ks.ex i hi, (fun _ h => h), ks.kk i hi 11 (by decide), (by show 3 ≤ sizeLine; decide), fun p3 hp3 => ?_⟩
    (generalize hG : L2.upd _ p3 _ = H3a; have sp3 := same_of hG hp3; have ep3 := at_of hG; clear hG)
    have s3a := s2b.trans sp3
    refine ⟨r2, p3, _, _, rfl, rfl, sp3 _ _ er2, ep3, sz5 (by simp), fun r3 hr3 => ?_⟩
    (generalize hG : L2.upd _ r3 _ = H3b; have sr3 := same_of hG hr3; have er3 := at_of hG; clear hG)
    have s3b := s3a.trans sr3
    refine ⟨_, rfl, _, rfl, a, cE K i, .ref (cE K 12), .ref (cE K 12), _, rfl, hl.same s3b, ks.ex i hi, (fun _ h => h), ks.kk i hi 12 (by decide), _, rfl, a, cE K i, .ref (cE K 13), .ref (cE K 13), _, rfl, hl.same s3b, ks.ex i hi, (fun _ h => h), ks.kk i hi 13 (by decide), _, rfl, a, cE K i, .ref (cE K 14), .ref (cE K 14), _, rfl, hl.same s3b, ks.ex i hi, (fun _ h => h), ks.kk i hi 14 (by decide), (by show 3 ≤ sizeLine; decide), fun p4 hp4 => ?_⟩
    (generalize hG : L2.upd _ p4 _ = H4a; have sp4 := same_of hG hp4; have ep4 := at_of hG; clear hG)
    have s4a := s3b.trans sp4
    refine ⟨r3, p4, _, _, rfl, rfl, sp4 _ _ er3, ep4, sz5 (by simp), fun r4 hr4 => ?_⟩
    (generalize hG : L2.upd _ r4 _ = H4b; have sr4 := same_of hG hr4; have er4 := at_of hG; clear hG)
    have s4b := s4a.trans sr4
    refine ⟨_, rfl, _, rfl, a, cE K i, .ref (cE K 15), .ref (cE K 15), _, rfl, hl.same s4b, ks.ex i hi, (fun _ h => h), ks.kk i hi 15 (by decide), _, rfl, a, cE K i, .ref (cE K 16), .ref (cE K 16), _, rfl, hl.same s4b, ks.ex i hi, (fun _ h => h), ks.kk i hi 16 (by decide), _, rfl, a, cE K i, .ref (cE K 17), .ref (cE K 17), _, rfl, hl.same s4b, ks.ex i hi, (fun _ h => h), ks.kk i hi 17 (by decide), (by show 3 ≤ sizeLine; decide), fun p5 hp5 => ?_⟩
    (generalize hG : L2.upd _ p5 _ = H5a; have sp5 := same_of hG hp5; have ep5 := at_of hG; clear hG)
    have s5a := s4b.trans sp5
    refine ⟨r4, p5, _, _, rfl, rfl, sp5 _ _ er4, ep5, sz5 (by simp), fun r5 hr5 => ?_⟩
    (generalize hG : L2.upd _ r5 _ = H5b; have sr5 := same_of hG hr5; have er5 := at_of hG; clear hG)
    have s5b := s5a.trans sr5
    exact ⟨_, rfl, q _ r5 s5b (s5a.free hr5) er5⟩
theorem sc__law_marks_last : FnScope ["_law_e", "_law_gained"] ["_law_e"] (defScope s__law_marks_last) := ⟨rfl, rfl, rfl, by decide +kernel, rfl, by decide +kernel, by decide +kernel⟩

set_option maxHeartbeats 1000000 in
theorem ok_mlast (bt : Bt mg) (ks : Ks K) (gE : ∀ i, i < 37 → mg (nmE.getD i "") = some (.ref (cE K i))) (D : Def K mg "_law_marks_last" s__law_marks_last) : Prom P w K mg base 1 "_law_marks_last" ["_law_e"] (spMarks K 18 16) := by
  have g_NoRule : mg "NoRule" = some (.ref (He.ga K "NoRule")) := gE 18 (by decide)
  have g_NoRules : mg "NoRules" = some (.ref (He.ga K "NoRules")) := gE 19 (by decide)
  have g_NoRow : mg "NoRow" = some (.ref (He.ga K "NoRow")) := gE 20 (by decide)
  have g_NoShelf : mg "NoShelf" = some (.ref (He.ga K "NoShelf")) := gE 21 (by decide)
  have g_NoDeed : mg "NoDeed" = some (.ref (He.ga K "NoDeed")) := gE 22 (by decide)
  have g_NoText : mg "NoText" = some (.ref (He.ga K "NoText")) := gE 23 (by decide)
  have g_NoLine : mg "NoLine" = some (.ref (He.ga K "NoLine")) := gE 24 (by decide)
  have g_Unlike : mg "Unlike" = some (.ref (He.ga K "Unlike")) := gE 25 (by decide)
  have g_Twice : mg "Twice" = some (.ref (He.ga K "Twice")) := gE 26 (by decide)
  have g_TooMany : mg "TooMany" = some (.ref (He.ga K "TooMany")) := gE 27 (by decide)
  have g_TooGreat : mg "TooGreat" = some (.ref (He.ga K "TooGreat")) := gE 28 (by decide)
  have g_NotThere : mg "NotThere" = some (.ref (He.ga K "NotThere")) := gE 29 (by decide)
  have g_NoSpot : mg "NoSpot" = some (.ref (He.ga K "NoSpot")) := gE 30 (by decide)
  have g_NoMore : mg "NoMore" = some (.ref (He.ga K "NoMore")) := gE 31 (by decide)
  have g_Changed : mg "Changed" = some (.ref (He.ga K "Changed")) := gE 32 (by decide)
  have g_Endless : mg "Endless" = some (.ref (He.ga K "Endless")) := gE 33 (by decide)
  refine prom_mk D sc__law_marks_last (fun vs H Q E h => ?_) (fun _ _ _ _ _ _ us hl => match us, hl with | [_], _ => rfl) (fun f cdv A outer s H vs Q E hr h => ?_)
  · obtain ⟨a, i, rfl, _⟩ := h
    rfl
  · obtain ⟨a, i, rfl, hi, hl, q⟩ := h
    refine ⟨_, (pss_cons (ps_set (i := 1) sc__law_marks_last.nd rfl (Or.inl rfl) (pe_lst (pa_cons (pe_callB (id := "isinstance") (call_isH (K := K) rfl) (by rfl) bt.isinstance_ (by decide +kernel) (pa_cons (pv 0) (pa_cons (pe_glob (v := .ref (He.ga K "NoRule")) rfl g_NoRule rfl) pa_nil))) (pa_cons (pe_callB (id := "isinstance") (call_isH (K := K) rfl) (by rfl) bt.isinstance_ (by decide +kernel) (pa_cons (pv 0) (pa_cons (pe_glob (v := .ref (He.ga K "NoRules")) rfl g_NoRules rfl) pa_nil))) (pa_cons (pe_callB (id := "isinstance") (call_isH (K := K) rfl) (by rfl) bt.isinstance_ (by decide +kernel) (pa_cons (pv 0) (pa_cons (pe_glob (v := .ref (He.ga K "NoRow")) rfl g_NoRow rfl) pa_nil))) pa_nil)))))
      (pss_cons (ps_set (i := 1) sc__law_marks_last.nd rfl (Or.inl rfl) (pe_op op_cat (pv 1) (pe_lst (pa_cons (pe_callB (id := "isinstance") (call_isH (K := K) rfl) (by rfl) bt.isinstance_ (by decide +kernel) (pa_cons (pv 0) (pa_cons (pe_glob (v := .ref (He.ga K "NoShelf")) rfl g_NoShelf rfl) pa_nil))) (pa_cons (pe_callB (id := "isinstance") (call_isH (K := K) rfl) (by rfl) bt.isinstance_ (by decide +kernel) (pa_cons (pv 0) (pa_cons (pe_glob (v := .ref (He.ga K "NoDeed")) rfl g_NoDeed rfl) pa_nil))) (pa_cons (pe_callB (id := "isinstance") (call_isH (K := K) rfl) (by rfl) bt.isinstance_ (by decide +kernel) (pa_cons (pv 0) (pa_cons (pe_glob (v := .ref (He.ga K "NoText")) rfl g_NoText rfl) pa_nil))) pa_nil))))))
      (pss_cons (ps_set (i := 1) sc__law_marks_last.nd rfl (Or.inl rfl) (pe_op op_cat (pv 1) (pe_lst (pa_cons (pe_callB (id := "isinstance") (call_isH (K := K) rfl) (by rfl) bt.isinstance_ (by decide +kernel) (pa_cons (pv 0) (pa_cons (pe_glob (v := .ref (He.ga K "NoLine")) rfl g_NoLine rfl) pa_nil))) (pa_cons (pe_callB (id := "isinstance") (call_isH (K := K) rfl) (by rfl) bt.isinstance_ (by decide +kernel) (pa_cons (pv 0) (pa_cons (pe_glob (v := .ref (He.ga K "Unlike")) rfl g_Unlike rfl) pa_nil))) (pa_cons (pe_callB (id := "isinstance") (call_isH (K := K) rfl) (by rfl) bt.isinstance_ (by decide +kernel) (pa_cons (pv 0) (pa_cons (pe_glob (v := .ref (He.ga K "Twice")) rfl g_Twice rfl) pa_nil))) pa_nil))))))
      (pss_cons (ps_set (i := 1) sc__law_marks_last.nd rfl (Or.inl rfl) (pe_op op_cat (pv 1) (pe_lst (pa_cons (pe_callB (id := "isinstance") (call_isH (K := K) rfl) (by rfl) bt.isinstance_ (by decide +kernel) (pa_cons (pv 0) (pa_cons (pe_glob (v := .ref (He.ga K "TooMany")) rfl g_TooMany rfl) pa_nil))) (pa_cons (pe_callB (id := "isinstance") (call_isH (K := K) rfl) (by rfl) bt.isinstance_ (by decide +kernel) (pa_cons (pv 0) (pa_cons (pe_glob (v := .ref (He.ga K "TooGreat")) rfl g_TooGreat rfl) pa_nil))) (pa_cons (pe_callB (id := "isinstance") (call_isH (K := K) rfl) (by rfl) bt.isinstance_ (by decide +kernel) (pa_cons (pv 0) (pa_cons (pe_glob (v := .ref (He.ga K "NotThere")) rfl g_NotThere rfl) pa_nil))) pa_nil))))))
      (pss_cons (ps_set (i := 1) sc__law_marks_last.nd rfl (Or.inl rfl) (pe_op op_cat (pv 1) (pe_lst (pa_cons (pe_callB (id := "isinstance") (call_isH (K := K) rfl) (by rfl) bt.isinstance_ (by decide +kernel) (pa_cons (pv 0) (pa_cons (pe_glob (v := .ref (He.ga K "NoSpot")) rfl g_NoSpot rfl) pa_nil))) (pa_cons (pe_callB (id := "isinstance") (call_isH (K := K) rfl) (by rfl) bt.isinstance_ (by decide +kernel) (pa_cons (pv 0) (pa_cons (pe_glob (v := .ref (He.ga K "NoMore")) rfl g_NoMore rfl) pa_nil))) (pa_cons (pe_callB (id := "isinstance") (call_isH (K := K) rfl) (by rfl) bt.isinstance_ (by decide +kernel) (pa_cons (pv 0) (pa_cons (pe_glob (v := .ref (He.ga K "Changed")) rfl g_Changed rfl) pa_nil))) pa_nil))))))
      (pss_cons (ps_set (i := 1) sc__law_marks_last.nd rfl (Or.inl rfl) (pe_op op_cat (pv 1) (pe_lst (pa_cons (pe_callB (id := "isinstance") (call_isH (K := K) rfl) (by rfl) bt.isinstance_ (by decide +kernel) (pa_cons (pv 0) (pa_cons (pe_glob (v := .ref (He.ga K "Endless")) rfl g_Endless rfl) pa_nil))) pa_nil))))
      (pss_one (ps_ret (pv 1))))))))), ?_⟩
    have s0 : Same H H := Same.refl H
    refine ⟨_, rfl, a, cE K i, .ref (cE K 18), .ref (cE K 18), _, rfl, hl.same s0, ks.ex i hi, (fun _ h => h), ks.kk i hi 18 (by decide), _, rfl, a, cE K i, .ref (cE K 19), .ref (cE K 19), _, rfl, hl.same s0, ks.ex i hi, (fun _ h => h), ks.kk i hi 19 (by decide), _, rfl, a, cE K i, .ref (cE K 20), .ref (cE K 20), _, rfl, hl.same s0, ks.ex i hi, (fun _ h => h), ks.kk i hi 20 (by decide), (by show 3 ≤ sizeLine; decide), fun p0 hp0 => ?_⟩
    (generalize hG : L2.upd _ p0 _ = H0a; have sp0 := same_of hG hp0; have ep0 := at_of hG; clear hG)
    have s0a := s0.trans sp0
    refine ⟨_, rfl, _, rfl, a, cE K i, .ref (cE K 21), .ref (cE K 21), _, rfl, hl.same s0a, ks.ex i hi, (fun _ h => h), ks.kk i hi 21 (by decide), _, rfl, a, cE K i, .ref (cE K 22), .ref (cE K 22), _, rfl, hl.same s0a, ks.ex i hi, (fun _ h => h), ks.kk i hi 22 (by decide), _, rfl, a, cE K i, .ref (cE K 23), .ref (cE K 23), _, rfl, hl.same s0a, ks.ex i hi, (fun _ h => h), ks.kk i hi 23 (by decide), (by show 3 ≤ sizeLine; decide), fun p1 hp1 => ?_⟩
    (generalize hG : L2.upd _ p1 _ = H1a; have sp1 := same_of hG hp1; have ep1 := at_of hG; clear hG)
    have s1a := s0a.trans sp1
    refine ⟨p0, p1, _, _, rfl, rfl, sp1 _ _ ep0, ep1, sz5 (by simp), fun r1 hr1 => ?_⟩
    (generalize hG : L2.upd _ r1 _ = H1b; have sr1 := same_of hG hr1; have er1 := at_of hG; clear hG)
    have s1b := s1a.trans sr1
    refine ⟨_, rfl, _, rfl, a, cE K i, .ref (cE K 24), .ref (cE K 24), _, rfl, hl.same s1b, ks.ex i hi, (fun _ h => h), ks.kk i hi 24 (by decide), _, rfl, a, cE K i, .ref (cE K 25), .ref (cE K 25), _, rfl, hl.same s1b, ks.ex i hi, (fun _ h => h), ks.kk i hi 25 (by decide), _, rfl, a, cE K i, .ref (cE K 26), .ref (cE K 26), _, rfl, hl.same s1b, ks.ex i hi, (fun _ h => h), ks.kk i hi 26 (by decide), (by show 3 ≤ sizeLine; decide), fun p2 hp2 => ?_⟩
    (generalize hG : L2.upd _ p2 _ = H2a; have sp2 := same_of hG hp2; have ep2 := at_of hG; clear hG)
    have s2a := s1b.trans sp2
    refine ⟨r1, p2, _, _, rfl, rfl, sp2 _ _ er1, ep2, sz5 (by simp), fun r2 hr2 => ?_⟩
    (generalize hG : L2.upd _ r2 _ = H2b; have sr2 := same_of hG hr2; have er2 := at_of hG; clear hG)
    have s2b := s2a.trans sr2
    refine ⟨_, rfl, _, rfl, a, cE K i, .ref (cE K 27), .ref (cE K 27), _, rfl, hl.same s2b, ks.ex i hi, (fun _ h => h), ks.kk i hi 27 (by decide), _, rfl, a, cE K i, .ref (cE K 28), .ref (cE K 28), _, rfl, hl.same s2b, ks.ex i hi, (fun _ h => h), ks.kk i hi 28 (by decide), _, rfl, a, cE K i, .ref (cE K 29), .ref (cE K 29), _, rfl, hl.same s2b, ks.ex i hi, (fun _ h => h), ks.kk i hi 29 (by decide), (by show 3 ≤ sizeLine; decide), fun p3 hp3 => ?_⟩
    (generalize hG : L2.upd _ p3 _ = H3a; have sp3 := same_of hG hp3; have ep3 := at_of hG; clear hG)
    have s3a := s2b.trans sp3
    refine ⟨r2, p3, _, _, rfl, rfl, sp3 _ _ er2, ep3, sz5 (by simp), fun r3 hr3 => ?_⟩
    (generalize hG : L2.upd _ r3 _ = H3b; have sr3 := same_of hG hr3; have er3 := at_of hG; clear hG)
    have s3b := s3a.trans sr3
    refine ⟨_, rfl, _, rfl, a, cE K i, .ref (cE K 30), .ref (cE K 30), _, rfl, hl.same s3b, ks.ex i hi, (fun _ h => h), ks.kk i hi 30 (by decide), _, rfl, a, cE K i, .ref (cE K 31), .ref (cE K 31), _, rfl, hl.same s3b, ks.ex i hi, (fun _ h => h), ks.kk i hi 31 (by decide), _, rfl, a, cE K i, .ref (cE K 32), .ref (cE K 32), _, rfl, hl.same s3b, ks.ex i hi, (fun _ h => h), ks.kk i hi 32 (by decide), (by show 3 ≤ sizeLine; decide), fun p4 hp4 => ?_⟩
    (generalize hG : L2.upd _ p4 _ = H4a; have sp4 := same_of hG hp4; have ep4 := at_of hG; clear hG)
    have s4a := s3b.trans sp4
    refine ⟨r3, p4, _, _, rfl, rfl, sp4 _ _ er3, ep4, sz5 (by simp), fun r4 hr4 => ?_⟩
    (generalize hG : L2.upd _ r4 _ = H4b; have sr4 := same_of hG hr4; have er4 := at_of hG; clear hG)
    have s4b := s4a.trans sr4
    refine ⟨_, rfl, _, rfl, a, cE K i, .ref (cE K 33), .ref (cE K 33), _, rfl, hl.same s4b, ks.ex i hi, (fun _ h => h), ks.kk i hi 33 (by decide), (by show 1 ≤ sizeLine; decide), fun p5 hp5 => ?_⟩
    (generalize hG : L2.upd _ p5 _ = H5a; have sp5 := same_of hG hp5; have ep5 := at_of hG; clear hG)
    have s5a := s4b.trans sp5
    refine ⟨r4, p5, _, _, rfl, rfl, sp5 _ _ er4, ep5, sz5 (by simp), fun r5 hr5 => ?_⟩
    (generalize hG : L2.upd _ r5 _ = H5b; have sr5 := same_of hG hr5; have er5 := at_of hG; clear hG)
    have s5b := s5a.trans sr5
    exact ⟨_, rfl, q _ r5 s5b (s5a.free hr5) er5⟩
end

end TS

namespace TS
open PySem PySem.Spec PyProof.Rows L2 TL
/-! ### families; the refusals made -/
def famL (i : Nat) : List Bool := [isE i 34, isE i 35, isE i 36, isE i 34, isE i 35, isE i 35 || isE i 36]
def famO (n : Nat) : List Bool := if n < 29 then [true, false, false, true, false, false] else if n < 31 then [false, true, false, false, true, true] else [false, false, true, false, false, true]
theorem fam_eq : ∀ i, i < 34 → famL i = famO i := by decide
def spFams (K : PySem.W.Frag) : Sp := fun vs H Q _ => ∃ (a : Addr) (i : Nat), vs = [.ref a] ∧ i < 37 ∧ Hld H a (cE K i) ∧ ∀ G p, Same H G → H p = none → G p = some (.lst ((famL i).map V.bl)) → Q (.ref p) G
def spFamOf : Sp := fun vs H Q _ => ∃ n : Nat, vs = [.int n] ∧ ∀ G p, Same H G → H p = none → G p = some (.lst ((famO n).map V.bl)) → Q (.ref p) G
def EAt (K : PySem.W.Frag) (G : Hp) (i : Nat) (a : Addr) (v : V) : Prop := (i ≠ 31 → ∃ d, G a = some (exo a (cE K i) (some d)) ∧ G d = some (exd d [(fldE.getD i "", v)])) ∧ (i = 31 → G a = some (exo a (cE K i) none))
theorem EAt.same {K : PySem.W.Frag} {H G : Hp} {i : Nat} {a : Addr} {v : V} (s : Same H G) (h : EAt K H i a v) : EAt K G i a v := ⟨fun n => let ⟨d, h1, h2⟩ := h.1 n; ⟨d, s _ _ h1, s _ _ h2⟩, fun n => s _ _ (h.2 n)⟩
theorem EAt.hld {K : PySem.W.Frag} {G : Hp} {i : Nat} {a : Addr} {v : V} (h : EAt K G i a v) : Hld G a (cE K i) := by
  by_cases c : i = 31
  · exact .inr (h.2 c)
  · obtain ⟨d, h1, h2⟩ := h.1 c
    exact .inl ⟨d, _, h1, h2⟩
theorem eat_new {H : Hp} {a d C : Addr} {f : Str} {v : V} (ha : H a = none) (hd : L2.upd H a (exo a C none) d = none) (nd : d ≠ a) :
    Same H (L2.upd (L2.upd (L2.upd H a (exo a C none)) d (exd d [(f, v)])) a (exo a C (some d))) ∧ (L2.upd (L2.upd (L2.upd H a (exo a C none)) d (exd d [(f, v)])) a (exo a C (some d))) a = some (exo a C (some d)) ∧
    (L2.upd (L2.upd (L2.upd H a (exo a C none)) d (exd d [(f, v)])) a (exo a C (some d))) d = some (exd d [(f, v)]) := by
  refine ⟨fun b o e => ?_, upd_same .., by rw [upd_ne nd, upd_same]⟩
  have nb : b ≠ a := ne_of_none e ha
  have nb2 : b ≠ d := ne_of_none (show L2.upd H a (exo a C none) b = some o by rw [upd_ne nb]; exact e) hd
  rw [upd_ne nb, upd_ne nb2, upd_ne nb]
  exact e
def spMade (K : PySem.W.Frag) (lo n : Nat) : Sp := fun vs H Q _ => ∃ v : V, vs = [v] ∧ ∀ (G : Hp) (L : Addr) (as : List Addr), Same H G → G L = some (.lst (as.map V.ref)) → H L = none → as.length = n → (∀ (j : Nat) (a : Addr), as[j]? = some a → EAt K G (lo + j) a v) → Q (.ref L) G
/-- what the head tells of the refusals' making -/
structure Inis (P : Program) (w : World) (K : PySem.W.Frag) (mg : Str → Option Value) (base : Heap) : Prop where
  g : ∀ i, i < 37 → mg (nmE.getD i "") = some (.ref (cE K i))
  o0 : ∀ i, i < 29 → OwnT K (cE K i) (fldE.getD i "") "ValueError.__new__" veT
  o1 : ∀ i, 29 ≤ i → i < 31 → OwnT K (cE K i) (fldE.getD i "") "LookupError.__new__" keyT
  o2 : ∀ i, 31 ≤ i → i < 34 → OwnT K (cE K i) (fldE.getD i "") "LookupError.__new__" lookT
  i : ∀ i, i < 34 → i ≠ 31 → PromA CX0 P w K mg base 1 (He.ma K (cE K i) "__init__") ["self", fldE.getD i ""] (spIni (cE K i) (fldE.getD i ""))
  m : PromA CX0 P w K mg base 1 (He.ma K (cE K 31) "__init__") ["self"] (spIni0 (cE K 31))
section
variable {P : Program} {w : World} {K : PySem.W.Frag} {mg : Str → Option Value} {base : Heap}
theorem sc__law_families : FnScope ["_law_e", "_law_own"] ["_law_e"] (defScope s__law_families) := ⟨rfl, rfl, rfl, by decide +kernel, rfl, by decide +kernel, by decide +kernel⟩

theorem ok_families (bt : Bt mg) (ks : Ks K) (gE : ∀ i, i < 37 → mg (nmE.getD i "") = some (.ref (cE K i))) (n_ValueError : mg "ValueError" = none) (n_KeyError : mg "KeyError" = none) (n_LookupError : mg "LookupError" = none) (D : Def K mg "_law_families" s__law_families) :
    Prom P w K mg base 1 "_law_families" ["_law_e"] (spFams K) := by
  have g_TermError : mg "TermError" = some (.ref (He.ga K "TermError")) := gE 34 (by decide)
  have g_Absent : mg "Absent" = some (.ref (He.ga K "Absent")) := gE 35 (by decide)
  have g_Ended : mg "Ended" = some (.ref (He.ga K "Ended")) := gE 36 (by decide)
  refine prom_mk D sc__law_families (fun vs H Q E h => ?_) (fun _ _ _ _ _ _ us hl => match us, hl with | [_], _ => rfl) (fun f cdv A outer s H vs Q E hr h => ?_)
  · obtain ⟨a, i, rfl, _⟩ := h
    rfl
  · obtain ⟨a, i, rfl, hi, hl, q⟩ := h
    refine ⟨_, (pss_cons (ps_set (i := 1) sc__law_families.nd rfl (Or.inl rfl) (pe_lst (pa_cons (pe_callB (id := "isinstance") (call_isH (K := K) rfl) (by rfl) bt.isinstance_ (by decide +kernel) (pa_cons (pv 0) (pa_cons (pe_glob (v := .ref (He.ga K "TermError")) rfl g_TermError rfl) pa_nil))) (pa_cons (pe_callB (id := "isinstance") (call_isH (K := K) rfl) (by rfl) bt.isinstance_ (by decide +kernel) (pa_cons (pv 0) (pa_cons (pe_glob (v := .ref (He.ga K "Absent")) rfl g_Absent rfl) pa_nil))) (pa_cons (pe_callB (id := "isinstance") (call_isH (K := K) rfl) (by rfl) bt.isinstance_ (by decide +kernel) (pa_cons (pv 0) (pa_cons (pe_glob (v := .ref (He.ga K "Ended")) rfl g_Ended rfl) pa_nil))) pa_nil)))))
      (pss_one (ps_ret (pe_op op_cat (pv 1) (pe_lst (pa_cons (pe_callB (id := "isinstance") (call_isH (K := K) rfl) (by rfl) bt.isinstance_ (by decide +kernel) (pa_cons (pv 0) (pa_cons (pe_bltn (v := .ty "ValueError") rfl n_ValueError (by decide +kernel) rfl) pa_nil))) (pa_cons (pe_callB (id := "isinstance") (call_isH (K := K) rfl) (by rfl) bt.isinstance_ (by decide +kernel) (pa_cons (pv 0) (pa_cons (pe_bltn (v := .ty "KeyError") rfl n_KeyError (by decide +kernel) rfl) pa_nil))) (pa_cons (pe_callB (id := "isinstance") (call_isH (K := K) rfl) (by rfl) bt.isinstance_ (by decide +kernel) (pa_cons (pv 0) (pa_cons (pe_bltn (v := .ty "LookupError") rfl n_LookupError (by decide +kernel) rfl) pa_nil))) pa_nil)))))))), ?_⟩
    have rt : ∀ (c : String) (u : Value), RelV (.ty c) u → u = .type c := fun c u h => h
    refine ⟨_, rfl, a, cE K i, .ref (cE K 34), .ref (cE K 34), _, rfl, hl, ks.ex i hi, (fun _ h => h), ks.kk i hi 34 (by decide), _, rfl, a, cE K i, .ref (cE K 35), .ref (cE K 35), _, rfl, hl, ks.ex i hi, (fun _ h => h), ks.kk i hi 35 (by decide), _, rfl, a, cE K i, .ref (cE K 36), .ref (cE K 36), _, rfl, hl, ks.ex i hi, (fun _ h => h), ks.kk i hi 36 (by decide), (by show 3 ≤ sizeLine; decide), fun p hp => ?_⟩
    (generalize hG : L2.upd _ p _ = H1; have sp := same_of hG hp; have ep := at_of hG; clear hG)
    have hl1 := hl.same sp
    refine ⟨_, rfl, _, rfl, a, cE K i, .ty "ValueError", _, _, rfl, hl1, ks.ex i hi, rt _, ks.kv i hi, _, rfl, a, cE K i, .ty "KeyError", _, _, rfl, hl1, ks.ex i hi, rt _, ks.ky i hi, _, rfl, a, cE K i, .ty "LookupError", _, _, rfl, hl1, ks.ex i hi, rt _, ks.kl i hi, (by show 3 ≤ sizeLine; decide), fun p2 hp2 => ?_⟩
    (generalize hG : L2.upd _ p2 _ = H2; have sp2 := same_of hG hp2; have ep2 := at_of hG; clear hG)
    refine ⟨p, p2, _, _, rfl, rfl, sp2 _ _ ep, ep2, sz5 (by simp), fun r hr => ?_⟩
    (generalize hG : L2.upd _ r _ = H3; have sr := same_of hG hr; have er := at_of hG; clear hG)
    exact q _ r ((sp.trans sp2).trans sr) (sp.free (sp2.free hr)) er
theorem sc__law_family_of : FnScope ["_law_place"] ["_law_place"] (defScope s__law_family_of) := ⟨rfl, rfl, rfl, by decide +kernel, rfl, by decide +kernel, by decide +kernel⟩

theorem ok_family_of (D : Def K mg "_law_family_of" s__law_family_of) : Prom P w K mg base 1 "_law_family_of" ["_law_place"] spFamOf := by
  refine prom_mk D sc__law_family_of (fun vs H Q E h => ?_) (fun _ _ _ _ _ _ us hl => match us, hl with | [_], _ => rfl) (fun f cdv A outer s H vs Q E hr h => ?_)
  · obtain ⟨n, rfl, _⟩ := h
    rfl
  · obtain ⟨n, rfl, q⟩ := h
    refine ⟨_, (pss_cons (ps_if (pt_cmpR op_lt (pv 0) pe_int (nomark _)) (pss_one (ps_ret (pe_lst (pa_cons pe_bl (pa_cons pe_bl (pa_cons pe_bl (pa_cons pe_bl (pa_cons pe_bl (pa_cons pe_bl pa_nil))))))))) pss_nil)
      (pss_cons (ps_if (pt_cmpR op_lt (pv 0) pe_int (nomark _)) (pss_one (ps_ret (pe_lst (pa_cons pe_bl (pa_cons pe_bl (pa_cons pe_bl (pa_cons pe_bl (pa_cons pe_bl (pa_cons pe_bl pa_nil))))))))) pss_nil)
      (pss_one (ps_ret (pe_lst (pa_cons pe_bl (pa_cons pe_bl (pa_cons pe_bl (pa_cons pe_bl (pa_cons pe_bl (pa_cons pe_bl pa_nil))))))))))), ?_⟩
    unfold famO at q
    refine ⟨_, rfl, _, _, rfl, rfl, _, rfl, ?_⟩
    by_cases c1 : n < 29
    · rw [if_pos c1] at q
      exact iteT' (decide_eq_true (by omega)) ⟨(by show 6 ≤ sizeLine; decide), fun p hp => q _ p (Same.new (Same.refl _) hp) hp (upd_same ..)⟩
    · rw [if_neg c1] at q
      refine iteF' (decide_eq_false (by omega)) ⟨_, rfl, _, _, rfl, rfl, _, rfl, ?_⟩
      by_cases c2 : n < 31
      · rw [if_pos c2] at q
        exact iteT' (decide_eq_true (by omega)) ⟨(by show 6 ≤ sizeLine; decide), fun p hp => q _ p (Same.new (Same.refl _) hp) hp (upd_same ..)⟩
      · rw [if_neg c2] at q
        exact iteF' (decide_eq_false (by omega)) ⟨(by show 6 ≤ sizeLine; decide), fun p hp => q _ p (Same.new (Same.refl _) hp) hp (upd_same ..)⟩
theorem sc__law_made_first : FnScope ["_law_one", "_law_gained"] ["_law_one"] (defScope s__law_made_first) := ⟨rfl, rfl, rfl, by decide +kernel, rfl, by decide +kernel, by decide +kernel⟩

set_option maxHeartbeats 2000000 in
theorem ok_madef (S : Inis P w K mg base) (D : Def K mg "_law_made_first" s__law_made_first) : Prom P w K mg base 3 "_law_made_first" ["_law_one"] (spMade K 0 18) := by
  have g_NoName : mg "NoName" = some (.ref (He.ga K "NoName")) := S.g 0 (by decide)
  have x_NoName : OwnT K (He.ga K "NoName") "found" "ValueError.__new__" veT := S.o0 0 (by decide)
  have pi_NoName : PromA CX0 P w K mg base 1 (He.ma K (He.ga K "NoName") "__init__") ["self", "found"] (spIni (He.ga K "NoName") "found") := S.i 0 (by decide) (by decide)
  have g_NoWords : mg "NoWords" = some (.ref (He.ga K "NoWords")) := S.g 1 (by decide)
  have x_NoWords : OwnT K (He.ga K "NoWords") "found" "ValueError.__new__" veT := S.o0 1 (by decide)
  have pi_NoWords : PromA CX0 P w K mg base 1 (He.ma K (He.ga K "NoWords") "__init__") ["self", "found"] (spIni (He.ga K "NoWords") "found") := S.i 1 (by decide) (by decide)
  have g_NoSigns : mg "NoSigns" = some (.ref (He.ga K "NoSigns")) := S.g 2 (by decide)
  have x_NoSigns : OwnT K (He.ga K "NoSigns") "found" "ValueError.__new__" veT := S.o0 2 (by decide)
  have pi_NoSigns : PromA CX0 P w K mg base 1 (He.ma K (He.ga K "NoSigns") "__init__") ["self", "found"] (spIni (He.ga K "NoSigns") "found") := S.i 2 (by decide) (by decide)
  have g_NoSign : mg "NoSign" = some (.ref (He.ga K "NoSign")) := S.g 3 (by decide)
  have x_NoSign : OwnT K (He.ga K "NoSign") "at" "ValueError.__new__" veT := S.o0 3 (by decide)
  have pi_NoSign : PromA CX0 P w K mg base 1 (He.ma K (He.ga K "NoSign") "__init__") ["self", "at"] (spIni (He.ga K "NoSign") "at") := S.i 3 (by decide) (by decide)
  have g_NoWord : mg "NoWord" = some (.ref (He.ga K "NoWord")) := S.g 4 (by decide)
  have x_NoWord : OwnT K (He.ga K "NoWord") "found" "ValueError.__new__" veT := S.o0 4 (by decide)
  have pi_NoWord : PromA CX0 P w K mg base 1 (He.ma K (He.ga K "NoWord") "__init__") ["self", "found"] (spIni (He.ga K "NoWord") "found") := S.i 4 (by decide) (by decide)
  have g_Beyond : mg "Beyond" = some (.ref (He.ga K "Beyond")) := S.g 5 (by decide)
  have x_Beyond : OwnT K (He.ga K "Beyond") "at" "ValueError.__new__" veT := S.o0 5 (by decide)
  have pi_Beyond : PromA CX0 P w K mg base 1 (He.ma K (He.ga K "Beyond") "__init__") ["self", "at"] (spIni (He.ga K "Beyond") "at") := S.i 5 (by decide) (by decide)
  have g_Unended : mg "Unended" = some (.ref (He.ga K "Unended")) := S.g 6 (by decide)
  have x_Unended : OwnT K (He.ga K "Unended") "many" "ValueError.__new__" veT := S.o0 6 (by decide)
  have pi_Unended : PromA CX0 P w K mg base 1 (He.ma K (He.ga K "Unended") "__init__") ["self", "many"] (spIni (He.ga K "Unended") "many") := S.i 6 (by decide) (by decide)
  have g_NoTerm : mg "NoTerm" = some (.ref (He.ga K "NoTerm")) := S.g 7 (by decide)
  have x_NoTerm : OwnT K (He.ga K "NoTerm") "found" "ValueError.__new__" veT := S.o0 7 (by decide)
  have pi_NoTerm : PromA CX0 P w K mg base 1 (He.ma K (He.ga K "NoTerm") "__init__") ["self", "found"] (spIni (He.ga K "NoTerm") "found") := S.i 7 (by decide) (by decide)
  have g_NoTerms : mg "NoTerms" = some (.ref (He.ga K "NoTerms")) := S.g 8 (by decide)
  have x_NoTerms : OwnT K (He.ga K "NoTerms") "found" "ValueError.__new__" veT := S.o0 8 (by decide)
  have pi_NoTerms : PromA CX0 P w K mg base 1 (He.ma K (He.ga K "NoTerms") "__init__") ["self", "found"] (spIni (He.ga K "NoTerms") "found") := S.i 8 (by decide) (by decide)
  have g_NoLetter : mg "NoLetter" = some (.ref (He.ga K "NoLetter")) := S.g 9 (by decide)
  have x_NoLetter : OwnT K (He.ga K "NoLetter") "found" "ValueError.__new__" veT := S.o0 9 (by decide)
  have pi_NoLetter : PromA CX0 P w K mg base 1 (He.ma K (He.ga K "NoLetter") "__init__") ["self", "found"] (spIni (He.ga K "NoLetter") "found") := S.i 9 (by decide) (by decide)
  have g_NoPairs : mg "NoPairs" = some (.ref (He.ga K "NoPairs")) := S.g 10 (by decide)
  have x_NoPairs : OwnT K (He.ga K "NoPairs") "found" "ValueError.__new__" veT := S.o0 10 (by decide)
  have pi_NoPairs : PromA CX0 P w K mg base 1 (He.ma K (He.ga K "NoPairs") "__init__") ["self", "found"] (spIni (He.ga K "NoPairs") "found") := S.i 10 (by decide) (by decide)
  have g_NoPutting : mg "NoPutting" = some (.ref (He.ga K "NoPutting")) := S.g 11 (by decide)
  have x_NoPutting : OwnT K (He.ga K "NoPutting") "found" "ValueError.__new__" veT := S.o0 11 (by decide)
  have pi_NoPutting : PromA CX0 P w K mg base 1 (He.ma K (He.ga K "NoPutting") "__init__") ["self", "found"] (spIni (He.ga K "NoPutting") "found") := S.i 11 (by decide) (by decide)
  have g_NoWay : mg "NoWay" = some (.ref (He.ga K "NoWay")) := S.g 12 (by decide)
  have x_NoWay : OwnT K (He.ga K "NoWay") "found" "ValueError.__new__" veT := S.o0 12 (by decide)
  have pi_NoWay : PromA CX0 P w K mg base 1 (He.ma K (He.ga K "NoWay") "__init__") ["self", "found"] (spIni (He.ga K "NoWay") "found") := S.i 12 (by decide) (by decide)
  have g_NoNumber : mg "NoNumber" = some (.ref (He.ga K "NoNumber")) := S.g 13 (by decide)
  have x_NoNumber : OwnT K (He.ga K "NoNumber") "found" "ValueError.__new__" veT := S.o0 13 (by decide)
  have pi_NoNumber : PromA CX0 P w K mg base 1 (He.ma K (He.ga K "NoNumber") "__init__") ["self", "found"] (spIni (He.ga K "NoNumber") "found") := S.i 13 (by decide) (by decide)
  have g_NoTruth : mg "NoTruth" = some (.ref (He.ga K "NoTruth")) := S.g 14 (by decide)
  have x_NoTruth : OwnT K (He.ga K "NoTruth") "found" "ValueError.__new__" veT := S.o0 14 (by decide)
  have pi_NoTruth : PromA CX0 P w K mg base 1 (He.ma K (He.ga K "NoTruth") "__init__") ["self", "found"] (spIni (He.ga K "NoTruth") "found") := S.i 14 (by decide) (by decide)
  have g_NoNote : mg "NoNote" = some (.ref (He.ga K "NoNote")) := S.g 15 (by decide)
  have x_NoNote : OwnT K (He.ga K "NoNote") "found" "ValueError.__new__" veT := S.o0 15 (by decide)
  have pi_NoNote : PromA CX0 P w K mg base 1 (He.ma K (He.ga K "NoNote") "__init__") ["self", "found"] (spIni (He.ga K "NoNote") "found") := S.i 15 (by decide) (by decide)
  have g_NoList : mg "NoList" = some (.ref (He.ga K "NoList")) := S.g 16 (by decide)
  have x_NoList : OwnT K (He.ga K "NoList") "found" "ValueError.__new__" veT := S.o0 16 (by decide)
  have pi_NoList : PromA CX0 P w K mg base 1 (He.ma K (He.ga K "NoList") "__init__") ["self", "found"] (spIni (He.ga K "NoList") "found") := S.i 16 (by decide) (by decide)
  have g_NoAsk : mg "NoAsk" = some (.ref (He.ga K "NoAsk")) := S.g 17 (by decide)
  have x_NoAsk : OwnT K (He.ga K "NoAsk") "found" "ValueError.__new__" veT := S.o0 17 (by decide)
  have pi_NoAsk : PromA CX0 P w K mg base 1 (He.ma K (He.ga K "NoAsk") "__init__") ["self", "found"] (spIni (He.ga K "NoAsk") "found") := S.i 17 (by decide) (by decide)
  refine prom_mk D sc__law_made_first (fun vs H Q E h => ?_) (fun _ _ _ _ _ _ us hl => match us, hl with | [_], _ => rfl) (fun f cdv A outer s H vs Q E hr h => ?_)
  · obtain ⟨v, rfl, _⟩ := h
    rfl
  · obtain ⟨v, rfl, q⟩ := h
    refine ⟨_, (pss_cons (ps_set (i := 1) sc__law_made_first.nd rfl (Or.inl rfl) (pe_lst (pa_cons (pe_exV bas_VE x_NoName pi_NoName (hr.mono (by decide)) rfl g_NoName (pa_cons (pv 0) pa_nil)) (pa_cons (pe_exV bas_VE x_NoWords pi_NoWords (hr.mono (by decide)) rfl g_NoWords (pa_cons (pv 0) pa_nil)) (pa_cons (pe_exV bas_VE x_NoSigns pi_NoSigns (hr.mono (by decide)) rfl g_NoSigns (pa_cons (pv 0) pa_nil)) pa_nil)))))
      (pss_cons (ps_set (i := 1) sc__law_made_first.nd rfl (Or.inl rfl) (pe_op op_cat (pv 1) (pe_lst (pa_cons (pe_exV bas_VE x_NoSign pi_NoSign (hr.mono (by decide)) rfl g_NoSign (pa_cons (pv 0) pa_nil)) (pa_cons (pe_exV bas_VE x_NoWord pi_NoWord (hr.mono (by decide)) rfl g_NoWord (pa_cons (pv 0) pa_nil)) (pa_cons (pe_exV bas_VE x_Beyond pi_Beyond (hr.mono (by decide)) rfl g_Beyond (pa_cons (pv 0) pa_nil)) pa_nil))))))
      (pss_cons (ps_set (i := 1) sc__law_made_first.nd rfl (Or.inl rfl) (pe_op op_cat (pv 1) (pe_lst (pa_cons (pe_exV bas_VE x_Unended pi_Unended (hr.mono (by decide)) rfl g_Unended (pa_cons (pv 0) pa_nil)) (pa_cons (pe_exV bas_VE x_NoTerm pi_NoTerm (hr.mono (by decide)) rfl g_NoTerm (pa_cons (pv 0) pa_nil)) (pa_cons (pe_exV bas_VE x_NoTerms pi_NoTerms (hr.mono (by decide)) rfl g_NoTerms (pa_cons (pv 0) pa_nil)) pa_nil))))))
      (pss_cons (ps_set (i := 1) sc__law_made_first.nd rfl (Or.inl rfl) (pe_op op_cat (pv 1) (pe_lst (pa_cons (pe_exV bas_VE x_NoLetter pi_NoLetter (hr.mono (by decide)) rfl g_NoLetter (pa_cons (pv 0) pa_nil)) (pa_cons (pe_exV bas_VE x_NoPairs pi_NoPairs (hr.mono (by decide)) rfl g_NoPairs (pa_cons (pv 0) pa_nil)) (pa_cons (pe_exV bas_VE x_NoPutting pi_NoPutting (hr.mono (by decide)) rfl g_NoPutting (pa_cons (pv 0) pa_nil)) pa_nil))))))
      (pss_cons (ps_set (i := 1) sc__law_made_first.nd rfl (Or.inl rfl) (pe_op op_cat (pv 1) (pe_lst (pa_cons (pe_exV bas_VE x_NoWay pi_NoWay (hr.mono (by decide)) rfl g_NoWay (pa_cons (pv 0) pa_nil)) (pa_cons (pe_exV bas_VE x_NoNumber pi_NoNumber (hr.mono (by decide)) rfl g_NoNumber (pa_cons (pv 0) pa_nil)) (pa_cons (pe_exV bas_VE x_NoTruth pi_NoTruth (hr.mono (by decide)) rfl g_NoTruth (pa_cons (pv 0) pa_nil)) pa_nil))))))
      (pss_cons (ps_set (i := 1) sc__law_made_first.nd rfl (Or.inl rfl) (pe_op op_cat (pv 1) (pe_lst (pa_cons (pe_exV bas_VE x_NoNote pi_NoNote (hr.mono (by decide)) rfl g_NoNote (pa_cons (pv 0) pa_nil)) (pa_cons (pe_exV bas_VE x_NoList pi_NoList (hr.mono (by decide)) rfl g_NoList (pa_cons (pv 0) pa_nil)) (pa_cons (pe_exV bas_VE x_NoAsk pi_NoAsk (hr.mono (by decide)) rfl g_NoAsk (pa_cons (pv 0) pa_nil)) pa_nil))))))
      (pss_one (ps_ret (pv 1))))))))), ?_⟩
    refine ⟨_, rfl, (by show 1 ≤ 1000; decide), fun a0 ha0 => ⟨a0, _, rfl, upd_same .., fun d0 hd0 nd0 => ⟨rfl, ?_⟩⟩⟩
    obtain ⟨t0, e0, x0⟩ := eat_new (C := cE K 0) (f := fldE.getD 0 "") (v := v) ha0 hd0 nd0
    show _
    (generalize hG : L2.upd (L2.upd (L2.upd _ a0 _) d0 _) a0 _ = G0; rw [show L2.upd (L2.upd (L2.upd _ a0 (exo a0 (cE K 0) none)) d0 (exd d0 [(fldE.getD 0 "", v)])) a0 (exo a0 (cE K 0) (some d0)) = G0 from hG] at t0 e0 x0; clear hG ha0 hd0 nd0)
    refine ⟨_, rfl, (by show 1 ≤ 1000; decide), fun a1 ha1 => ⟨a1, _, rfl, upd_same .., fun d1 hd1 nd1 => ⟨rfl, ?_⟩⟩⟩
    obtain ⟨t1, e1, x1⟩ := eat_new (C := cE K 1) (f := fldE.getD 1 "") (v := v) ha1 hd1 nd1
    show _
    (generalize hG : L2.upd (L2.upd (L2.upd _ a1 _) d1 _) a1 _ = G1; rw [show L2.upd (L2.upd (L2.upd _ a1 (exo a1 (cE K 1) none)) d1 (exd d1 [(fldE.getD 1 "", v)])) a1 (exo a1 (cE K 1) (some d1)) = G1 from hG] at t1 e1 x1; clear hG ha1 hd1 nd1)
    refine ⟨_, rfl, (by show 1 ≤ 1000; decide), fun a2 ha2 => ⟨a2, _, rfl, upd_same .., fun d2 hd2 nd2 => ⟨rfl, ?_⟩⟩⟩
    obtain ⟨t2, e2, x2⟩ := eat_new (C := cE K 2) (f := fldE.getD 2 "") (v := v) ha2 hd2 nd2
    show _
    (generalize hG : L2.upd (L2.upd (L2.upd _ a2 _) d2 _) a2 _ = G2; rw [show L2.upd (L2.upd (L2.upd _ a2 (exo a2 (cE K 2) none)) d2 (exd d2 [(fldE.getD 2 "", v)])) a2 (exo a2 (cE K 2) (some d2)) = G2 from hG] at t2 e2 x2; clear hG ha2 hd2 nd2)
    refine ⟨(by show 3 ≤ sizeLine; decide), fun p0 hp0 => ?_⟩
    (generalize hG : L2.upd _ p0 _ = P0; have sp0 := same_of hG hp0; have ep0 := at_of hG; clear hG)
    refine ⟨_, rfl, ?_⟩
    refine ⟨_, rfl, (by show 1 ≤ 1000; decide), fun a3 ha3 => ⟨a3, _, rfl, upd_same .., fun d3 hd3 nd3 => ⟨rfl, ?_⟩⟩⟩
    obtain ⟨t3, e3, x3⟩ := eat_new (C := cE K 3) (f := fldE.getD 3 "") (v := v) ha3 hd3 nd3
    show _
    (generalize hG : L2.upd (L2.upd (L2.upd _ a3 _) d3 _) a3 _ = G3; rw [show L2.upd (L2.upd (L2.upd _ a3 (exo a3 (cE K 3) none)) d3 (exd d3 [(fldE.getD 3 "", v)])) a3 (exo a3 (cE K 3) (some d3)) = G3 from hG] at t3 e3 x3; clear hG ha3 hd3 nd3)
    refine ⟨_, rfl, (by show 1 ≤ 1000; decide), fun a4 ha4 => ⟨a4, _, rfl, upd_same .., fun d4 hd4 nd4 => ⟨rfl, ?_⟩⟩⟩
    obtain ⟨t4, e4, x4⟩ := eat_new (C := cE K 4) (f := fldE.getD 4 "") (v := v) ha4 hd4 nd4
    show _
    (generalize hG : L2.upd (L2.upd (L2.upd _ a4 _) d4 _) a4 _ = G4; rw [show L2.upd (L2.upd (L2.upd _ a4 (exo a4 (cE K 4) none)) d4 (exd d4 [(fldE.getD 4 "", v)])) a4 (exo a4 (cE K 4) (some d4)) = G4 from hG] at t4 e4 x4; clear hG ha4 hd4 nd4)
    refine ⟨_, rfl, (by show 1 ≤ 1000; decide), fun a5 ha5 => ⟨a5, _, rfl, upd_same .., fun d5 hd5 nd5 => ⟨rfl, ?_⟩⟩⟩
    obtain ⟨t5, e5, x5⟩ := eat_new (C := cE K 5) (f := fldE.getD 5 "") (v := v) ha5 hd5 nd5
    show _
    (generalize hG : L2.upd (L2.upd (L2.upd _ a5 _) d5 _) a5 _ = G5; rw [show L2.upd (L2.upd (L2.upd _ a5 (exo a5 (cE K 5) none)) d5 (exd d5 [(fldE.getD 5 "", v)])) a5 (exo a5 (cE K 5) (some d5)) = G5 from hG] at t5 e5 x5; clear hG ha5 hd5 nd5)
    refine ⟨(by show 3 ≤ sizeLine; decide), fun p1 hp1 => ?_⟩
    (generalize hG : L2.upd _ p1 _ = P1; have sp1 := same_of hG hp1; have ep1 := at_of hG; clear hG)
    have keep1 := (Same.trans t3 (Same.trans t4 (Same.trans t5 (sp1)))) _ _ ep0
    refine ⟨p0, p1, _, _, rfl, rfl, keep1, ep1, sz5 (by simp), fun r1 hr1 => ?_⟩
    (generalize hG : L2.upd _ r1 _ = R1; have sr1 := same_of hG hr1; have er1 := at_of hG; clear hG)
    refine ⟨_, rfl, ?_⟩
    refine ⟨_, rfl, (by show 1 ≤ 1000; decide), fun a6 ha6 => ⟨a6, _, rfl, upd_same .., fun d6 hd6 nd6 => ⟨rfl, ?_⟩⟩⟩
    obtain ⟨t6, e6, x6⟩ := eat_new (C := cE K 6) (f := fldE.getD 6 "") (v := v) ha6 hd6 nd6
    show _
    (generalize hG : L2.upd (L2.upd (L2.upd _ a6 _) d6 _) a6 _ = G6; rw [show L2.upd (L2.upd (L2.upd _ a6 (exo a6 (cE K 6) none)) d6 (exd d6 [(fldE.getD 6 "", v)])) a6 (exo a6 (cE K 6) (some d6)) = G6 from hG] at t6 e6 x6; clear hG ha6 hd6 nd6)
    refine ⟨_, rfl, (by show 1 ≤ 1000; decide), fun a7 ha7 => ⟨a7, _, rfl, upd_same .., fun d7 hd7 nd7 => ⟨rfl, ?_⟩⟩⟩
    obtain ⟨t7, e7, x7⟩ := eat_new (C := cE K 7) (f := fldE.getD 7 "") (v := v) ha7 hd7 nd7
    show _
    (generalize hG : L2.upd (L2.upd (L2.upd _ a7 _) d7 _) a7 _ = G7; rw [show L2.upd (L2.upd (L2.upd _ a7 (exo a7 (cE K 7) none)) d7 (exd d7 [(fldE.getD 7 "", v)])) a7 (exo a7 (cE K 7) (some d7)) = G7 from hG] at t7 e7 x7; clear hG ha7 hd7 nd7)
    refine ⟨_, rfl, (by show 1 ≤ 1000; decide), fun a8 ha8 => ⟨a8, _, rfl, upd_same .., fun d8 hd8 nd8 => ⟨rfl, ?_⟩⟩⟩
    obtain ⟨t8, e8, x8⟩ := eat_new (C := cE K 8) (f := fldE.getD 8 "") (v := v) ha8 hd8 nd8
    show _
    (generalize hG : L2.upd (L2.upd (L2.upd _ a8 _) d8 _) a8 _ = G8; rw [show L2.upd (L2.upd (L2.upd _ a8 (exo a8 (cE K 8) none)) d8 (exd d8 [(fldE.getD 8 "", v)])) a8 (exo a8 (cE K 8) (some d8)) = G8 from hG] at t8 e8 x8; clear hG ha8 hd8 nd8)
    refine ⟨(by show 3 ≤ sizeLine; decide), fun p2 hp2 => ?_⟩
    (generalize hG : L2.upd _ p2 _ = P2; have sp2 := same_of hG hp2; have ep2 := at_of hG; clear hG)
    have keep2 := (Same.trans t6 (Same.trans t7 (Same.trans t8 (sp2)))) _ _ er1
    refine ⟨r1, p2, _, _, rfl, rfl, keep2, ep2, sz5 (by simp), fun r2 hr2 => ?_⟩
    (generalize hG : L2.upd _ r2 _ = R2; have sr2 := same_of hG hr2; have er2 := at_of hG; clear hG)
    refine ⟨_, rfl, ?_⟩
    refine ⟨_, rfl, (by show 1 ≤ 1000; decide), fun a9 ha9 => ⟨a9, _, rfl, upd_same .., fun d9 hd9 nd9 => ⟨rfl, ?_⟩⟩⟩
    obtain ⟨t9, e9, x9⟩ := eat_new (C := cE K 9) (f := fldE.getD 9 "") (v := v) ha9 hd9 nd9
    show _
    (generalize hG : L2.upd (L2.upd (L2.upd _ a9 _) d9 _) a9 _ = G9; rw [show L2.upd (L2.upd (L2.upd _ a9 (exo a9 (cE K 9) none)) d9 (exd d9 [(fldE.getD 9 "", v)])) a9 (exo a9 (cE K 9) (some d9)) = G9 from hG] at t9 e9 x9; clear hG ha9 hd9 nd9)
    refine ⟨_, rfl, (by show 1 ≤ 1000; decide), fun a10 ha10 => ⟨a10, _, rfl, upd_same .., fun d10 hd10 nd10 => ⟨rfl, ?_⟩⟩⟩
    obtain ⟨t10, e10, x10⟩ := eat_new (C := cE K 10) (f := fldE.getD 10 "") (v := v) ha10 hd10 nd10
    show _
    (generalize hG : L2.upd (L2.upd (L2.upd _ a10 _) d10 _) a10 _ = G10; rw [show L2.upd (L2.upd (L2.upd _ a10 (exo a10 (cE K 10) none)) d10 (exd d10 [(fldE.getD 10 "", v)])) a10 (exo a10 (cE K 10) (some d10)) = G10 from hG] at t10 e10 x10; clear hG ha10 hd10 nd10)
    refine ⟨_, rfl, (by show 1 ≤ 1000; decide), fun a11 ha11 => ⟨a11, _, rfl, upd_same .., fun d11 hd11 nd11 => ⟨rfl, ?_⟩⟩⟩
    obtain ⟨t11, e11, x11⟩ := eat_new (C := cE K 11) (f := fldE.getD 11 "") (v := v) ha11 hd11 nd11
    show _
    (generalize hG : L2.upd (L2.upd (L2.upd _ a11 _) d11 _) a11 _ = G11; rw [show L2.upd (L2.upd (L2.upd _ a11 (exo a11 (cE K 11) none)) d11 (exd d11 [(fldE.getD 11 "", v)])) a11 (exo a11 (cE K 11) (some d11)) = G11 from hG] at t11 e11 x11; clear hG ha11 hd11 nd11)
    refine ⟨(by show 3 ≤ sizeLine; decide), fun p3 hp3 => ?_⟩
    (generalize hG : L2.upd _ p3 _ = P3; have sp3 := same_of hG hp3; have ep3 := at_of hG; clear hG)
    have keep3 := (Same.trans t9 (Same.trans t10 (Same.trans t11 (sp3)))) _ _ er2
    refine ⟨r2, p3, _, _, rfl, rfl, keep3, ep3, sz5 (by simp), fun r3 hr3 => ?_⟩
    (generalize hG : L2.upd _ r3 _ = R3; have sr3 := same_of hG hr3; have er3 := at_of hG; clear hG)
    refine ⟨_, rfl, ?_⟩
    refine ⟨_, rfl, (by show 1 ≤ 1000; decide), fun a12 ha12 => ⟨a12, _, rfl, upd_same .., fun d12 hd12 nd12 => ⟨rfl, ?_⟩⟩⟩
    obtain ⟨t12, e12, x12⟩ := eat_new (C := cE K 12) (f := fldE.getD 12 "") (v := v) ha12 hd12 nd12
    show _
    (generalize hG : L2.upd (L2.upd (L2.upd _ a12 _) d12 _) a12 _ = G12; rw [show L2.upd (L2.upd (L2.upd _ a12 (exo a12 (cE K 12) none)) d12 (exd d12 [(fldE.getD 12 "", v)])) a12 (exo a12 (cE K 12) (some d12)) = G12 from hG] at t12 e12 x12; clear hG ha12 hd12 nd12)
    refine ⟨_, rfl, (by show 1 ≤ 1000; decide), fun a13 ha13 => ⟨a13, _, rfl, upd_same .., fun d13 hd13 nd13 => ⟨rfl, ?_⟩⟩⟩
    obtain ⟨t13, e13, x13⟩ := eat_new (C := cE K 13) (f := fldE.getD 13 "") (v := v) ha13 hd13 nd13
    show _
    (generalize hG : L2.upd (L2.upd (L2.upd _ a13 _) d13 _) a13 _ = G13; rw [show L2.upd (L2.upd (L2.upd _ a13 (exo a13 (cE K 13) none)) d13 (exd d13 [(fldE.getD 13 "", v)])) a13 (exo a13 (cE K 13) (some d13)) = G13 from hG] at t13 e13 x13; clear hG ha13 hd13 nd13)
    refine ⟨_, rfl, (by show 1 ≤ 1000; decide), fun a14 ha14 => ⟨a14, _, rfl, upd_same .., fun d14 hd14 nd14 => ⟨rfl, ?_⟩⟩⟩
    obtain ⟨t14, e14, x14⟩ := eat_new (C := cE K 14) (f := fldE.getD 14 "") (v := v) ha14 hd14 nd14
    show _
    (generalize hG : L2.upd (L2.upd (L2.upd _ a14 _) d14 _) a14 _ = G14; rw [show L2.upd (L2.upd (L2.upd _ a14 (exo a14 (cE K 14) none)) d14 (exd d14 [(fldE.getD 14 "", v)])) a14 (exo a14 (cE K 14) (some d14)) = G14 from hG] at t14 e14 x14; clear hG ha14 hd14 nd14)
    refine ⟨(by show 3 ≤ sizeLine; decide), fun p4 hp4 => ?_⟩
    (generalize hG : L2.upd _ p4 _ = P4; have sp4 := same_of hG hp4; have ep4 := at_of hG; clear hG)
    have keep4 := (Same.trans t12 (Same.trans t13 (Same.trans t14 (sp4)))) _ _ er3
    refine ⟨r3, p4, _, _, rfl, rfl, keep4, ep4, sz5 (by simp), fun r4 hr4 => ?_⟩
    (generalize hG : L2.upd _ r4 _ = R4; have sr4 := same_of hG hr4; have er4 := at_of hG; clear hG)
    refine ⟨_, rfl, ?_⟩
    refine ⟨_, rfl, (by show 1 ≤ 1000; decide), fun a15 ha15 => ⟨a15, _, rfl, upd_same .., fun d15 hd15 nd15 => ⟨rfl, ?_⟩⟩⟩
    obtain ⟨t15, e15, x15⟩ := eat_new (C := cE K 15) (f := fldE.getD 15 "") (v := v) ha15 hd15 nd15
    show _
    (generalize hG : L2.upd (L2.upd (L2.upd _ a15 _) d15 _) a15 _ = G15; rw [show L2.upd (L2.upd (L2.upd _ a15 (exo a15 (cE K 15) none)) d15 (exd d15 [(fldE.getD 15 "", v)])) a15 (exo a15 (cE K 15) (some d15)) = G15 from hG] at t15 e15 x15; clear hG ha15 hd15 nd15)
    refine ⟨_, rfl, (by show 1 ≤ 1000; decide), fun a16 ha16 => ⟨a16, _, rfl, upd_same .., fun d16 hd16 nd16 => ⟨rfl, ?_⟩⟩⟩
    obtain ⟨t16, e16, x16⟩ := eat_new (C := cE K 16) (f := fldE.getD 16 "") (v := v) ha16 hd16 nd16
    show _
    (generalize hG : L2.upd (L2.upd (L2.upd _ a16 _) d16 _) a16 _ = G16; rw [show L2.upd (L2.upd (L2.upd _ a16 (exo a16 (cE K 16) none)) d16 (exd d16 [(fldE.getD 16 "", v)])) a16 (exo a16 (cE K 16) (some d16)) = G16 from hG] at t16 e16 x16; clear hG ha16 hd16 nd16)
    refine ⟨_, rfl, (by show 1 ≤ 1000; decide), fun a17 ha17 => ⟨a17, _, rfl, upd_same .., fun d17 hd17 nd17 => ⟨rfl, ?_⟩⟩⟩
    obtain ⟨t17, e17, x17⟩ := eat_new (C := cE K 17) (f := fldE.getD 17 "") (v := v) ha17 hd17 nd17
    show _
    (generalize hG : L2.upd (L2.upd (L2.upd _ a17 _) d17 _) a17 _ = G17; rw [show L2.upd (L2.upd (L2.upd _ a17 (exo a17 (cE K 17) none)) d17 (exd d17 [(fldE.getD 17 "", v)])) a17 (exo a17 (cE K 17) (some d17)) = G17 from hG] at t17 e17 x17; clear hG ha17 hd17 nd17)
    refine ⟨(by show 3 ≤ sizeLine; decide), fun p5 hp5 => ?_⟩
    (generalize hG : L2.upd _ p5 _ = P5; have sp5 := same_of hG hp5; have ep5 := at_of hG; clear hG)
    have keep5 := (Same.trans t15 (Same.trans t16 (Same.trans t17 (sp5)))) _ _ er4
    refine ⟨r4, p5, _, _, rfl, rfl, keep5, ep5, sz5 (by simp), fun r5 hr5 => ?_⟩
    (generalize hG : L2.upd _ r5 _ = R5; have sr5 := same_of hG hr5; have er5 := at_of hG; clear hG)
    have z28 := sr5
    have z27 := Same.trans sp5 z28
    have z26 := Same.trans t17 z27
    have z25 := Same.trans t16 z26
    have z24 := Same.trans t15 z25
    have z23 := Same.trans sr4 z24
    have z22 := Same.trans sp4 z23
    have z21 := Same.trans t14 z22
    have z20 := Same.trans t13 z21
    have z19 := Same.trans t12 z20
    have z18 := Same.trans sr3 z19
    have z17 := Same.trans sp3 z18
    have z16 := Same.trans t11 z17
    have z15 := Same.trans t10 z16
    have z14 := Same.trans t9 z15
    have z13 := Same.trans sr2 z14
    have z12 := Same.trans sp2 z13
    have z11 := Same.trans t8 z12
    have z10 := Same.trans t7 z11
    have z9 := Same.trans t6 z10
    have z8 := Same.trans sr1 z9
    have z7 := Same.trans sp1 z8
    have z6 := Same.trans t5 z7
    have z5 := Same.trans t4 z6
    have z4 := Same.trans t3 z5
    have z3 := Same.trans sp0 z4
    have z2 := Same.trans t2 z3
    have z1 := Same.trans t1 z2
    have z0 := Same.trans t0 z1
    refine ⟨_, rfl, q _ r5 [a0, a1, a2, a3, a4, a5, a6, a7, a8, a9, a10, a11, a12, a13, a14, a15, a16, a17] z0 er5 (t0.free (t1.free (t2.free (sp0.free (t3.free (t4.free (t5.free (sp1.free (sr1.free (t6.free (t7.free (t8.free (sp2.free (sr2.free (t9.free (t10.free (t11.free (sp3.free (sr3.free (t12.free (t13.free (t14.free (sp4.free (sr4.free (t15.free (t16.free (t17.free (sp5.free hr5)))))))))))))))))))))))))))) rfl fun j a ej => ?_⟩
    match j, ej with
    | 0, ej => cases ej; exact ⟨fun _ => ⟨d0, z1 _ _ e0, z1 _ _ x0⟩, fun h => absurd h (by decide)⟩
    | 1, ej => cases ej; exact ⟨fun _ => ⟨d1, z2 _ _ e1, z2 _ _ x1⟩, fun h => absurd h (by decide)⟩
    | 2, ej => cases ej; exact ⟨fun _ => ⟨d2, z3 _ _ e2, z3 _ _ x2⟩, fun h => absurd h (by decide)⟩
    | 3, ej => cases ej; exact ⟨fun _ => ⟨d3, z5 _ _ e3, z5 _ _ x3⟩, fun h => absurd h (by decide)⟩
    | 4, ej => cases ej; exact ⟨fun _ => ⟨d4, z6 _ _ e4, z6 _ _ x4⟩, fun h => absurd h (by decide)⟩
    | 5, ej => cases ej; exact ⟨fun _ => ⟨d5, z7 _ _ e5, z7 _ _ x5⟩, fun h => absurd h (by decide)⟩
    | 6, ej => cases ej; exact ⟨fun _ => ⟨d6, z10 _ _ e6, z10 _ _ x6⟩, fun h => absurd h (by decide)⟩
    | 7, ej => cases ej; exact ⟨fun _ => ⟨d7, z11 _ _ e7, z11 _ _ x7⟩, fun h => absurd h (by decide)⟩
    | 8, ej => cases ej; exact ⟨fun _ => ⟨d8, z12 _ _ e8, z12 _ _ x8⟩, fun h => absurd h (by decide)⟩
    | 9, ej => cases ej; exact ⟨fun _ => ⟨d9, z15 _ _ e9, z15 _ _ x9⟩, fun h => absurd h (by decide)⟩
    | 10, ej => cases ej; exact ⟨fun _ => ⟨d10, z16 _ _ e10, z16 _ _ x10⟩, fun h => absurd h (by decide)⟩
    | 11, ej => cases ej; exact ⟨fun _ => ⟨d11, z17 _ _ e11, z17 _ _ x11⟩, fun h => absurd h (by decide)⟩
    | 12, ej => cases ej; exact ⟨fun _ => ⟨d12, z20 _ _ e12, z20 _ _ x12⟩, fun h => absurd h (by decide)⟩
    | 13, ej => cases ej; exact ⟨fun _ => ⟨d13, z21 _ _ e13, z21 _ _ x13⟩, fun h => absurd h (by decide)⟩
    | 14, ej => cases ej; exact ⟨fun _ => ⟨d14, z22 _ _ e14, z22 _ _ x14⟩, fun h => absurd h (by decide)⟩
    | 15, ej => cases ej; exact ⟨fun _ => ⟨d15, z25 _ _ e15, z25 _ _ x15⟩, fun h => absurd h (by decide)⟩
    | 16, ej => cases ej; exact ⟨fun _ => ⟨d16, z26 _ _ e16, z26 _ _ x16⟩, fun h => absurd h (by decide)⟩
    | 17, ej => cases ej; exact ⟨fun _ => ⟨d17, z27 _ _ e17, z27 _ _ x17⟩, fun h => absurd h (by decide)⟩
    | _ + 18, ej => simp at ej
theorem sc__law_made_last : FnScope ["_law_one", "_law_gained"] ["_law_one"] (defScope s__law_made_last) := ⟨rfl, rfl, rfl, by decide +kernel, rfl, by decide +kernel, by decide +kernel⟩

set_option maxHeartbeats 2000000 in
theorem ok_madel (S : Inis P w K mg base) (D : Def K mg "_law_made_last" s__law_made_last) : Prom P w K mg base 3 "_law_made_last" ["_law_one"] (spMade K 18 16) := by
  have g_NoRule : mg "NoRule" = some (.ref (He.ga K "NoRule")) := S.g 18 (by decide)
  have x_NoRule : OwnT K (He.ga K "NoRule") "found" "ValueError.__new__" veT := S.o0 18 (by decide)
  have pi_NoRule : PromA CX0 P w K mg base 1 (He.ma K (He.ga K "NoRule") "__init__") ["self", "found"] (spIni (He.ga K "NoRule") "found") := S.i 18 (by decide) (by decide)
  have g_NoRules : mg "NoRules" = some (.ref (He.ga K "NoRules")) := S.g 19 (by decide)
  have x_NoRules : OwnT K (He.ga K "NoRules") "found" "ValueError.__new__" veT := S.o0 19 (by decide)
  have pi_NoRules : PromA CX0 P w K mg base 1 (He.ma K (He.ga K "NoRules") "__init__") ["self", "found"] (spIni (He.ga K "NoRules") "found") := S.i 19 (by decide) (by decide)
  have g_NoRow : mg "NoRow" = some (.ref (He.ga K "NoRow")) := S.g 20 (by decide)
  have x_NoRow : OwnT K (He.ga K "NoRow") "found" "ValueError.__new__" veT := S.o0 20 (by decide)
  have pi_NoRow : PromA CX0 P w K mg base 1 (He.ma K (He.ga K "NoRow") "__init__") ["self", "found"] (spIni (He.ga K "NoRow") "found") := S.i 20 (by decide) (by decide)
  have g_NoShelf : mg "NoShelf" = some (.ref (He.ga K "NoShelf")) := S.g 21 (by decide)
  have x_NoShelf : OwnT K (He.ga K "NoShelf") "found" "ValueError.__new__" veT := S.o0 21 (by decide)
  have pi_NoShelf : PromA CX0 P w K mg base 1 (He.ma K (He.ga K "NoShelf") "__init__") ["self", "found"] (spIni (He.ga K "NoShelf") "found") := S.i 21 (by decide) (by decide)
  have g_NoDeed : mg "NoDeed" = some (.ref (He.ga K "NoDeed")) := S.g 22 (by decide)
  have x_NoDeed : OwnT K (He.ga K "NoDeed") "at" "ValueError.__new__" veT := S.o0 22 (by decide)
  have pi_NoDeed : PromA CX0 P w K mg base 1 (He.ma K (He.ga K "NoDeed") "__init__") ["self", "at"] (spIni (He.ga K "NoDeed") "at") := S.i 22 (by decide) (by decide)
  have g_NoText : mg "NoText" = some (.ref (He.ga K "NoText")) := S.g 23 (by decide)
  have x_NoText : OwnT K (He.ga K "NoText") "row" "ValueError.__new__" veT := S.o0 23 (by decide)
  have pi_NoText : PromA CX0 P w K mg base 1 (He.ma K (He.ga K "NoText") "__init__") ["self", "row"] (spIni (He.ga K "NoText") "row") := S.i 23 (by decide) (by decide)
  have g_NoLine : mg "NoLine" = some (.ref (He.ga K "NoLine")) := S.g 24 (by decide)
  have x_NoLine : OwnT K (He.ga K "NoLine") "found" "ValueError.__new__" veT := S.o0 24 (by decide)
  have pi_NoLine : PromA CX0 P w K mg base 1 (He.ma K (He.ga K "NoLine") "__init__") ["self", "found"] (spIni (He.ga K "NoLine") "found") := S.i 24 (by decide) (by decide)
  have g_Unlike : mg "Unlike" = some (.ref (He.ga K "Unlike")) := S.g 25 (by decide)
  have x_Unlike : OwnT K (He.ga K "Unlike") "found" "ValueError.__new__" veT := S.o0 25 (by decide)
  have pi_Unlike : PromA CX0 P w K mg base 1 (He.ma K (He.ga K "Unlike") "__init__") ["self", "found"] (spIni (He.ga K "Unlike") "found") := S.i 25 (by decide) (by decide)
  have g_Twice : mg "Twice" = some (.ref (He.ga K "Twice")) := S.g 26 (by decide)
  have x_Twice : OwnT K (He.ga K "Twice") "found" "ValueError.__new__" veT := S.o0 26 (by decide)
  have pi_Twice : PromA CX0 P w K mg base 1 (He.ma K (He.ga K "Twice") "__init__") ["self", "found"] (spIni (He.ga K "Twice") "found") := S.i 26 (by decide) (by decide)
  have g_TooMany : mg "TooMany" = some (.ref (He.ga K "TooMany")) := S.g 27 (by decide)
  have x_TooMany : OwnT K (He.ga K "TooMany") "many" "ValueError.__new__" veT := S.o0 27 (by decide)
  have pi_TooMany : PromA CX0 P w K mg base 1 (He.ma K (He.ga K "TooMany") "__init__") ["self", "many"] (spIni (He.ga K "TooMany") "many") := S.i 27 (by decide) (by decide)
  have g_TooGreat : mg "TooGreat" = some (.ref (He.ga K "TooGreat")) := S.g 28 (by decide)
  have x_TooGreat : OwnT K (He.ga K "TooGreat") "many" "ValueError.__new__" veT := S.o0 28 (by decide)
  have pi_TooGreat : PromA CX0 P w K mg base 1 (He.ma K (He.ga K "TooGreat") "__init__") ["self", "many"] (spIni (He.ga K "TooGreat") "many") := S.i 28 (by decide) (by decide)
  have g_NotThere : mg "NotThere" = some (.ref (He.ga K "NotThere")) := S.g 29 (by decide)
  have x_NotThere : OwnT K (He.ga K "NotThere") "found" "LookupError.__new__" keyT := S.o1 29 (by decide) (by decide)
  have pi_NotThere : PromA CX0 P w K mg base 1 (He.ma K (He.ga K "NotThere") "__init__") ["self", "found"] (spIni (He.ga K "NotThere") "found") := S.i 29 (by decide) (by decide)
  have g_NoSpot : mg "NoSpot" = some (.ref (He.ga K "NoSpot")) := S.g 30 (by decide)
  have x_NoSpot : OwnT K (He.ga K "NoSpot") "found" "LookupError.__new__" keyT := S.o1 30 (by decide) (by decide)
  have pi_NoSpot : PromA CX0 P w K mg base 1 (He.ma K (He.ga K "NoSpot") "__init__") ["self", "found"] (spIni (He.ga K "NoSpot") "found") := S.i 30 (by decide) (by decide)
  have g_NoMore : mg "NoMore" = some (.ref (He.ga K "NoMore")) := S.g 31 (by decide)
  have x_NoMore : OwnT K (He.ga K "NoMore") "many" "LookupError.__new__" lookT := S.o2 31 (by decide) (by decide)
  have pi_NoMore : PromA CX0 P w K mg base 1 (He.ma K (He.ga K "NoMore") "__init__") ["self"] (spIni0 (He.ga K "NoMore")) := S.m
  have g_Changed : mg "Changed" = some (.ref (He.ga K "Changed")) := S.g 32 (by decide)
  have x_Changed : OwnT K (He.ga K "Changed") "many" "LookupError.__new__" lookT := S.o2 32 (by decide) (by decide)
  have pi_Changed : PromA CX0 P w K mg base 1 (He.ma K (He.ga K "Changed") "__init__") ["self", "many"] (spIni (He.ga K "Changed") "many") := S.i 32 (by decide) (by decide)
  have g_Endless : mg "Endless" = some (.ref (He.ga K "Endless")) := S.g 33 (by decide)
  have x_Endless : OwnT K (He.ga K "Endless") "many" "LookupError.__new__" lookT := S.o2 33 (by decide) (by decide)
  have pi_Endless : PromA CX0 P w K mg base 1 (He.ma K (He.ga K "Endless") "__init__") ["self", "many"] (spIni (He.ga K "Endless") "many") := S.i 33 (by decide) (by decide)
  refine prom_mk D sc__law_made_last (fun vs H Q E h => ?_) (fun _ _ _ _ _ _ us hl => match us, hl with | [_], _ => rfl) (fun f cdv A outer s H vs Q E hr h => ?_)
  · obtain ⟨v, rfl, _⟩ := h
    rfl
  · obtain ⟨v, rfl, q⟩ := h
    refine ⟨_, (pss_cons (ps_set (i := 1) sc__law_made_last.nd rfl (Or.inl rfl) (pe_lst (pa_cons (pe_exV bas_VE x_NoRule pi_NoRule (hr.mono (by decide)) rfl g_NoRule (pa_cons (pv 0) pa_nil)) (pa_cons (pe_exV bas_VE x_NoRules pi_NoRules (hr.mono (by decide)) rfl g_NoRules (pa_cons (pv 0) pa_nil)) (pa_cons (pe_exV bas_VE x_NoRow pi_NoRow (hr.mono (by decide)) rfl g_NoRow (pa_cons (pv 0) pa_nil)) pa_nil)))))
      (pss_cons (ps_set (i := 1) sc__law_made_last.nd rfl (Or.inl rfl) (pe_op op_cat (pv 1) (pe_lst (pa_cons (pe_exV bas_VE x_NoShelf pi_NoShelf (hr.mono (by decide)) rfl g_NoShelf (pa_cons (pv 0) pa_nil)) (pa_cons (pe_exV bas_VE x_NoDeed pi_NoDeed (hr.mono (by decide)) rfl g_NoDeed (pa_cons (pv 0) pa_nil)) (pa_cons (pe_exV bas_VE x_NoText pi_NoText (hr.mono (by decide)) rfl g_NoText (pa_cons (pv 0) pa_nil)) pa_nil))))))
      (pss_cons (ps_set (i := 1) sc__law_made_last.nd rfl (Or.inl rfl) (pe_op op_cat (pv 1) (pe_lst (pa_cons (pe_exV bas_VE x_NoLine pi_NoLine (hr.mono (by decide)) rfl g_NoLine (pa_cons (pv 0) pa_nil)) (pa_cons (pe_exV bas_VE x_Unlike pi_Unlike (hr.mono (by decide)) rfl g_Unlike (pa_cons (pv 0) pa_nil)) (pa_cons (pe_exV bas_VE x_Twice pi_Twice (hr.mono (by decide)) rfl g_Twice (pa_cons (pv 0) pa_nil)) pa_nil))))))
      (pss_cons (ps_set (i := 1) sc__law_made_last.nd rfl (Or.inl rfl) (pe_op op_cat (pv 1) (pe_lst (pa_cons (pe_exV bas_VE x_TooMany pi_TooMany (hr.mono (by decide)) rfl g_TooMany (pa_cons (pv 0) pa_nil)) (pa_cons (pe_exV bas_VE x_TooGreat pi_TooGreat (hr.mono (by decide)) rfl g_TooGreat (pa_cons (pv 0) pa_nil)) (pa_cons (pe_exV bas_Key x_NotThere pi_NotThere (hr.mono (by decide)) rfl g_NotThere (pa_cons (pv 0) pa_nil)) pa_nil))))))
      (pss_cons (ps_set (i := 1) sc__law_made_last.nd rfl (Or.inl rfl) (pe_op op_cat (pv 1) (pe_lst (pa_cons (pe_exV bas_Key x_NoSpot pi_NoSpot (hr.mono (by decide)) rfl g_NoSpot (pa_cons (pv 0) pa_nil)) (pa_cons (pe_exV0 bas_Look x_NoMore pi_NoMore (hr.mono (by decide)) rfl g_NoMore) (pa_cons (pe_exV bas_Look x_Changed pi_Changed (hr.mono (by decide)) rfl g_Changed (pa_cons (pv 0) pa_nil)) pa_nil))))))
      (pss_cons (ps_set (i := 1) sc__law_made_last.nd rfl (Or.inl rfl) (pe_op op_cat (pv 1) (pe_lst (pa_cons (pe_exV bas_Look x_Endless pi_Endless (hr.mono (by decide)) rfl g_Endless (pa_cons (pv 0) pa_nil)) pa_nil))))
      (pss_one (ps_ret (pv 1))))))))), ?_⟩
    refine ⟨_, rfl, (by show 1 ≤ 1000; decide), fun a0 ha0 => ⟨a0, _, rfl, upd_same .., fun d0 hd0 nd0 => ⟨rfl, ?_⟩⟩⟩
    obtain ⟨t0, e0, x0⟩ := eat_new (C := cE K 18) (f := fldE.getD 18 "") (v := v) ha0 hd0 nd0
    show _
    (generalize hG : L2.upd (L2.upd (L2.upd _ a0 _) d0 _) a0 _ = G0; rw [show L2.upd (L2.upd (L2.upd _ a0 (exo a0 (cE K 18) none)) d0 (exd d0 [(fldE.getD 18 "", v)])) a0 (exo a0 (cE K 18) (some d0)) = G0 from hG] at t0 e0 x0; clear hG ha0 hd0 nd0)
    refine ⟨_, rfl, (by show 1 ≤ 1000; decide), fun a1 ha1 => ⟨a1, _, rfl, upd_same .., fun d1 hd1 nd1 => ⟨rfl, ?_⟩⟩⟩
    obtain ⟨t1, e1, x1⟩ := eat_new (C := cE K 19) (f := fldE.getD 19 "") (v := v) ha1 hd1 nd1
    show _
    (generalize hG : L2.upd (L2.upd (L2.upd _ a1 _) d1 _) a1 _ = G1; rw [show L2.upd (L2.upd (L2.upd _ a1 (exo a1 (cE K 19) none)) d1 (exd d1 [(fldE.getD 19 "", v)])) a1 (exo a1 (cE K 19) (some d1)) = G1 from hG] at t1 e1 x1; clear hG ha1 hd1 nd1)
    refine ⟨_, rfl, (by show 1 ≤ 1000; decide), fun a2 ha2 => ⟨a2, _, rfl, upd_same .., fun d2 hd2 nd2 => ⟨rfl, ?_⟩⟩⟩
    obtain ⟨t2, e2, x2⟩ := eat_new (C := cE K 20) (f := fldE.getD 20 "") (v := v) ha2 hd2 nd2
    show _
    (generalize hG : L2.upd (L2.upd (L2.upd _ a2 _) d2 _) a2 _ = G2; rw [show L2.upd (L2.upd (L2.upd _ a2 (exo a2 (cE K 20) none)) d2 (exd d2 [(fldE.getD 20 "", v)])) a2 (exo a2 (cE K 20) (some d2)) = G2 from hG] at t2 e2 x2; clear hG ha2 hd2 nd2)
    refine ⟨(by show 3 ≤ sizeLine; decide), fun p0 hp0 => ?_⟩
    (generalize hG : L2.upd _ p0 _ = P0; have sp0 := same_of hG hp0; have ep0 := at_of hG; clear hG)
    refine ⟨_, rfl, ?_⟩
    refine ⟨_, rfl, (by show 1 ≤ 1000; decide), fun a3 ha3 => ⟨a3, _, rfl, upd_same .., fun d3 hd3 nd3 => ⟨rfl, ?_⟩⟩⟩
    obtain ⟨t3, e3, x3⟩ := eat_new (C := cE K 21) (f := fldE.getD 21 "") (v := v) ha3 hd3 nd3
    show _
    (generalize hG : L2.upd (L2.upd (L2.upd _ a3 _) d3 _) a3 _ = G3; rw [show L2.upd (L2.upd (L2.upd _ a3 (exo a3 (cE K 21) none)) d3 (exd d3 [(fldE.getD 21 "", v)])) a3 (exo a3 (cE K 21) (some d3)) = G3 from hG] at t3 e3 x3; clear hG ha3 hd3 nd3)
    refine ⟨_, rfl, (by show 1 ≤ 1000; decide), fun a4 ha4 => ⟨a4, _, rfl, upd_same .., fun d4 hd4 nd4 => ⟨rfl, ?_⟩⟩⟩
    obtain ⟨t4, e4, x4⟩ := eat_new (C := cE K 22) (f := fldE.getD 22 "") (v := v) ha4 hd4 nd4
    show _
    (generalize hG : L2.upd (L2.upd (L2.upd _ a4 _) d4 _) a4 _ = G4; rw [show L2.upd (L2.upd (L2.upd _ a4 (exo a4 (cE K 22) none)) d4 (exd d4 [(fldE.getD 22 "", v)])) a4 (exo a4 (cE K 22) (some d4)) = G4 from hG] at t4 e4 x4; clear hG ha4 hd4 nd4)
    refine ⟨_, rfl, (by show 1 ≤ 1000; decide), fun a5 ha5 => ⟨a5, _, rfl, upd_same .., fun d5 hd5 nd5 => ⟨rfl, ?_⟩⟩⟩
    obtain ⟨t5, e5, x5⟩ := eat_new (C := cE K 23) (f := fldE.getD 23 "") (v := v) ha5 hd5 nd5
    show _
    (generalize hG : L2.upd (L2.upd (L2.upd _ a5 _) d5 _) a5 _ = G5; rw [show L2.upd (L2.upd (L2.upd _ a5 (exo a5 (cE K 23) none)) d5 (exd d5 [(fldE.getD 23 "", v)])) a5 (exo a5 (cE K 23) (some d5)) = G5 from hG] at t5 e5 x5; clear hG ha5 hd5 nd5)
    refine ⟨(by show 3 ≤ sizeLine; decide), fun p1 hp1 => ?_⟩
    (generalize hG : L2.upd _ p1 _ = P1; have sp1 := same_of hG hp1; have ep1 := at_of hG; clear hG)
    have keep1 := (Same.trans t3 (Same.trans t4 (Same.trans t5 (sp1)))) _ _ ep0
    refine ⟨p0, p1, _, _, rfl, rfl, keep1, ep1, sz5 (by simp), fun r1 hr1 => ?_⟩
    (generalize hG : L2.upd _ r1 _ = R1; have sr1 := same_of hG hr1; have er1 := at_of hG; clear hG)
    refine ⟨_, rfl, ?_⟩
    refine ⟨_, rfl, (by show 1 ≤ 1000; decide), fun a6 ha6 => ⟨a6, _, rfl, upd_same .., fun d6 hd6 nd6 => ⟨rfl, ?_⟩⟩⟩
    obtain ⟨t6, e6, x6⟩ := eat_new (C := cE K 24) (f := fldE.getD 24 "") (v := v) ha6 hd6 nd6
    show _
    (generalize hG : L2.upd (L2.upd (L2.upd _ a6 _) d6 _) a6 _ = G6; rw [show L2.upd (L2.upd (L2.upd _ a6 (exo a6 (cE K 24) none)) d6 (exd d6 [(fldE.getD 24 "", v)])) a6 (exo a6 (cE K 24) (some d6)) = G6 from hG] at t6 e6 x6; clear hG ha6 hd6 nd6)
    refine ⟨_, rfl, (by show 1 ≤ 1000; decide), fun a7 ha7 => ⟨a7, _, rfl, upd_same .., fun d7 hd7 nd7 => ⟨rfl, ?_⟩⟩⟩
    obtain ⟨t7, e7, x7⟩ := eat_new (C := cE K 25) (f := fldE.getD 25 "") (v := v) ha7 hd7 nd7
    show _
    (generalize hG : L2.upd (L2.upd (L2.upd _ a7 _) d7 _) a7 _ = G7; rw [show L2.upd (L2.upd (L2.upd _ a7 (exo a7 (cE K 25) none)) d7 (exd d7 [(fldE.getD 25 "", v)])) a7 (exo a7 (cE K 25) (some d7)) = G7 from hG] at t7 e7 x7; clear hG ha7 hd7 nd7)
    refine ⟨_, rfl, (by show 1 ≤ 1000; decide), fun a8 ha8 => ⟨a8, _, rfl, upd_same .., fun d8 hd8 nd8 => ⟨rfl, ?_⟩⟩⟩
    obtain ⟨t8, e8, x8⟩ := eat_new (C := cE K 26) (f := fldE.getD 26 "") (v := v) ha8 hd8 nd8
    show _
    (generalize hG : L2.upd (L2.upd (L2.upd _ a8 _) d8 _) a8 _ = G8; rw [show L2.upd (L2.upd (L2.upd _ a8 (exo a8 (cE K 26) none)) d8 (exd d8 [(fldE.getD 26 "", v)])) a8 (exo a8 (cE K 26) (some d8)) = G8 from hG] at t8 e8 x8; clear hG ha8 hd8 nd8)
    refine ⟨(by show 3 ≤ sizeLine; decide), fun p2 hp2 => ?_⟩
    (generalize hG : L2.upd _ p2 _ = P2; have sp2 := same_of hG hp2; have ep2 := at_of hG; clear hG)
    have keep2 := (Same.trans t6 (Same.trans t7 (Same.trans t8 (sp2)))) _ _ er1
    refine ⟨r1, p2, _, _, rfl, rfl, keep2, ep2, sz5 (by simp), fun r2 hr2 => ?_⟩
    (generalize hG : L2.upd _ r2 _ = R2; have sr2 := same_of hG hr2; have er2 := at_of hG; clear hG)
    refine ⟨_, rfl, ?_⟩
    refine ⟨_, rfl, (by show 1 ≤ 1000; decide), fun a9 ha9 => ⟨a9, _, rfl, upd_same .., fun d9 hd9 nd9 => ⟨rfl, ?_⟩⟩⟩
    obtain ⟨t9, e9, x9⟩ := eat_new (C := cE K 27) (f := fldE.getD 27 "") (v := v) ha9 hd9 nd9
    show _
    (generalize hG : L2.upd (L2.upd (L2.upd _ a9 _) d9 _) a9 _ = G9; rw [show L2.upd (L2.upd (L2.upd _ a9 (exo a9 (cE K 27) none)) d9 (exd d9 [(fldE.getD 27 "", v)])) a9 (exo a9 (cE K 27) (some d9)) = G9 from hG] at t9 e9 x9; clear hG ha9 hd9 nd9)
    refine ⟨_, rfl, (by show 1 ≤ 1000; decide), fun a10 ha10 => ⟨a10, _, rfl, upd_same .., fun d10 hd10 nd10 => ⟨rfl, ?_⟩⟩⟩
    obtain ⟨t10, e10, x10⟩ := eat_new (C := cE K 28) (f := fldE.getD 28 "") (v := v) ha10 hd10 nd10
    show _
    (generalize hG : L2.upd (L2.upd (L2.upd _ a10 _) d10 _) a10 _ = G10; rw [show L2.upd (L2.upd (L2.upd _ a10 (exo a10 (cE K 28) none)) d10 (exd d10 [(fldE.getD 28 "", v)])) a10 (exo a10 (cE K 28) (some d10)) = G10 from hG] at t10 e10 x10; clear hG ha10 hd10 nd10)
    refine ⟨_, rfl, (by show 1 ≤ 1000; decide), fun a11 ha11 => ⟨a11, _, rfl, upd_same .., fun d11 hd11 nd11 => ⟨rfl, ?_⟩⟩⟩
    obtain ⟨t11, e11, x11⟩ := eat_new (C := cE K 29) (f := fldE.getD 29 "") (v := v) ha11 hd11 nd11
    show _
    (generalize hG : L2.upd (L2.upd (L2.upd _ a11 _) d11 _) a11 _ = G11; rw [show L2.upd (L2.upd (L2.upd _ a11 (exo a11 (cE K 29) none)) d11 (exd d11 [(fldE.getD 29 "", v)])) a11 (exo a11 (cE K 29) (some d11)) = G11 from hG] at t11 e11 x11; clear hG ha11 hd11 nd11)
    refine ⟨(by show 3 ≤ sizeLine; decide), fun p3 hp3 => ?_⟩
    (generalize hG : L2.upd _ p3 _ = P3; have sp3 := same_of hG hp3; have ep3 := at_of hG; clear hG)
    have keep3 := (Same.trans t9 (Same.trans t10 (Same.trans t11 (sp3)))) _ _ er2
    refine ⟨r2, p3, _, _, rfl, rfl, keep3, ep3, sz5 (by simp), fun r3 hr3 => ?_⟩
    (generalize hG : L2.upd _ r3 _ = R3; have sr3 := same_of hG hr3; have er3 := at_of hG; clear hG)
    refine ⟨_, rfl, ?_⟩
    refine ⟨_, rfl, (by show 1 ≤ 1000; decide), fun a12 ha12 => ⟨a12, _, rfl, upd_same .., fun d12 hd12 nd12 => ⟨rfl, ?_⟩⟩⟩
    obtain ⟨t12, e12, x12⟩ := eat_new (C := cE K 30) (f := fldE.getD 30 "") (v := v) ha12 hd12 nd12
    show _
    (generalize hG : L2.upd (L2.upd (L2.upd _ a12 _) d12 _) a12 _ = G12; rw [show L2.upd (L2.upd (L2.upd _ a12 (exo a12 (cE K 30) none)) d12 (exd d12 [(fldE.getD 30 "", v)])) a12 (exo a12 (cE K 30) (some d12)) = G12 from hG] at t12 e12 x12; clear hG ha12 hd12 nd12)
    refine fun a13 ha13 => ⟨a13, rfl, upd_same .., ⟨rfl, ?_⟩⟩
    (generalize hG : L2.upd _ a13 _ = G13; have t13 := same_of hG ha13; have e13 := at_of hG; clear hG)
    refine ⟨_, rfl, (by show 1 ≤ 1000; decide), fun a14 ha14 => ⟨a14, _, rfl, upd_same .., fun d14 hd14 nd14 => ⟨rfl, ?_⟩⟩⟩
    obtain ⟨t14, e14, x14⟩ := eat_new (C := cE K 32) (f := fldE.getD 32 "") (v := v) ha14 hd14 nd14
    show _
    (generalize hG : L2.upd (L2.upd (L2.upd _ a14 _) d14 _) a14 _ = G14; rw [show L2.upd (L2.upd (L2.upd _ a14 (exo a14 (cE K 32) none)) d14 (exd d14 [(fldE.getD 32 "", v)])) a14 (exo a14 (cE K 32) (some d14)) = G14 from hG] at t14 e14 x14; clear hG ha14 hd14 nd14)
    refine ⟨(by show 3 ≤ sizeLine; decide), fun p4 hp4 => ?_⟩
    (generalize hG : L2.upd _ p4 _ = P4; have sp4 := same_of hG hp4; have ep4 := at_of hG; clear hG)
    have keep4 := (Same.trans t12 (Same.trans t13 (Same.trans t14 (sp4)))) _ _ er3
    refine ⟨r3, p4, _, _, rfl, rfl, keep4, ep4, sz5 (by simp), fun r4 hr4 => ?_⟩
    (generalize hG : L2.upd _ r4 _ = R4; have sr4 := same_of hG hr4; have er4 := at_of hG; clear hG)
    refine ⟨_, rfl, ?_⟩
    refine ⟨_, rfl, (by show 1 ≤ 1000; decide), fun a15 ha15 => ⟨a15, _, rfl, upd_same .., fun d15 hd15 nd15 => ⟨rfl, ?_⟩⟩⟩
    obtain ⟨t15, e15, x15⟩ := eat_new (C := cE K 33) (f := fldE.getD 33 "") (v := v) ha15 hd15 nd15
    show _
    (generalize hG : L2.upd (L2.upd (L2.upd _ a15 _) d15 _) a15 _ = G15; rw [show L2.upd (L2.upd (L2.upd _ a15 (exo a15 (cE K 33) none)) d15 (exd d15 [(fldE.getD 33 "", v)])) a15 (exo a15 (cE K 33) (some d15)) = G15 from hG] at t15 e15 x15; clear hG ha15 hd15 nd15)
    refine ⟨(by show 1 ≤ sizeLine; decide), fun p5 hp5 => ?_⟩
    (generalize hG : L2.upd _ p5 _ = P5; have sp5 := same_of hG hp5; have ep5 := at_of hG; clear hG)
    have keep5 := (Same.trans t15 (sp5)) _ _ er4
    refine ⟨r4, p5, _, _, rfl, rfl, keep5, ep5, sz5 (by simp), fun r5 hr5 => ?_⟩
    (generalize hG : L2.upd _ r5 _ = R5; have sr5 := same_of hG hr5; have er5 := at_of hG; clear hG)
    have z26 := sr5
    have z25 := Same.trans sp5 z26
    have z24 := Same.trans t15 z25
    have z23 := Same.trans sr4 z24
    have z22 := Same.trans sp4 z23
    have z21 := Same.trans t14 z22
    have z20 := Same.trans t13 z21
    have z19 := Same.trans t12 z20
    have z18 := Same.trans sr3 z19
    have z17 := Same.trans sp3 z18
    have z16 := Same.trans t11 z17
    have z15 := Same.trans t10 z16
    have z14 := Same.trans t9 z15
    have z13 := Same.trans sr2 z14
    have z12 := Same.trans sp2 z13
    have z11 := Same.trans t8 z12
    have z10 := Same.trans t7 z11
    have z9 := Same.trans t6 z10
    have z8 := Same.trans sr1 z9
    have z7 := Same.trans sp1 z8
    have z6 := Same.trans t5 z7
    have z5 := Same.trans t4 z6
    have z4 := Same.trans t3 z5
    have z3 := Same.trans sp0 z4
    have z2 := Same.trans t2 z3
    have z1 := Same.trans t1 z2
    have z0 := Same.trans t0 z1
    refine ⟨_, rfl, q _ r5 [a0, a1, a2, a3, a4, a5, a6, a7, a8, a9, a10, a11, a12, a13, a14, a15] z0 er5 (t0.free (t1.free (t2.free (sp0.free (t3.free (t4.free (t5.free (sp1.free (sr1.free (t6.free (t7.free (t8.free (sp2.free (sr2.free (t9.free (t10.free (t11.free (sp3.free (sr3.free (t12.free (t13.free (t14.free (sp4.free (sr4.free (t15.free (sp5.free hr5)))))))))))))))))))))))))) rfl fun j a ej => ?_⟩
    match j, ej with
    | 0, ej => cases ej; exact ⟨fun _ => ⟨d0, z1 _ _ e0, z1 _ _ x0⟩, fun h => absurd h (by decide)⟩
    | 1, ej => cases ej; exact ⟨fun _ => ⟨d1, z2 _ _ e1, z2 _ _ x1⟩, fun h => absurd h (by decide)⟩
    | 2, ej => cases ej; exact ⟨fun _ => ⟨d2, z3 _ _ e2, z3 _ _ x2⟩, fun h => absurd h (by decide)⟩
    | 3, ej => cases ej; exact ⟨fun _ => ⟨d3, z5 _ _ e3, z5 _ _ x3⟩, fun h => absurd h (by decide)⟩
    | 4, ej => cases ej; exact ⟨fun _ => ⟨d4, z6 _ _ e4, z6 _ _ x4⟩, fun h => absurd h (by decide)⟩
    | 5, ej => cases ej; exact ⟨fun _ => ⟨d5, z7 _ _ e5, z7 _ _ x5⟩, fun h => absurd h (by decide)⟩
    | 6, ej => cases ej; exact ⟨fun _ => ⟨d6, z10 _ _ e6, z10 _ _ x6⟩, fun h => absurd h (by decide)⟩
    | 7, ej => cases ej; exact ⟨fun _ => ⟨d7, z11 _ _ e7, z11 _ _ x7⟩, fun h => absurd h (by decide)⟩
    | 8, ej => cases ej; exact ⟨fun _ => ⟨d8, z12 _ _ e8, z12 _ _ x8⟩, fun h => absurd h (by decide)⟩
    | 9, ej => cases ej; exact ⟨fun _ => ⟨d9, z15 _ _ e9, z15 _ _ x9⟩, fun h => absurd h (by decide)⟩
    | 10, ej => cases ej; exact ⟨fun _ => ⟨d10, z16 _ _ e10, z16 _ _ x10⟩, fun h => absurd h (by decide)⟩
    | 11, ej => cases ej; exact ⟨fun _ => ⟨d11, z17 _ _ e11, z17 _ _ x11⟩, fun h => absurd h (by decide)⟩
    | 12, ej => cases ej; exact ⟨fun _ => ⟨d12, z20 _ _ e12, z20 _ _ x12⟩, fun h => absurd h (by decide)⟩
    | 13, ej => cases ej; exact ⟨fun h => absurd rfl h, fun _ => z21 _ _ e13⟩
    | 14, ej => cases ej; exact ⟨fun _ => ⟨d14, z22 _ _ e14, z22 _ _ x14⟩, fun h => absurd h (by decide)⟩
    | 15, ej => cases ej; exact ⟨fun _ => ⟨d15, z25 _ _ e15, z25 _ _ x15⟩, fun h => absurd h (by decide)⟩
    | _ + 16, ej => simp at ej
end

end TS

namespace TS
open PySem PySem.Spec PyProof.Rows L2 TL
/-- things of other kinds -/
def anyD : List PyData := [.none, .bool true, .bool false, .int (-1), .int 100000000000000000000000000000, .str "", .str "no", .str "a b", .list [], .list [.str "a"], .tuple [.str "a"], .tuple [], .dict [],
  .dict [(.str "a", .int 1)], .list [.list [.int 1]]]
/-- a list of data that lies apart from what it holds -/
def Lap (K : PySem.W.Frag) (G : Hp) (v : V) (d : PyData) : Prop := ∀ ds, d = .list ds → ∃ (a : Addr) (xs : List V), v = .ref a ∧ G a = some (.lst xs) ∧ DtAll K (hide G a) xs ds
theorem Lap.no {K : PySem.W.Frag} {G : Hp} {v : V} {d : PyData} (h : ∀ ds, d ≠ .list ds) : Lap K G v d := fun ds e => absurd e (h ds)
theorem hide_upd {H : Hp} {a : Addr} {o : HO} : hide (L2.upd H a o) a = hide H a := by
  funext b
  by_cases h : b = a
  · rw [h, hide_self, hide_self]
  · rw [hide_ne h, hide_ne h, upd_ne h]
theorem hide_hide {G G' : Hp} {a : Addr} (s : Same G G') : Same (hide G a) (hide G' a) := fun b o e => by
  have h : b ≠ a := fun z => by rw [z, hide_self] at e; cases e
  rw [hide_ne h] at e ⊢
  exact s b o e
theorem Lap.same {K : PySem.W.Frag} {G G' : Hp} {v : V} {d : PyData} (s : Same G G') (h : Lap K G v d) : Lap K G' v d := fun ds e => by
  obtain ⟨a, xs, ev, ea, hx⟩ := h ds e
  exact ⟨a, xs, ev, s _ _ ea, DtAll.same (hide_hide s) hx⟩
def spAny (K : PySem.W.Frag) : Sp := fun vs H Q _ => ∃ (b : Addr) (o : HO) (n : Nat), vs = [.ref b] ∧ H b = some o ∧ Bag (n + 1) o ∧
  ∀ (v : V) (d : PyData) (H' : Hp) (o' : HO), d ∈ anyD → Fx b H H' → H' b = some o' → Bag n o' → Dt K (hide H' b) v d → Lap K (hide H' b) v d → Q v H'
section
variable {P : Program} {w : World} {K : PySem.W.Frag} {mg : Str → Option Value} {base : Heap}
theorem sc__law_any : FnScope ["_law_bag_here", "_law_some"] ["_law_bag_here"] (defScope s__law_any) := ⟨rfl, rfl, rfl, by decide +kernel, rfl, by decide +kernel, by decide +kernel⟩

theorem ok_any (p__law_take : Prom P w K mg base 1 "_law_take" ["_law_bag_here", "_law_much"] spTake) (D : Def K mg "_law_any" s__law_any) : Prom P w K mg base 2 "_law_any" ["_law_bag_here"] (spAny K) := by
  refine prom_mk D sc__law_any (fun vs H Q E h => ?_) (fun _ _ _ _ _ _ us hl => match us, hl with | [_], _ => rfl) (fun f cdv A outer s H vs Q E hr h => ?_)
  · obtain ⟨b, o, n, rfl, _⟩ := h
    rfl
  · obtain ⟨b, o, n, rfl, hb, bg, q⟩ := h
    refine ⟨_, (pss_cons (ps_set (i := 1) sc__law_any.nd rfl (Or.inl rfl) (pe_lst (pa_cons pe_non (pa_cons pe_bl (pa_cons pe_bl (pa_cons (pe_op op_sub pe_int pe_int) (pa_cons (pe_op op_pow pe_int pe_int) (pa_cons pe_str (pa_cons pe_str (pa_cons pe_str (pa_cons (pe_lst pa_nil) (pa_cons (pe_lst (pa_cons pe_str pa_nil)) (pa_cons (pe_tup (pa_cons pe_str pa_nil)) (pa_cons (pe_tup pa_nil) (pa_cons pe_dnewK (pa_cons (pe_disp (pps_cons pe_str pe_int pps_nil) (by rfl) (by rfl) (fun z => by cases z) (by decide)) (pa_cons (pe_lst (pa_cons (pe_lst (pa_cons pe_int pa_nil)) pa_nil)) pa_nil)))))))))))))))))
      (pss_one (ps_ret (pe_ix (ix_listK (K := K)) (pv 1) (pe_pc p__law_take (hr.mono (by decide)) rfl (pa_cons (pv 0) (pa_cons pe_int pa_nil))) (fun _ _ => rfl))))), ?_⟩
    refine ⟨_, _, rfl, rfl, _, _, rfl, rfl, ⟨by decide, by decide, by decide⟩, (by show 0 ≤ sizeLine; decide), fun p1 h1 => ⟨(by show 1 ≤ sizeLine; decide), fun p2 h2 => ⟨(by show 1 ≤ sizeLine; decide), fun p3 h3 => ⟨(by show 0 ≤ sizeLine; decide), fun p4 h4 => fun p5 h5 => ?_⟩⟩⟩⟩
    intro p6 h6
    refine ⟨upd_same, [(Sum.inr "a", V.int 1)], rfl, by decide, (by show 1 ≤ sizeLine; decide), fun p7 h7 => ⟨(by show 1 ≤ sizeLine; decide), fun p8 h8 => ⟨(by show 15 ≤ sizeLine; decide), fun p9 h9 => ?_⟩⟩⟩
    generalize hG : L2.upd _ p9 _ = Hf
    have eu : ∀ {H : Hp} {a : Addr} {o1 o2 : HO}, L2.upd (L2.upd H a o1) a o2 = L2.upd H a o2 := upd_upd
    rw [eu] at h7 h8 h9 hG
    have h6' : ∀ o : HO, Same _ (L2.upd _ p6 o) := fun o => Same.new (Same.refl _) h6
    have s1 := Same.new (o := .lst []) (Same.refl _) h1
    have s2 := Same.new (o := .lst [.str "a"]) (Same.refl _) h2
    have s3 := Same.new (o := .tup [.str "a"]) (Same.refl _) h3
    have s4 := Same.new (o := .tup []) (Same.refl _) h4
    have s5 := Same.new (o := .dK []) (Same.refl _) h5
    have s6 := h6' (.dK (mergeK [] [(Sum.inr "a", V.int 1)]))
    have s7 := Same.new (o := .lst [.int 1]) (Same.refl _) h7
    have s8 := Same.new (o := .lst [.ref p7]) (Same.refl _) h8
    have s9 := fun o : HO => Same.new (o := o) (Same.refl _) h9
    have t7 := fun o => s8.trans (s9 o)
    have t6 := fun o => s7.trans (t7 o)
    have t5 := fun o => s6.trans (t6 o)
    have t4 := fun o => s5.trans (t5 o)
    have t3 := fun o => s4.trans (t4 o)
    have t2 := fun o => s3.trans (t3 o)
    have t1 := fun o => s2.trans (t2 o)
    have t0 : Same H Hf := by
      rw [← hG]
      exact s1.trans (t1 _)
    have f1 : Hf p1 = some (.lst []) := by
      rw [← hG]
      exact t1 _ p1 _ upd_same
    have f2 : Hf p2 = some (.lst [.str "a"]) := by
      rw [← hG]
      exact t2 _ p2 _ upd_same
    have f3 : Hf p3 = some (.tup [.str "a"]) := by
      rw [← hG]
      exact t3 _ p3 _ upd_same
    have f4 : Hf p4 = some (.tup []) := by
      rw [← hG]
      exact t4 _ p4 _ upd_same
    have f5 : Hf p5 = some (.dK []) := by
      rw [← hG]
      exact t5 _ p5 _ upd_same
    have f6 : Hf p6 = some (.dK [(Sum.inr "a", V.int 1)]) := by
      rw [← hG]
      exact t6 _ p6 _ upd_same
    have f7 : Hf p7 = some (.lst [.int 1]) := by
      rw [← hG]
      exact t7 _ p7 _ upd_same
    have f8 : Hf p8 = some (.lst [.ref p7]) := by
      rw [← hG]
      exact s9 _ p8 _ upd_same
    have f9 := congrFun hG p9
    rw [upd_same] at f9
    replace f9 := f9.symm
    have fb := t0 b _ hb
    have nb : ∀ {p : Addr}, H p = none → p ≠ b := fun h => (ne_of_none hb h).symm
    have n1 := nb h1
    have n2 := nb (s1.free h2)
    have n3 := nb (s1.free (s2.free h3))
    have n4 := nb (s1.free (s2.free (s3.free h4)))
    have n5 := nb (s1.free (s2.free (s3.free (s4.free h5))))
    have n6 := nb (s1.free (s2.free (s3.free (s4.free (s5.free h6)))))
    have n7 := nb (s1.free (s2.free (s3.free (s4.free (s5.free (s6.free h7))))))
    have n8 := nb (s1.free (s2.free (s3.free (s4.free (s5.free (s6.free (s7.free h8)))))))
    have n9 := nb (s1.free (s2.free (s3.free (s4.free (s5.free (s6.free (s7.free (s8.free h9))))))))
    refine ⟨_, rfl, _, rfl, b, o, n, 15, rfl, fb, bg, by decide, by decide +kernel, fun d o' d0 d1 bg' => ?_⟩
    have fin : ∀ v dd, dd ∈ anyD → Dt K (hide (L2.upd Hf b o') b) v dd → Lap K (hide (L2.upd Hf b o') b) v dd → Q v (L2.upd Hf b o') := fun v dd hd hv hl => q v dd _ o' hd (Fx.of t0).upd upd_same bg' hv hl
    have g : ∀ {p : Addr} {u : HO}, p ≠ b → Hf p = some u → hide (L2.upd Hf b o') b p = some u := fun h e => by rw [hide_ne h, upd_ne h]; exact e
    have L9 : SqL K (L2.upd Hf b o') p9 _ := .inl (.inl ((upd_ne n9).trans f9))
    have gl : ∀ {p : Addr} {xs : List V}, p ≠ b → Hf p = some (.lst xs) → SqL K (hide (L2.upd Hf b o') b) p xs := fun h e => .inl (.inl (g h e))
    have gt : ∀ {p : Addr} {xs : List V}, p ≠ b → Hf p = some (.tup xs) → SqT K (hide (L2.upd Hf b o') b) p xs := fun h e => .inl (.inl (g h e))
    have e29 : (10 : Int) ^ (29 : Int).toNat = 100000000000000000000000000000 := by decide +kernel
    have c15 : d = 0 ∨ d = 1 ∨ d = 2 ∨ d = 3 ∨ d = 4 ∨ d = 5 ∨ d = 6 ∨ d = 7 ∨ d = 8 ∨ d = 9 ∨ d = 10 ∨ d = 11 ∨ d = 12 ∨ d = 13 ∨ d = 14 := by omega
    have n78 : p7 ≠ p8 := fun e => by rw [e, f8] at f7; cases f7
    rcases c15 with rfl | rfl | rfl | rfl | rfl | rfl | rfl | rfl | rfl | rfl | rfl | rfl | rfl | rfl | rfl
    · exact ⟨p9, _, _, _, rfl, rfl, L9, rfl, fin _ _ (by simp [anyD]) .non (.no fun _ e => by cases e)⟩
    · exact ⟨p9, _, _, _, rfl, rfl, L9, rfl, fin _ _ (by simp [anyD]) (.bl true) (.no fun _ e => by cases e)⟩
    · exact ⟨p9, _, _, _, rfl, rfl, L9, rfl, fin _ _ (by simp [anyD]) (.bl false) (.no fun _ e => by cases e)⟩
    · exact ⟨p9, _, _, _, rfl, rfl, L9, rfl, fin _ _ (by simp [anyD]) (.int (-1)) (.no fun _ e => by cases e)⟩
    · exact ⟨p9, _, _, _, rfl, rfl, L9, rfl, fin _ (.int 100000000000000000000000000000) (by simp [anyD]) (by show Dt K _ (V.int ((10 : Int) ^ (29 : Int).toNat)) _; rw [e29]; exact .int _) (.no fun _ e => by cases e)⟩
    · exact ⟨p9, _, _, _, rfl, rfl, L9, rfl, fin _ (.str "") (by simp [anyD]) (.str "") (.no fun _ e => by cases e)⟩
    · exact ⟨p9, _, _, _, rfl, rfl, L9, rfl, fin _ (.str "no") (by simp [anyD]) (.str "no") (.no fun _ e => by cases e)⟩
    · exact ⟨p9, _, _, _, rfl, rfl, L9, rfl, fin _ (.str "a b") (by simp [anyD]) (.str "a b") (.no fun _ e => by cases e)⟩
    · exact ⟨p9, _, _, _, rfl, rfl, L9, rfl, fin _ (.list []) (by simp [anyD]) (.lst (gl n1 f1) .nil) (fun ds e => by cases e; exact ⟨p1, _, rfl, g n1 f1, .nil⟩)⟩
    · exact ⟨p9, _, _, _, rfl, rfl, L9, rfl, fin _ (.list [.str "a"]) (by simp [anyD]) (.lst (gl n2 f2) (.cons (.str "a") .nil)) (fun ds e => by cases e; exact ⟨p2, _, rfl, g n2 f2, .cons (.str "a") .nil⟩)⟩
    · exact ⟨p9, _, _, _, rfl, rfl, L9, rfl, fin _ (.tuple [.str "a"]) (by simp [anyD]) (.tup (gt n3 f3) (.cons (.str "a") .nil)) (.no fun _ e => by cases e)⟩
    · exact ⟨p9, _, _, _, rfl, rfl, L9, rfl, fin _ (.tuple []) (by simp [anyD]) (.tup (gt n4 f4) .nil) (.no fun _ e => by cases e)⟩
    · exact ⟨p9, _, _, _, rfl, rfl, L9, rfl, fin _ (.dict []) (by simp [anyD]) (.dct (ks := []) (xs := []) (g n5 f5) rfl .nil) (.no fun _ e => by cases e)⟩
    · exact ⟨p9, _, _, _, rfl, rfl, L9, rfl, fin _ (.dict [(.str "a", .int 1)]) (by simp [anyD]) (.dct (ks := [Sum.inr "a"]) (xs := [.int 1]) (g n6 f6) rfl (.cons (.int 1) .nil)) (.no fun _ e => by cases e)⟩
    · exact ⟨p9, _, _, _, rfl, rfl, L9, rfl, fin _ (.list [.list [.int 1]]) (by simp [anyD]) (.lst (gl n8 f8) (.cons (.lst (gl n7 f7) (.cons (.int 1) .nil)) .nil)) (fun ds e => by cases e; exact ⟨p8, _, rfl, g n8 f8, .cons (.lst (.inl (.inl (by rw [hide_ne n78]; exact g n7 f7))) (.cons (.int 1) .nil)) .nil⟩)⟩
end

end TS

namespace TS
open PySem PySem.Spec PyProof.Rows L2 TL
/-! ### the very thing -/
def spVery (K : PySem.W.Frag) : Sp := fun vs H Q _ => ∃ (x : V) (d : PyData), vs = [x, x] ∧ Dt K H x d ∧ Shows d ∧ Lap K H x d ∧ (∀ ds, d = .list ds → ds.length ≤ 1000 ∧ Shows (.list (ds ++ [.str "late"]))) ∧ ∀ H', Same H H' → Q (.bl true) H'
section
variable {P : Program} {w : World} {K : PySem.W.Frag} {mg : Str → Option Value} {base : Heap}
theorem sc__law_very : FnScope ["_law_gained", "_law_thing", "_law_same"] ["_law_gained", "_law_thing"] (defScope s__law_very) := ⟨rfl, rfl, rfl, by decide +kernel, rfl, by decide +kernel, by decide +kernel⟩

theorem ok_very (Y : Sys K) (bt : Bt mg) (D : Def K mg "_law_very" s__law_very) : PromG P w K mg base 1 "_law_very" ["_law_gained", "_law_thing"] (spVery K) := by
  refine promG_mk D sc__law_very (fun vs H Q E h => ?_) (fun _ _ _ _ _ _ us hl => match us, hl with | [_, _], _ => rfl) (fun f cdv A outer s H vs Q E hgd hr h => ?_)
  · obtain ⟨x, d, rfl, _⟩ := h
    rfl
  · obtain ⟨x, d, rfl, hd, sh, lap, hl, q⟩ := h
    refine ⟨_, (pss_cons (ps_if (pt_cmpR op_ne (pe_callB (id := "repr") (reprK (K := K) Y hgd hr.units) (by rfl) bt.repr_ (by decide +kernel) (pa_cons (pv 0) pa_nil)) (pe_callB (id := "repr") (reprK (K := K) Y hgd hr.units) (by rfl) bt.repr_ (by decide +kernel) (pa_cons (pv 1) pa_nil)) (nomark _)) (pss_one (ps_ret pe_bl)) pss_nil)
      (pss_cons (ps_if (pt_not (pt_val (pe_callB (id := "isinstance") (isiK (K := K)) (by rfl) bt.isinstance_ (by decide +kernel) (pa_cons (pv 1) (pa_cons (pe_bltn (v := .ty "list") rfl bt.list_ (by decide +kernel) rfl) pa_nil))))) (pss_one (ps_ret pe_bl)) pss_nil)
      (pss_cons (ps_expr (pe_appendK (K := K) rfl (pv 1) pe_str))
      (pss_cons (ps_set (i := 2) sc__law_very.nd rfl (Or.inl rfl) (pe_cmpR op_eq (pe_callB (id := "repr") (reprK (K := K) Y hgd hr.units) (by rfl) bt.repr_ (by decide +kernel) (pa_cons (pv 0) pa_nil)) (pe_callB (id := "repr") (reprK (K := K) Y hgd hr.units) (by rfl) bt.repr_ (by decide +kernel) (pa_cons (pv 1) pa_nil)) (nomark _)))
      (pss_cons (ps_expr (pe_bm0 PySem.F.plainAttrs_list PySem.F.slot_list_pop PySem.F.type_list_pop mt_pop (pv 1)))
      (pss_one (ps_ret (pv 2)))))))), ?_⟩
    refine ⟨_, rfl, x, d, rfl, hd, sh.1, sh.2, sh.3, _, rfl, x, d, rfl, hd, sh.1, sh.2, sh.3, rfl, _, rfl, ?_⟩
    refine iteF' (by simp) ?_
    refine ⟨_, rfl, _, _, _, _, isD "list" d, rfl, .ty "list", hd.ty, isi_list, _, rfl, ?_⟩
    cases c : isD "list" d with
    | false => exact iteT (q H (Same.refl _))
    | true =>
      obtain ⟨ds, rfl⟩ := isD_list c
      obtain ⟨hn, s2⟩ := hl ds rfl
      obtain ⟨a, xs, rfl, ha, hx⟩ := lap ds rfl
      have lx := hx.length
      refine iteF ?_
      refine ⟨_, rfl, .inl ⟨rfl, _, .inl (.inl ha)⟩, a, xs, _, rfl, rfl, ha, sz5' (by omega), ?_⟩
      have d2 : Dt K (L2.upd H a (.lst (xs ++ [.str "late"]))) (.ref a) (.list (ds ++ [.str "late"])) := .lst (.inl (.inl (upd_same ..))) (DtAll.same (hide_upd ▸ hide_same) (hx.append (.cons (.str _) .nil)))
      refine ⟨_, rfl, _, _, rfl, d2, s2.1, s2.2, s2.3, _, rfl, _, _, rfl, d2, s2.1, s2.2, s2.3, rfl, ?_⟩
      have lp : (xs ++ [V.str "late"]).dropLast = xs := by simp
      have lg : (xs ++ [V.str "late"])[(xs ++ [V.str "late"]).length - 1]? = some (V.str "late") := by simp
      refine ⟨_, rfl, .inl ⟨rfl, _, .inl (.inl (upd_same ..))⟩, a, _, _, rfl, rfl, upd_same .., lg, ?_⟩
      rw [lp, upd_upd]
      have eb : (decide (V.str (PyData.list (ds ++ [.str "late"])).shown = V.str (PyData.list (ds ++ [.str "late"])).shown)) = true := decide_eq_true rfl
      rw [eb]
      refine ⟨_, rfl, q _ fun b o e => ?_⟩
      by_cases z : b = a
      · rw [z, upd_same]
        rw [z, ha] at e
        exact e
      · rw [upd_ne z]; exact e
end

end TS

namespace TS
open PySem PySem.Spec PyProof.Rows L2 TL
/-! ### fields, families, names -/
/-- a thing that may be a refusal's very thing -/
structure Thg (K : PySem.W.Frag) (H : Hp) (v : V) (d : PyData) : Prop where
  dt : Dt K H v d
  sh : Shows d
  lap : Lap K H v d
  few : ∀ ds, d = .list ds → ds.length ≤ 1000 ∧ Shows (.list (ds ++ [.str "late"]))
theorem Thg.same {K : PySem.W.Frag} {H G : Hp} {v : V} {d : PyData} (s : Same H G) (h : Thg K H v d) : Thg K G v d := ⟨Dt.same s h.dt, h.sh, h.lap.same s, h.few⟩
structure Xfs (K : PySem.W.Frag) : Prop where
  x : ∀ i, i < 34 → XfC K (cE K i)
  n : ∀ i, i < 34 → PySem.W.findIn K (.ref (cE K i)) (fldE.getD i "") = some none
def spFieldsR (K : PySem.W.Frag) : Sp := fun vs H Q _ => ∃ (i : Nat) (a : Addr) (v : V) (d : PyData), vs = [.int i, .ref a, v] ∧ i < 34 ∧ EAt K H i a v ∧ Thg K H v d ∧ ∀ G, Same H G → Q (.bl true) G
def spTaken (K : PySem.W.Frag) : Sp := fun vs H Q _ => ∃ (i : Nat) (a : Addr), vs = [.ref a, .int i] ∧ i < 34 ∧ Hld H a (cE K i) ∧ ∀ G, Same H G → Q (.bl true) G
section
variable {P : Program} {w : World} {K : PySem.W.Frag} {mg : Str → Option Value} {base : Heap}
theorem sc__law_fields_right : FnScope ["_law_place", "_law_e", "_law_one"] ["_law_place", "_law_e", "_law_one"] (defScope s__law_fields_right) := ⟨rfl, rfl, rfl, by decide +kernel, rfl, by decide +kernel, by decide +kernel⟩

set_option maxHeartbeats 1000000 in
theorem ok_fields (S : Xfs K) (p__law_very : PromG P w K mg base 1 "_law_very" ["_law_gained", "_law_thing"] (spVery K)) (D : Def K mg "_law_fields_right" s__law_fields_right) : PromG P w K mg base 2 "_law_fields_right" ["_law_place", "_law_e", "_law_one"] (spFieldsR K) := by
  refine promG_mk D sc__law_fields_right (fun vs H Q E h => ?_) (fun _ _ _ _ _ _ us hl => match us, hl with | [_, _, _], _ => rfl) (fun f cdv A outer s H vs Q E hgd hr h => ?_)
  · obtain ⟨i, a, v, d, rfl, _⟩ := h
    rfl
  · obtain ⟨i, a, v, d, rfl, hi, he, ht, q⟩ := h
    refine ⟨_, (pss_cons (ps_if (pt_cmpR op_eq (pv 0) pe_int (nomark _)) (pss_one (ps_ret (pe_pcG p__law_very hgd (hr.mono (by decide)) rfl (pa_cons (pe_xfH (K := K) (pv 1)) (pa_cons (pv 2) pa_nil))))) pss_nil)
      (pss_cons (ps_if (pt_cmpR op_eq (pv 0) pe_int (nomark _)) (pss_one (ps_ret (pe_pcG p__law_very hgd (hr.mono (by decide)) rfl (pa_cons (pe_xfH (K := K) (pv 1)) (pa_cons (pv 2) pa_nil))))) pss_nil)
      (pss_cons (ps_if (pt_cmpR op_eq (pv 0) pe_int (nomark _)) (pss_one (ps_ret (pe_pcG p__law_very hgd (hr.mono (by decide)) rfl (pa_cons (pe_xfH (K := K) (pv 1)) (pa_cons (pv 2) pa_nil))))) pss_nil)
      (pss_cons (ps_if (pt_cmpR op_eq (pv 0) pe_int (nomark _)) (pss_one (ps_ret (pe_pcG p__law_very hgd (hr.mono (by decide)) rfl (pa_cons (pe_xfH (K := K) (pv 1)) (pa_cons (pv 2) pa_nil))))) pss_nil)
      (pss_cons (ps_if (pt_cmpR op_eq (pv 0) pe_int (nomark _)) (pss_one (ps_ret (pe_pcG p__law_very hgd (hr.mono (by decide)) rfl (pa_cons (pe_xfH (K := K) (pv 1)) (pa_cons (pv 2) pa_nil))))) pss_nil)
      (pss_cons (ps_if (pt_cmpR op_eq (pv 0) pe_int (nomark _)) (pss_one (ps_ret (pe_pcG p__law_very hgd (hr.mono (by decide)) rfl (pa_cons (pe_xfH (K := K) (pv 1)) (pa_cons (pv 2) pa_nil))))) pss_nil)
      (pss_cons (ps_if (pt_cmpR op_eq (pv 0) pe_int (nomark _)) (pss_one (ps_ret (pe_pcG p__law_very hgd (hr.mono (by decide)) rfl (pa_cons (pe_xfH (K := K) (pv 1)) (pa_cons (pv 2) pa_nil))))) pss_nil)
      (pss_cons (ps_if (pt_cmpR op_eq (pv 0) pe_int (nomark _)) (pss_one (ps_ret pe_bl)) pss_nil)
      (pss_cons (ps_if (pt_cmpR op_eq (pv 0) pe_int (nomark _)) (pss_one (ps_ret (pe_pcG p__law_very hgd (hr.mono (by decide)) rfl (pa_cons (pe_xfH (K := K) (pv 1)) (pa_cons (pv 2) pa_nil))))) pss_nil)
      (pss_cons (ps_if (pt_cmpR op_eq (pv 0) pe_int (nomark _)) (pss_one (ps_ret (pe_pcG p__law_very hgd (hr.mono (by decide)) rfl (pa_cons (pe_xfH (K := K) (pv 1)) (pa_cons (pv 2) pa_nil))))) pss_nil)
      (pss_one (ps_ret (pe_pcG p__law_very hgd (hr.mono (by decide)) rfl (pa_cons (pe_xfH (K := K) (pv 1)) (pa_cons (pv 2) pa_nil))))))))))))))), ?_⟩
    have go : ∀ (f : Str), fldE.getD i "" = f → i ≠ 31 → ∃ dd fs, H a = some (exo a (cE K i) (some dd)) ∧ H dd = some (exd dd fs) ∧ XfC K (cE K i) ∧ PySem.W.findIn K (.ref (cE K i)) f = some none ∧ fs.lookup f = some v := fun f ef n => by
      obtain ⟨dd, h1, h2⟩ := he.1 n
      refine ⟨dd, _, h1, h2, S.x i hi, ef ▸ S.n i hi, ?_⟩
      rw [ef]
      simp [List.lookup]
    have fld : ∀ j, j < 34 → fldE.getD j "" = (if j = 3 ∨ j = 5 ∨ j = 22 then ("at" : Str) else if j = 23 then "row" else if j = 6 ∨ j = 27 ∨ j = 28 ∨ j = 31 ∨ j = 32 ∨ j = 33 then "many" else "found") := by decide +kernel
    have fi := fld i hi
    refine ⟨_, rfl, rfl, _, rfl, ?_⟩
    by_cases c3 : i = 3
    · refine iteT' (decide_eq_true (by rw [c3]; rfl)) ?_
      obtain ⟨dd, fs, h1, h2, h3, h4, h5⟩ := go "at" (by rw [fi, c3]; decide +kernel) (by omega)
      exact ⟨_, rfl, a, cE K i, dd, fs, v, rfl, h1, h2, h3, h4, h5, _, rfl, v, d, rfl, ht.dt, ht.sh, ht.lap, ht.few, q⟩
    refine iteF' (decide_eq_false (fun z => c3 (by have := V.int.inj z; omega))) ?_
    refine ⟨_, rfl, rfl, _, rfl, ?_⟩
    by_cases c5 : i = 5
    · refine iteT' (decide_eq_true (by rw [c5]; rfl)) ?_
      obtain ⟨dd, fs, h1, h2, h3, h4, h5⟩ := go "at" (by rw [fi, c5]; decide +kernel) (by omega)
      exact ⟨_, rfl, a, cE K i, dd, fs, v, rfl, h1, h2, h3, h4, h5, _, rfl, v, d, rfl, ht.dt, ht.sh, ht.lap, ht.few, q⟩
    refine iteF' (decide_eq_false (fun z => c5 (by have := V.int.inj z; omega))) ?_
    refine ⟨_, rfl, rfl, _, rfl, ?_⟩
    by_cases c6 : i = 6
    · refine iteT' (decide_eq_true (by rw [c6]; rfl)) ?_
      obtain ⟨dd, fs, h1, h2, h3, h4, h5⟩ := go "many" (by rw [fi, c6]; decide +kernel) (by omega)
      exact ⟨_, rfl, a, cE K i, dd, fs, v, rfl, h1, h2, h3, h4, h5, _, rfl, v, d, rfl, ht.dt, ht.sh, ht.lap, ht.few, q⟩
    refine iteF' (decide_eq_false (fun z => c6 (by have := V.int.inj z; omega))) ?_
    refine ⟨_, rfl, rfl, _, rfl, ?_⟩
    by_cases c22 : i = 22
    · refine iteT' (decide_eq_true (by rw [c22]; rfl)) ?_
      obtain ⟨dd, fs, h1, h2, h3, h4, h5⟩ := go "at" (by rw [fi, c22]; decide +kernel) (by omega)
      exact ⟨_, rfl, a, cE K i, dd, fs, v, rfl, h1, h2, h3, h4, h5, _, rfl, v, d, rfl, ht.dt, ht.sh, ht.lap, ht.few, q⟩
    refine iteF' (decide_eq_false (fun z => c22 (by have := V.int.inj z; omega))) ?_
    refine ⟨_, rfl, rfl, _, rfl, ?_⟩
    by_cases c23 : i = 23
    · refine iteT' (decide_eq_true (by rw [c23]; rfl)) ?_
      obtain ⟨dd, fs, h1, h2, h3, h4, h5⟩ := go "row" (by rw [fi, c23]; decide +kernel) (by omega)
      exact ⟨_, rfl, a, cE K i, dd, fs, v, rfl, h1, h2, h3, h4, h5, _, rfl, v, d, rfl, ht.dt, ht.sh, ht.lap, ht.few, q⟩
    refine iteF' (decide_eq_false (fun z => c23 (by have := V.int.inj z; omega))) ?_
    refine ⟨_, rfl, rfl, _, rfl, ?_⟩
    by_cases c27 : i = 27
    · refine iteT' (decide_eq_true (by rw [c27]; rfl)) ?_
      obtain ⟨dd, fs, h1, h2, h3, h4, h5⟩ := go "many" (by rw [fi, c27]; decide +kernel) (by omega)
      exact ⟨_, rfl, a, cE K i, dd, fs, v, rfl, h1, h2, h3, h4, h5, _, rfl, v, d, rfl, ht.dt, ht.sh, ht.lap, ht.few, q⟩
    refine iteF' (decide_eq_false (fun z => c27 (by have := V.int.inj z; omega))) ?_
    refine ⟨_, rfl, rfl, _, rfl, ?_⟩
    by_cases c28 : i = 28
    · refine iteT' (decide_eq_true (by rw [c28]; rfl)) ?_
      obtain ⟨dd, fs, h1, h2, h3, h4, h5⟩ := go "many" (by rw [fi, c28]; decide +kernel) (by omega)
      exact ⟨_, rfl, a, cE K i, dd, fs, v, rfl, h1, h2, h3, h4, h5, _, rfl, v, d, rfl, ht.dt, ht.sh, ht.lap, ht.few, q⟩
    refine iteF' (decide_eq_false (fun z => c28 (by have := V.int.inj z; omega))) ?_
    refine ⟨_, rfl, rfl, _, rfl, ?_⟩
    by_cases c31 : i = 31
    · refine iteT' (decide_eq_true (by rw [c31]; rfl)) ?_
      exact q _ (Same.refl _)
    refine iteF' (decide_eq_false (fun z => c31 (by have := V.int.inj z; omega))) ?_
    refine ⟨_, rfl, rfl, _, rfl, ?_⟩
    by_cases c32 : i = 32
    · refine iteT' (decide_eq_true (by rw [c32]; rfl)) ?_
      obtain ⟨dd, fs, h1, h2, h3, h4, h5⟩ := go "many" (by rw [fi, c32]; decide +kernel) (by omega)
      exact ⟨_, rfl, a, cE K i, dd, fs, v, rfl, h1, h2, h3, h4, h5, _, rfl, v, d, rfl, ht.dt, ht.sh, ht.lap, ht.few, q⟩
    refine iteF' (decide_eq_false (fun z => c32 (by have := V.int.inj z; omega))) ?_
    refine ⟨_, rfl, rfl, _, rfl, ?_⟩
    by_cases c33 : i = 33
    · refine iteT' (decide_eq_true (by rw [c33]; rfl)) ?_
      obtain ⟨dd, fs, h1, h2, h3, h4, h5⟩ := go "many" (by rw [fi, c33]; decide +kernel) (by omega)
      exact ⟨_, rfl, a, cE K i, dd, fs, v, rfl, h1, h2, h3, h4, h5, _, rfl, v, d, rfl, ht.dt, ht.sh, ht.lap, ht.few, q⟩
    refine iteF' (decide_eq_false (fun z => c33 (by have := V.int.inj z; omega))) ?_
    obtain ⟨dd, fs, h1, h2, h3, h4, h5⟩ := go "found" (by rw [fi, if_neg (by omega), if_neg (by omega), if_neg (by omega)]) (by omega)
    exact ⟨_, rfl, a, cE K i, dd, fs, v, rfl, h1, h2, h3, h4, h5, _, rfl, v, d, rfl, ht.dt, ht.sh, ht.lap, ht.few, q⟩
theorem sc__law_taken : FnScope ["_law_e", "_law_place"] ["_law_e", "_law_place"] (defScope s__law_taken) := ⟨rfl, rfl, rfl, by decide +kernel, rfl, by decide +kernel, by decide +kernel⟩

set_option maxHeartbeats 1000000 in
theorem ok_taken (bt : Bt mg) (ks : Ks K) (gE : ∀ i, i < 37 → mg (nmE.getD i "") = some (.ref (cE K i))) (f0 : FamE K (cE K 34) "ValueError.__new__" "ValueError.__init__" veT) (f1 : FamE K (cE K 35) "LookupError.__new__" "KeyError.__init__" keyT) (f2 : FamE K (cE K 36) "LookupError.__new__" "LookupError.__init__" lookT)
    (xm : ∀ i, i < 3 → ∀ j, j < 3 → PySem.W.exmOne K (.ref (cE K (34 + i))) (.ref (cE K (34 + j))) = some (decide (i = j))) (D : Def K mg "_law_taken" s__law_taken) : Prom P w K mg base 1 "_law_taken" ["_law_e", "_law_place"] (spTaken K) := by
  have g_TermError : mg "TermError" = some (.ref (He.ga K "TermError")) := gE 34 (by decide)
  have g_Absent : mg "Absent" = some (.ref (He.ga K "Absent")) := gE 35 (by decide)
  have g_Ended : mg "Ended" = some (.ref (He.ga K "Ended")) := gE 36 (by decide)
  have t_TermError : OexT K (He.ga K "TermError") "ValueError.__new__" veT := f0.ox
  have t_Absent : OexT K (He.ga K "Absent") "LookupError.__new__" keyT := f1.ox
  have t_Ended : OexT K (He.ga K "Ended") "LookupError.__new__" lookT := f2.ox
  have b_TermError : PySem.W.findIn K (.ref (He.ga K "TermError")) "__init__" = some (some (.builtin "ValueError.__init__")) := f0.ini
  have b_Absent : PySem.W.findIn K (.ref (He.ga K "Absent")) "__init__" = some (some (.builtin "KeyError.__init__")) := f1.ini
  have b_Ended : PySem.W.findIn K (.ref (He.ga K "Ended")) "__init__" = some (some (.builtin "LookupError.__init__")) := f2.ini
  refine prom_mk D sc__law_taken (fun vs H Q E h => ?_) (fun _ _ _ _ _ _ us hl => match us, hl with | [_, _], _ => rfl) (fun f cdv A outer s H vs Q E hr h => ?_)
  · obtain ⟨i, a, rfl, _⟩ := h
    rfl
  · obtain ⟨i, a, rfl, hi, hl, q⟩ := h
    have hi' : i < 37 := by omega
    refine ⟨_, (pss_one (ps_try rfl rfl sc__law_taken.nd (fun W pn xe tk po => (pss_cons (ps_if (pt_cmpR op_lt (pv 1) pe_int (nomark _)) (pss_one (ps_raise rfl tk (pmk_fam bas_VE t_TermError b_TermError rfl g_TermError (pa_cons pe_str pa_nil)))) pss_nil)
      (pss_cons (ps_if (pt_cmpR op_lt (pv 1) pe_int (nomark _)) (pss_one (ps_raise rfl tk (pmk_fam bas_Key t_Absent b_Absent rfl g_Absent (pa_cons pe_str pa_nil)))) pss_nil)
      (pss_one (ps_raise rfl tk (pmk_fam bas_Look t_Ended b_Ended rfl g_Ended (pa_cons pe_str pa_nil))))))) (ClausesOk.only ⟨rfl, by decide, .inl g_TermError⟩ (fun a oe cls d pn zc hfl => (pss_one (ps_ret (pe_callB (id := "isinstance") (call_isH (K := K) rfl) (by rfl) bt.isinstance_ (by decide +kernel) (pa_cons (pv 0) (pa_cons (pe_glob (v := .ref (He.ga K "TermError")) rfl g_TermError rfl) pa_nil)))))) (ClausesOk.only ⟨rfl, by decide, .inl g_Absent⟩ (fun a oe cls d pn zc hfl => (pss_one (ps_ret (pe_callB (id := "isinstance") (call_isH (K := K) rfl) (by rfl) bt.isinstance_ (by decide +kernel) (pa_cons (pv 0) (pa_cons (pe_glob (v := .ref (He.ga K "Absent")) rfl g_Absent rfl) pa_nil)))))) (ClausesOk.only ⟨rfl, by decide, .inl g_Ended⟩ (fun a oe cls d pn zc hfl => (pss_one (ps_ret (pe_callB (id := "isinstance") (call_isH (K := K) rfl) (by rfl) bt.isinstance_ (by decide +kernel) (pa_cons (pv 0) (pa_cons (pe_glob (v := .ref (He.ga K "Ended")) rfl g_Ended rfl) pa_nil)))))) ClausesOk.stop))))), ?_⟩
    have ret : ∀ (j : Nat) (hj : j < 37), isE i j = true → rIsH K [.ref a, .ref (cE K j)] H Q := fun j hj e => ⟨a, cE K i, .ref (cE K j), .ref (cE K j), _, rfl, hl, ks.ex i hi', (fun _ h => h), ks.kk i hi' j hj, by rw [e]; exact q H (Same.refl _)⟩
    refine ⟨_, rfl, _, _, rfl, rfl, _, rfl, ?_⟩
    by_cases c1 : i < 29
    · refine iteT' (decide_eq_true (by omega)) ⟨(by show 1 ≤ 1000; decide), true, xm 0 (by decide) 0 (by decide), fun _ a' na => ⟨_, rfl, ret 34 (by decide) ?_⟩, fun h => by cases h⟩
      unfold isE
      rw [decide_eq_true c1]
      simp
    refine iteF' (decide_eq_false (by omega)) ⟨_, rfl, _, _, rfl, rfl, _, rfl, ?_⟩
    by_cases c2 : i < 31
    · refine iteT' (decide_eq_true (by omega)) ⟨(by show 1 ≤ 1000; decide), false, xm 1 (by decide) 0 (by decide), (fun h => by cases h), fun _ => ⟨true, xm 1 (by decide) 1 (by decide), fun _ a' na => ⟨_, rfl, ret 35 (by decide) ?_⟩, fun h => by cases h⟩⟩
      unfold isE
      rw [decide_eq_true c2, decide_eq_true (show 29 ≤ i by omega)]
      simp
    refine iteF' (decide_eq_false (by omega)) ⟨(by show 1 ≤ 1000; decide), false, xm 2 (by decide) 0 (by decide), (fun h => by cases h), fun _ => ⟨false, xm 2 (by decide) 1 (by decide), (fun h => by cases h), fun _ => ⟨true, xm 2 (by decide) 2 (by decide), fun _ a' na => ⟨_, rfl, ret 36 (by decide) ?_⟩, fun h => by cases h⟩⟩⟩
    unfold isE
    rw [decide_eq_true hi, decide_eq_true (show 31 ≤ i by omega)]
    simp
end

end TS

namespace TS
open PySem PySem.Spec PyProof.Rows L2 TL
/-! ### refusals made by names -/
theorem dt_bools {K : PySem.W.Frag} {G : Hp} : ∀ bs : List Bool, DtAll K G (bs.map V.bl) (bs.map PyData.bool)
  | [] => .nil
  | b :: r => .cons (.bl b) (dt_bools r)
theorem eqv_bools : ∀ xs ys : List Bool, PyData.eqvAll (xs.map PyData.bool) (ys.map PyData.bool) = decide (xs = ys)
  | [], [] => rfl
  | [], y :: r => rfl
  | z :: r, [] => rfl
  | z :: r, y :: t => by
    show (PyData.eqv (.bool z) (.bool y) && PyData.eqvAll (r.map PyData.bool) (t.map PyData.bool)) = _
    rw [eqv_bools r t]
    have e : PyData.eqv (.bool z) (.bool y) = decide (z = y) := by cases z <;> cases y <;> rfl
    rw [e]
    by_cases h : z = y
    · subst h; simp
    · simp [h]
theorem bools_ne {K : PySem.W.Frag} {G : Hp} {a b : Addr} {xs ys : List Bool} {Q : VK} (ha : SqL K G a (xs.map V.bl)) (hb : SqL K G b (ys.map V.bl)) (q : Q (.bl (!decide (xs = ys))) G) : rNeD K (.ref a) (.ref b) G Q := by
  have lay : ∀ zs : List Bool, ∀ e ∈ zs.map PyData.bool, e.canLay0 = true ∧ e.depth ≤ 30 := fun zs e he => by
    obtain ⟨z, _, rfl⟩ := List.mem_map.mp he
    exact ⟨rfl, Nat.zero_le _⟩
  refine ⟨.list (xs.map .bool), .list (ys.map .bool), Dp.lst ha ((dt_bools xs).dp (lay_all fun e he => (lay xs e he).1)), Dp.lst hb ((dt_bools ys).dp (lay_all fun e he => (lay ys e he).1)), shaped_list (lay xs), shaped_list (lay ys), ?_⟩
  have e : PyData.eqv (.list (xs.map PyData.bool)) (.list (ys.map PyData.bool)) = decide (xs = ys) := by
    unfold PyData.eqv
    exact eqv_bools xs ys
  rw [e]
  exact q
def spByName (K : PySem.W.Frag) : Sp := fun vs H Q _ => ∃ (v : V) (d : PyData), vs = [v] ∧ Thg K H v d ∧ ∀ G, Same H G → Q (.bl true) G
structure Nams (P : Program) (w : World) (K : PySem.W.Frag) (mg : Str → Option Value) (base : Heap) : Prop where
  n : ∀ i ∈ [0, 7, 25, 26, 29, 3, 5, 22, 27, 28, 32, 6, 23], PromAN P w K mg base 1 (He.ma K (cE K i) "__init__") ["self", fldE.getD i ""] (spIni (cE K i) (fldE.getD i "")) 1 [fldE.getD i ""] (fun vs zs => vs ++ zs)
section
variable {P : Program} {w : World} {K : PySem.W.Frag} {mg : Str → Option Value} {base : Heap}
theorem sc__law_by_name_right : FnScope ["_law_one", "_law_made", "_law_e"] ["_law_one"] (defScope s__law_by_name_right) := ⟨rfl, rfl, rfl, by decide +kernel, rfl, by decide +kernel, by decide +kernel⟩

set_option maxHeartbeats 2000000 in
theorem ok_byname (bt : Bt mg) (S : Inis P w K mg base) (N : Nams P w K mg base) (X : Xfs K) (p__law_very : PromG P w K mg base 1 "_law_very" ["_law_gained", "_law_thing"] (spVery K)) (D : Def K mg "_law_by_name_right" s__law_by_name_right) : PromG P w K mg base 3 "_law_by_name_right" ["_law_one"] (spByName K) := by
  have g_NoName : mg "NoName" = some (.ref (He.ga K "NoName")) := S.g 0 (by decide)
  have x_NoName : OwnT K (He.ga K "NoName") "found" "ValueError.__new__" veT := S.o0 0 (by decide)
  have pn_NoName : PromAN P w K mg base 1 (He.ma K (He.ga K "NoName") "__init__") ["self", "found"] (spIni (He.ga K "NoName") "found") 1 ["found"] (fun vs zs => vs ++ zs) := N.n 0 (by decide)
  have g_NoTerm : mg "NoTerm" = some (.ref (He.ga K "NoTerm")) := S.g 7 (by decide)
  have x_NoTerm : OwnT K (He.ga K "NoTerm") "found" "ValueError.__new__" veT := S.o0 7 (by decide)
  have pn_NoTerm : PromAN P w K mg base 1 (He.ma K (He.ga K "NoTerm") "__init__") ["self", "found"] (spIni (He.ga K "NoTerm") "found") 1 ["found"] (fun vs zs => vs ++ zs) := N.n 7 (by decide)
  have g_Unlike : mg "Unlike" = some (.ref (He.ga K "Unlike")) := S.g 25 (by decide)
  have x_Unlike : OwnT K (He.ga K "Unlike") "found" "ValueError.__new__" veT := S.o0 25 (by decide)
  have pn_Unlike : PromAN P w K mg base 1 (He.ma K (He.ga K "Unlike") "__init__") ["self", "found"] (spIni (He.ga K "Unlike") "found") 1 ["found"] (fun vs zs => vs ++ zs) := N.n 25 (by decide)
  have g_Twice : mg "Twice" = some (.ref (He.ga K "Twice")) := S.g 26 (by decide)
  have x_Twice : OwnT K (He.ga K "Twice") "found" "ValueError.__new__" veT := S.o0 26 (by decide)
  have pn_Twice : PromAN P w K mg base 1 (He.ma K (He.ga K "Twice") "__init__") ["self", "found"] (spIni (He.ga K "Twice") "found") 1 ["found"] (fun vs zs => vs ++ zs) := N.n 26 (by decide)
  have g_NotThere : mg "NotThere" = some (.ref (He.ga K "NotThere")) := S.g 29 (by decide)
  have x_NotThere : OwnT K (He.ga K "NotThere") "found" "LookupError.__new__" keyT := S.o1 29 (by decide) (by decide)
  have pn_NotThere : PromAN P w K mg base 1 (He.ma K (He.ga K "NotThere") "__init__") ["self", "found"] (spIni (He.ga K "NotThere") "found") 1 ["found"] (fun vs zs => vs ++ zs) := N.n 29 (by decide)
  have g_NoSign : mg "NoSign" = some (.ref (He.ga K "NoSign")) := S.g 3 (by decide)
  have x_NoSign : OwnT K (He.ga K "NoSign") "at" "ValueError.__new__" veT := S.o0 3 (by decide)
  have pn_NoSign : PromAN P w K mg base 1 (He.ma K (He.ga K "NoSign") "__init__") ["self", "at"] (spIni (He.ga K "NoSign") "at") 1 ["at"] (fun vs zs => vs ++ zs) := N.n 3 (by decide)
  have g_Beyond : mg "Beyond" = some (.ref (He.ga K "Beyond")) := S.g 5 (by decide)
  have x_Beyond : OwnT K (He.ga K "Beyond") "at" "ValueError.__new__" veT := S.o0 5 (by decide)
  have pn_Beyond : PromAN P w K mg base 1 (He.ma K (He.ga K "Beyond") "__init__") ["self", "at"] (spIni (He.ga K "Beyond") "at") 1 ["at"] (fun vs zs => vs ++ zs) := N.n 5 (by decide)
  have g_NoDeed : mg "NoDeed" = some (.ref (He.ga K "NoDeed")) := S.g 22 (by decide)
  have x_NoDeed : OwnT K (He.ga K "NoDeed") "at" "ValueError.__new__" veT := S.o0 22 (by decide)
  have pn_NoDeed : PromAN P w K mg base 1 (He.ma K (He.ga K "NoDeed") "__init__") ["self", "at"] (spIni (He.ga K "NoDeed") "at") 1 ["at"] (fun vs zs => vs ++ zs) := N.n 22 (by decide)
  have g_TooMany : mg "TooMany" = some (.ref (He.ga K "TooMany")) := S.g 27 (by decide)
  have x_TooMany : OwnT K (He.ga K "TooMany") "many" "ValueError.__new__" veT := S.o0 27 (by decide)
  have pn_TooMany : PromAN P w K mg base 1 (He.ma K (He.ga K "TooMany") "__init__") ["self", "many"] (spIni (He.ga K "TooMany") "many") 1 ["many"] (fun vs zs => vs ++ zs) := N.n 27 (by decide)
  have g_TooGreat : mg "TooGreat" = some (.ref (He.ga K "TooGreat")) := S.g 28 (by decide)
  have x_TooGreat : OwnT K (He.ga K "TooGreat") "many" "ValueError.__new__" veT := S.o0 28 (by decide)
  have pn_TooGreat : PromAN P w K mg base 1 (He.ma K (He.ga K "TooGreat") "__init__") ["self", "many"] (spIni (He.ga K "TooGreat") "many") 1 ["many"] (fun vs zs => vs ++ zs) := N.n 28 (by decide)
  have g_Changed : mg "Changed" = some (.ref (He.ga K "Changed")) := S.g 32 (by decide)
  have x_Changed : OwnT K (He.ga K "Changed") "many" "LookupError.__new__" lookT := S.o2 32 (by decide) (by decide)
  have pn_Changed : PromAN P w K mg base 1 (He.ma K (He.ga K "Changed") "__init__") ["self", "many"] (spIni (He.ga K "Changed") "many") 1 ["many"] (fun vs zs => vs ++ zs) := N.n 32 (by decide)
  have g_Unended : mg "Unended" = some (.ref (He.ga K "Unended")) := S.g 6 (by decide)
  have x_Unended : OwnT K (He.ga K "Unended") "many" "ValueError.__new__" veT := S.o0 6 (by decide)
  have pn_Unended : PromAN P w K mg base 1 (He.ma K (He.ga K "Unended") "__init__") ["self", "many"] (spIni (He.ga K "Unended") "many") 1 ["many"] (fun vs zs => vs ++ zs) := N.n 6 (by decide)
  have g_NoText : mg "NoText" = some (.ref (He.ga K "NoText")) := S.g 23 (by decide)
  have x_NoText : OwnT K (He.ga K "NoText") "row" "ValueError.__new__" veT := S.o0 23 (by decide)
  have pn_NoText : PromAN P w K mg base 1 (He.ma K (He.ga K "NoText") "__init__") ["self", "row"] (spIni (He.ga K "NoText") "row") 1 ["row"] (fun vs zs => vs ++ zs) := N.n 23 (by decide)
  refine promG_mk D sc__law_by_name_right (fun vs H Q E h => ?_) (fun _ _ _ _ _ _ us hl => match us, hl with | [_], _ => rfl) (fun f cdv A outer s H vs Q E hgd hr h => ?_)
  · obtain ⟨v, d, rfl, _⟩ := h
    rfl
  · obtain ⟨v, d, rfl, ht, q⟩ := h
    refine ⟨_, (pss_cons (ps_set (i := 1) sc__law_by_name_right.nd rfl (Or.inl rfl) (pe_lst (pa_cons (pe_exVN bas_VE x_NoName pn_NoName (hr.mono (by decide)) rfl g_NoName (pk_cons (pv 0) pk_nil)) (pa_cons (pe_exVN bas_VE x_NoTerm pn_NoTerm (hr.mono (by decide)) rfl g_NoTerm (pk_cons (pv 0) pk_nil)) (pa_cons (pe_exVN bas_VE x_Unlike pn_Unlike (hr.mono (by decide)) rfl g_Unlike (pk_cons (pv 0) pk_nil)) (pa_cons (pe_exVN bas_VE x_Twice pn_Twice (hr.mono (by decide)) rfl g_Twice (pk_cons (pv 0) pk_nil)) (pa_cons (pe_exVN bas_Key x_NotThere pn_NotThere (hr.mono (by decide)) rfl g_NotThere (pk_cons (pv 0) pk_nil)) pa_nil)))))))
      (pss_cons (ps_if (pt_cmpR (op_neDK (K := K) hr.units) (pe_lc (own := [("_law_e", 2)]) (g := gName 2) rfl sc__law_by_name_right.nd (pi_listK (K := K) rfl (pv 1)) (blkOk_by (N := ["_law_one", "_law_made", "_law_e"]) (sc := defScope s__law_by_name_right) (by decide +kernel)) (fun _ _ _ _ _ => (pg_name (i := 2) sc__law_by_name_right.nd rfl (Or.inl rfl))) (fun _ _ _ _ _ => (pts_one (pt_not (pt_val (pe_pcG p__law_very hgd (hr.mono (by decide)) rfl (pa_cons (pe_xfH (K := K) (pv 2)) (pa_cons (pv 0) pa_nil))))))) (fun _ _ _ _ _ => pe_int)) (pe_lst pa_nil) (nomark _)) (pss_one (ps_ret pe_bl)) pss_nil)
      (pss_cons (ps_set (i := 1) sc__law_by_name_right.nd rfl (Or.inl rfl) (pe_lst (pa_cons (pe_exVN bas_VE x_NoSign pn_NoSign (hr.mono (by decide)) rfl g_NoSign (pk_cons (pv 0) pk_nil)) (pa_cons (pe_exVN bas_VE x_Beyond pn_Beyond (hr.mono (by decide)) rfl g_Beyond (pk_cons (pv 0) pk_nil)) (pa_cons (pe_exVN bas_VE x_NoDeed pn_NoDeed (hr.mono (by decide)) rfl g_NoDeed (pk_cons (pv 0) pk_nil)) pa_nil)))))
      (pss_cons (ps_if (pt_cmpR (op_neDK (K := K) hr.units) (pe_lc (own := [("_law_e", 2)]) (g := gName 2) rfl sc__law_by_name_right.nd (pi_listK (K := K) rfl (pv 1)) (blkOk_by (N := ["_law_one", "_law_made", "_law_e"]) (sc := defScope s__law_by_name_right) (by decide +kernel)) (fun _ _ _ _ _ => (pg_name (i := 2) sc__law_by_name_right.nd rfl (Or.inl rfl))) (fun _ _ _ _ _ => (pts_one (pt_not (pt_val (pe_pcG p__law_very hgd (hr.mono (by decide)) rfl (pa_cons (pe_xfH (K := K) (pv 2)) (pa_cons (pv 0) pa_nil))))))) (fun _ _ _ _ _ => pe_int)) (pe_lst pa_nil) (nomark _)) (pss_one (ps_ret pe_bl)) pss_nil)
      (pss_cons (ps_set (i := 1) sc__law_by_name_right.nd rfl (Or.inl rfl) (pe_lst (pa_cons (pe_exVN bas_VE x_TooMany pn_TooMany (hr.mono (by decide)) rfl g_TooMany (pk_cons (pv 0) pk_nil)) (pa_cons (pe_exVN bas_VE x_TooGreat pn_TooGreat (hr.mono (by decide)) rfl g_TooGreat (pk_cons (pv 0) pk_nil)) (pa_cons (pe_exVN bas_Look x_Changed pn_Changed (hr.mono (by decide)) rfl g_Changed (pk_cons (pv 0) pk_nil)) (pa_cons (pe_exVN bas_VE x_Unended pn_Unended (hr.mono (by decide)) rfl g_Unended (pk_cons (pv 0) pk_nil)) pa_nil))))))
      (pss_one (ps_ret (pe_and (pe_cmpR (op_eqNil (K := K) hr.units) (pe_lc (own := [("_law_e", 2)]) (g := gName 2) rfl sc__law_by_name_right.nd (pi_listK (K := K) rfl (pv 1)) (blkOk_by (N := ["_law_one", "_law_made", "_law_e"]) (sc := defScope s__law_by_name_right) (by decide +kernel)) (fun _ _ _ _ _ => (pg_name (i := 2) sc__law_by_name_right.nd rfl (Or.inl rfl))) (fun _ _ _ _ _ => (pts_one (pt_not (pt_val (pe_pcG p__law_very hgd (hr.mono (by decide)) rfl (pa_cons (pe_xfH (K := K) (pv 2)) (pa_cons (pv 0) pa_nil))))))) (fun _ _ _ _ _ => pe_int)) (pe_lst pa_nil) (nomark _)) (pe_one (pe_pcG p__law_very hgd (hr.mono (by decide)) rfl (pa_cons (pe_xfH (K := K) (pe_exVN bas_VE x_NoText pn_NoText (hr.mono (by decide)) rfl g_NoText (pk_cons (pv 0) pk_nil))) (pa_cons (pv 0) pa_nil)))))))))))), ?_⟩
    have sv0 : Same H H := Same.refl H
    refine ⟨_, rfl, rfl, fun a00 ha00 => ⟨a00, _, rfl, upd_same .., fun d00 hd00 nd00 => ⟨rfl, ?_⟩⟩⟩
    obtain ⟨t00, e00, x00⟩ := eat_new (C := cE K 0) (f := fldE.getD 0 "") (v := v) ha00 hd00 nd00
    (generalize hG : L2.upd (L2.upd (L2.upd _ a00 _) d00 _) a00 _ = G00; rw [show L2.upd (L2.upd (L2.upd _ a00 (exo a00 (cE K 0) none)) d00 (exd d00 [(fldE.getD 0 "", v)])) a00 (exo a00 (cE K 0) (some d00)) = G00 from hG] at t00 e00 x00; clear hG ha00 hd00 nd00)
    have sv00 := sv0.trans t00
    refine ⟨_, rfl, rfl, fun a01 ha01 => ⟨a01, _, rfl, upd_same .., fun d01 hd01 nd01 => ⟨rfl, ?_⟩⟩⟩
    obtain ⟨t01, e01, x01⟩ := eat_new (C := cE K 7) (f := fldE.getD 7 "") (v := v) ha01 hd01 nd01
    (generalize hG : L2.upd (L2.upd (L2.upd _ a01 _) d01 _) a01 _ = G01; rw [show L2.upd (L2.upd (L2.upd _ a01 (exo a01 (cE K 7) none)) d01 (exd d01 [(fldE.getD 7 "", v)])) a01 (exo a01 (cE K 7) (some d01)) = G01 from hG] at t01 e01 x01; clear hG ha01 hd01 nd01)
    have sv01 := sv00.trans t01
    refine ⟨_, rfl, rfl, fun a02 ha02 => ⟨a02, _, rfl, upd_same .., fun d02 hd02 nd02 => ⟨rfl, ?_⟩⟩⟩
    obtain ⟨t02, e02, x02⟩ := eat_new (C := cE K 25) (f := fldE.getD 25 "") (v := v) ha02 hd02 nd02
    (generalize hG : L2.upd (L2.upd (L2.upd _ a02 _) d02 _) a02 _ = G02; rw [show L2.upd (L2.upd (L2.upd _ a02 (exo a02 (cE K 25) none)) d02 (exd d02 [(fldE.getD 25 "", v)])) a02 (exo a02 (cE K 25) (some d02)) = G02 from hG] at t02 e02 x02; clear hG ha02 hd02 nd02)
    have sv02 := sv01.trans t02
    refine ⟨_, rfl, rfl, fun a03 ha03 => ⟨a03, _, rfl, upd_same .., fun d03 hd03 nd03 => ⟨rfl, ?_⟩⟩⟩
    obtain ⟨t03, e03, x03⟩ := eat_new (C := cE K 26) (f := fldE.getD 26 "") (v := v) ha03 hd03 nd03
    (generalize hG : L2.upd (L2.upd (L2.upd _ a03 _) d03 _) a03 _ = G03; rw [show L2.upd (L2.upd (L2.upd _ a03 (exo a03 (cE K 26) none)) d03 (exd d03 [(fldE.getD 26 "", v)])) a03 (exo a03 (cE K 26) (some d03)) = G03 from hG] at t03 e03 x03; clear hG ha03 hd03 nd03)
    have sv03 := sv02.trans t03
    refine ⟨_, rfl, rfl, fun a04 ha04 => ⟨a04, _, rfl, upd_same .., fun d04 hd04 nd04 => ⟨rfl, ?_⟩⟩⟩
    obtain ⟨t04, e04, x04⟩ := eat_new (C := cE K 29) (f := fldE.getD 29 "") (v := v) ha04 hd04 nd04
    (generalize hG : L2.upd (L2.upd (L2.upd _ a04 _) d04 _) a04 _ = G04; rw [show L2.upd (L2.upd (L2.upd _ a04 (exo a04 (cE K 29) none)) d04 (exd d04 [(fldE.getD 29 "", v)])) a04 (exo a04 (cE K 29) (some d04)) = G04 from hG] at t04 e04 x04; clear hG ha04 hd04 nd04)
    have sv04 := sv03.trans t04
    refine ⟨(by show 5 ≤ sizeLine; decide), fun p0 hp0 => ?_⟩
    (generalize hG : L2.upd _ p0 _ = P0; have sp0 := same_of hG hp0; have ep0 := at_of hG; clear hG)
    have svp0 := sv04.trans sp0
    have es0 : ∀ (j : Nat) (x : V), [V.ref a00, V.ref a01, V.ref a02, V.ref a03, V.ref a04][j]? = some x → ∃ (a : Addr) (i : Nat), x = .ref a ∧ i < 34 ∧ fldE.getD i "" = "found" ∧ ∃ dd, P0 a = some (exo a (cE K i) (some dd)) ∧ P0 dd = some (exd dd [(fldE.getD i "", v)]) := by
      intro j x hx
      match j, hx with
      | 0, hx => cases hx; exact ⟨a00, 0, rfl, by decide, rfl, d00, (Same.trans t01 (Same.trans t02 (Same.trans t03 (Same.trans t04 (sp0))))) _ _ e00, (Same.trans t01 (Same.trans t02 (Same.trans t03 (Same.trans t04 (sp0))))) _ _ x00⟩
      | 1, hx => cases hx; exact ⟨a01, 7, rfl, by decide, rfl, d01, (Same.trans t02 (Same.trans t03 (Same.trans t04 (sp0)))) _ _ e01, (Same.trans t02 (Same.trans t03 (Same.trans t04 (sp0)))) _ _ x01⟩
      | 2, hx => cases hx; exact ⟨a02, 25, rfl, by decide, rfl, d02, (Same.trans t03 (Same.trans t04 (sp0))) _ _ e02, (Same.trans t03 (Same.trans t04 (sp0))) _ _ x02⟩
      | 3, hx => cases hx; exact ⟨a03, 26, rfl, by decide, rfl, d03, (Same.trans t04 (sp0)) _ _ e03, (Same.trans t04 (sp0)) _ _ x03⟩
      | 4, hx => cases hx; exact ⟨a04, 29, rfl, by decide, rfl, d04, (sp0) _ _ e04, (sp0) _ _ x04⟩
      | _ + 5, hx => simp at hx
    refine ⟨_, rfl, p0, rfl, ⟨_, .inl (.inl ep0)⟩, fun R0 hR0 => ?_⟩
    refine lc_it (walk_list (xs := [V.ref a00, V.ref a01, V.ref a02, V.ref a03, V.ref a04])) (fun i G => Same P0 G ∧ G R0 = some (.lst [])) ⟨Same.new (Same.refl _) hR0, upd_same ..⟩ (fun i G _ p => .inl (.inl (p.1 _ _ ep0))) ?_ ?_
    · rintro i x G' G hi ⟨p1, p2⟩ ⟨rfl, hx⟩
      obtain ⟨a, i, rfl, hi3, hf, dd, h1, h2⟩ := es0 _ _ hx
      rw [hf] at h2
      have ht1 := ht.same (svp0.trans p1)
      exact ⟨rfl, _, rfl, a, cE K i, dd, _, v, rfl, p1 _ _ h1, p1 _ _ h2, X.x i hi3, hf ▸ X.n i hi3, by simp [List.lookup], _, rfl, v, d, rfl, ht1.dt, ht1.sh, ht1.lap, ht1.few, fun G2 s2 => ⟨_, rfl, iteF ⟨p1.trans s2, s2 _ _ p2⟩⟩⟩
    rintro G0 ⟨q1_0, q2_0⟩
    refine ⟨(by show 0 ≤ sizeLine; decide), fun M0 hM0 => ?_⟩
    (generalize hG : L2.upd _ M0 _ = N0; have sM0 := same_of hG hM0; have eM0 := at_of hG; clear hG)
    have svm0 := (svp0.trans q1_0).trans sM0
    refine strs_ne (zs := []) (ys := []) (.inl (.inl (sM0 _ _ q2_0))) (.inl (.inl eM0)) (fun _ h => by cases h) (fun _ h => by cases h) ⟨_, rfl, iteF' (by decide) ?_⟩
    refine ⟨_, rfl, rfl, fun a10 ha10 => ⟨a10, _, rfl, upd_same .., fun d10 hd10 nd10 => ⟨rfl, ?_⟩⟩⟩
    obtain ⟨t10, e10, x10⟩ := eat_new (C := cE K 3) (f := fldE.getD 3 "") (v := v) ha10 hd10 nd10
    (generalize hG : L2.upd (L2.upd (L2.upd _ a10 _) d10 _) a10 _ = G10; rw [show L2.upd (L2.upd (L2.upd _ a10 (exo a10 (cE K 3) none)) d10 (exd d10 [(fldE.getD 3 "", v)])) a10 (exo a10 (cE K 3) (some d10)) = G10 from hG] at t10 e10 x10; clear hG ha10 hd10 nd10)
    have sv10 := svm0.trans t10
    refine ⟨_, rfl, rfl, fun a11 ha11 => ⟨a11, _, rfl, upd_same .., fun d11 hd11 nd11 => ⟨rfl, ?_⟩⟩⟩
    obtain ⟨t11, e11, x11⟩ := eat_new (C := cE K 5) (f := fldE.getD 5 "") (v := v) ha11 hd11 nd11
    (generalize hG : L2.upd (L2.upd (L2.upd _ a11 _) d11 _) a11 _ = G11; rw [show L2.upd (L2.upd (L2.upd _ a11 (exo a11 (cE K 5) none)) d11 (exd d11 [(fldE.getD 5 "", v)])) a11 (exo a11 (cE K 5) (some d11)) = G11 from hG] at t11 e11 x11; clear hG ha11 hd11 nd11)
    have sv11 := sv10.trans t11
    refine ⟨_, rfl, rfl, fun a12 ha12 => ⟨a12, _, rfl, upd_same .., fun d12 hd12 nd12 => ⟨rfl, ?_⟩⟩⟩
    obtain ⟨t12, e12, x12⟩ := eat_new (C := cE K 22) (f := fldE.getD 22 "") (v := v) ha12 hd12 nd12
    (generalize hG : L2.upd (L2.upd (L2.upd _ a12 _) d12 _) a12 _ = G12; rw [show L2.upd (L2.upd (L2.upd _ a12 (exo a12 (cE K 22) none)) d12 (exd d12 [(fldE.getD 22 "", v)])) a12 (exo a12 (cE K 22) (some d12)) = G12 from hG] at t12 e12 x12; clear hG ha12 hd12 nd12)
    have sv12 := sv11.trans t12
    refine ⟨(by show 3 ≤ sizeLine; decide), fun p1 hp1 => ?_⟩
    (generalize hG : L2.upd _ p1 _ = P1; have sp1 := same_of hG hp1; have ep1 := at_of hG; clear hG)
    have svp1 := sv12.trans sp1
    have es1 : ∀ (j : Nat) (x : V), [V.ref a10, V.ref a11, V.ref a12][j]? = some x → ∃ (a : Addr) (i : Nat), x = .ref a ∧ i < 34 ∧ fldE.getD i "" = "at" ∧ ∃ dd, P1 a = some (exo a (cE K i) (some dd)) ∧ P1 dd = some (exd dd [(fldE.getD i "", v)]) := by
      intro j x hx
      match j, hx with
      | 0, hx => cases hx; exact ⟨a10, 3, rfl, by decide, rfl, d10, (Same.trans t11 (Same.trans t12 (sp1))) _ _ e10, (Same.trans t11 (Same.trans t12 (sp1))) _ _ x10⟩
      | 1, hx => cases hx; exact ⟨a11, 5, rfl, by decide, rfl, d11, (Same.trans t12 (sp1)) _ _ e11, (Same.trans t12 (sp1)) _ _ x11⟩
      | 2, hx => cases hx; exact ⟨a12, 22, rfl, by decide, rfl, d12, (sp1) _ _ e12, (sp1) _ _ x12⟩
      | _ + 3, hx => simp at hx
    refine ⟨_, rfl, p1, rfl, ⟨_, .inl (.inl ep1)⟩, fun R1 hR1 => ?_⟩
    refine lc_it (walk_list (xs := [V.ref a10, V.ref a11, V.ref a12])) (fun i G => Same P1 G ∧ G R1 = some (.lst [])) ⟨Same.new (Same.refl _) hR1, upd_same ..⟩ (fun i G _ p => .inl (.inl (p.1 _ _ ep1))) ?_ ?_
    · rintro i x G' G hi ⟨p1, p2⟩ ⟨rfl, hx⟩
      obtain ⟨a, i, rfl, hi3, hf, dd, h1, h2⟩ := es1 _ _ hx
      rw [hf] at h2
      have ht1 := ht.same (svp1.trans p1)
      exact ⟨rfl, _, rfl, a, cE K i, dd, _, v, rfl, p1 _ _ h1, p1 _ _ h2, X.x i hi3, hf ▸ X.n i hi3, by simp [List.lookup], _, rfl, v, d, rfl, ht1.dt, ht1.sh, ht1.lap, ht1.few, fun G2 s2 => ⟨_, rfl, iteF ⟨p1.trans s2, s2 _ _ p2⟩⟩⟩
    rintro G1 ⟨q1_1, q2_1⟩
    refine ⟨(by show 0 ≤ sizeLine; decide), fun M1 hM1 => ?_⟩
    (generalize hG : L2.upd _ M1 _ = N1; have sM1 := same_of hG hM1; have eM1 := at_of hG; clear hG)
    have svm1 := (svp1.trans q1_1).trans sM1
    refine strs_ne (zs := []) (ys := []) (.inl (.inl (sM1 _ _ q2_1))) (.inl (.inl eM1)) (fun _ h => by cases h) (fun _ h => by cases h) ⟨_, rfl, iteF' (by decide) ?_⟩
    refine ⟨_, rfl, rfl, fun a20 ha20 => ⟨a20, _, rfl, upd_same .., fun d20 hd20 nd20 => ⟨rfl, ?_⟩⟩⟩
    obtain ⟨t20, e20, x20⟩ := eat_new (C := cE K 27) (f := fldE.getD 27 "") (v := v) ha20 hd20 nd20
    (generalize hG : L2.upd (L2.upd (L2.upd _ a20 _) d20 _) a20 _ = G20; rw [show L2.upd (L2.upd (L2.upd _ a20 (exo a20 (cE K 27) none)) d20 (exd d20 [(fldE.getD 27 "", v)])) a20 (exo a20 (cE K 27) (some d20)) = G20 from hG] at t20 e20 x20; clear hG ha20 hd20 nd20)
    have sv20 := svm1.trans t20
    refine ⟨_, rfl, rfl, fun a21 ha21 => ⟨a21, _, rfl, upd_same .., fun d21 hd21 nd21 => ⟨rfl, ?_⟩⟩⟩
    obtain ⟨t21, e21, x21⟩ := eat_new (C := cE K 28) (f := fldE.getD 28 "") (v := v) ha21 hd21 nd21
    (generalize hG : L2.upd (L2.upd (L2.upd _ a21 _) d21 _) a21 _ = G21; rw [show L2.upd (L2.upd (L2.upd _ a21 (exo a21 (cE K 28) none)) d21 (exd d21 [(fldE.getD 28 "", v)])) a21 (exo a21 (cE K 28) (some d21)) = G21 from hG] at t21 e21 x21; clear hG ha21 hd21 nd21)
    have sv21 := sv20.trans t21
    refine ⟨_, rfl, rfl, fun a22 ha22 => ⟨a22, _, rfl, upd_same .., fun d22 hd22 nd22 => ⟨rfl, ?_⟩⟩⟩
    obtain ⟨t22, e22, x22⟩ := eat_new (C := cE K 32) (f := fldE.getD 32 "") (v := v) ha22 hd22 nd22
    (generalize hG : L2.upd (L2.upd (L2.upd _ a22 _) d22 _) a22 _ = G22; rw [show L2.upd (L2.upd (L2.upd _ a22 (exo a22 (cE K 32) none)) d22 (exd d22 [(fldE.getD 32 "", v)])) a22 (exo a22 (cE K 32) (some d22)) = G22 from hG] at t22 e22 x22; clear hG ha22 hd22 nd22)
    have sv22 := sv21.trans t22
    refine ⟨_, rfl, rfl, fun a23 ha23 => ⟨a23, _, rfl, upd_same .., fun d23 hd23 nd23 => ⟨rfl, ?_⟩⟩⟩
    obtain ⟨t23, e23, x23⟩ := eat_new (C := cE K 6) (f := fldE.getD 6 "") (v := v) ha23 hd23 nd23
    (generalize hG : L2.upd (L2.upd (L2.upd _ a23 _) d23 _) a23 _ = G23; rw [show L2.upd (L2.upd (L2.upd _ a23 (exo a23 (cE K 6) none)) d23 (exd d23 [(fldE.getD 6 "", v)])) a23 (exo a23 (cE K 6) (some d23)) = G23 from hG] at t23 e23 x23; clear hG ha23 hd23 nd23)
    have sv23 := sv22.trans t23
    refine ⟨(by show 4 ≤ sizeLine; decide), fun p2 hp2 => ?_⟩
    (generalize hG : L2.upd _ p2 _ = P2; have sp2 := same_of hG hp2; have ep2 := at_of hG; clear hG)
    have svp2 := sv23.trans sp2
    have es2 : ∀ (j : Nat) (x : V), [V.ref a20, V.ref a21, V.ref a22, V.ref a23][j]? = some x → ∃ (a : Addr) (i : Nat), x = .ref a ∧ i < 34 ∧ fldE.getD i "" = "many" ∧ ∃ dd, P2 a = some (exo a (cE K i) (some dd)) ∧ P2 dd = some (exd dd [(fldE.getD i "", v)]) := by
      intro j x hx
      match j, hx with
      | 0, hx => cases hx; exact ⟨a20, 27, rfl, by decide, rfl, d20, (Same.trans t21 (Same.trans t22 (Same.trans t23 (sp2)))) _ _ e20, (Same.trans t21 (Same.trans t22 (Same.trans t23 (sp2)))) _ _ x20⟩
      | 1, hx => cases hx; exact ⟨a21, 28, rfl, by decide, rfl, d21, (Same.trans t22 (Same.trans t23 (sp2))) _ _ e21, (Same.trans t22 (Same.trans t23 (sp2))) _ _ x21⟩
      | 2, hx => cases hx; exact ⟨a22, 32, rfl, by decide, rfl, d22, (Same.trans t23 (sp2)) _ _ e22, (Same.trans t23 (sp2)) _ _ x22⟩
      | 3, hx => cases hx; exact ⟨a23, 6, rfl, by decide, rfl, d23, (sp2) _ _ e23, (sp2) _ _ x23⟩
      | _ + 4, hx => simp at hx
    refine ⟨_, rfl, p2, rfl, ⟨_, .inl (.inl ep2)⟩, fun R2 hR2 => ?_⟩
    refine lc_it (walk_list (xs := [V.ref a20, V.ref a21, V.ref a22, V.ref a23])) (fun i G => Same P2 G ∧ G R2 = some (.lst [])) ⟨Same.new (Same.refl _) hR2, upd_same ..⟩ (fun i G _ p => .inl (.inl (p.1 _ _ ep2))) ?_ ?_
    · rintro i x G' G hi ⟨p1, p2⟩ ⟨rfl, hx⟩
      obtain ⟨a, i, rfl, hi3, hf, dd, h1, h2⟩ := es2 _ _ hx
      rw [hf] at h2
      have ht1 := ht.same (svp2.trans p1)
      exact ⟨rfl, _, rfl, a, cE K i, dd, _, v, rfl, p1 _ _ h1, p1 _ _ h2, X.x i hi3, hf ▸ X.n i hi3, by simp [List.lookup], _, rfl, v, d, rfl, ht1.dt, ht1.sh, ht1.lap, ht1.few, fun G2 s2 => ⟨_, rfl, iteF ⟨p1.trans s2, s2 _ _ p2⟩⟩⟩
    rintro G2 ⟨q1_2, q2_2⟩
    refine ⟨(by show 0 ≤ sizeLine; decide), fun M2 hM2 => ?_⟩
    (generalize hG : L2.upd _ M2 _ = N2; have sM2 := same_of hG hM2; have eM2 := at_of hG; clear hG)
    have svm2 := (svp2.trans q1_2).trans sM2
    refine ⟨R2, M2, [], rfl, rfl, .inl (.inl (sM2 _ _ q2_2)), .inl (.inl eM2), _, rfl, iteT ?_⟩
    refine ⟨_, rfl, rfl, fun aL haL => ⟨aL, _, rfl, upd_same .., fun dL hdL ndL => ⟨rfl, ?_⟩⟩⟩
    obtain ⟨tL, eL, xL⟩ := eat_new (C := cE K 23) (f := fldE.getD 23 "") (v := v) haL hdL ndL
    (generalize hG : L2.upd (L2.upd (L2.upd _ aL _) dL _) aL _ = GL; rw [show L2.upd (L2.upd (L2.upd _ aL (exo aL (cE K 23) none)) dL (exd dL [(fldE.getD 23 "", v)])) aL (exo aL (cE K 23) (some dL)) = GL from hG] at tL eL xL; clear hG haL hdL ndL)
    have svL := svm2.trans tL
    have htL := ht.same svL
    exact ⟨aL, cE K 23, dL, _, v, rfl, eL, xL, X.x 23 (by decide), X.n 23 (by decide), (by show List.lookup ("row" : Str) [(("row" : Str), v)] = some v; simp [List.lookup]), _, rfl, v, d, rfl, htL.dt, htL.sh, htL.lap, htL.few, fun G2 s2 => q G2 (svL.trans s2)⟩
end

end TS

namespace TS
open PySem PySem.Spec PyProof.Rows L2 TL
/-! ### what is asked of a cell -/
def spRight : Sp := fun vs H Q _ => ∃ (b : Addr) (n : Nat), vs = [.ref b] ∧ (∃ o, H b = some o ∧ Bag (n + 4) o) ∧ ∀ H', Dr b n H H' → Q (.bl true) H'
def fewB (d : PyData) : Bool := match d with
  | .list ds => decide (ds.length ≤ 1000) && smB 8 2000 (.list (ds ++ [.str "late"]))
  | _ => true
theorem few_of {d : PyData} (h : fewB d = true) : ∀ ds, d = .list ds → ds.length ≤ 1000 ∧ Shows (.list (ds ++ [.str "late"])) := fun ds e => by
  rw [e] at h
  obtain ⟨h1, h2⟩ := Bool.and_eq_true_iff.mp (show (decide (ds.length ≤ 1000) && smB 8 2000 (.list (ds ++ [.str "late"]))) = true from h)
  exact ⟨of_decide_eq_true h1, Sm.shows (k := 8) (n := 2000) h2⟩
theorem any_few : ∀ d ∈ anyD, ((smB 8 2000 d && fewB d) && (smB 8 2000 (.list [d]) && fewB (.list [d]))) = true := by decide +kernel
theorem mark_list (i : Nat) : ((List.range 34).map fun j => isE i j) = ((List.range 18).map fun j => isE i (0 + j)) ++ ((List.range 16).map fun j => isE i (18 + j)) := by
  have e : List.range 34 = (List.range 18).map (fun j => 0 + j) ++ (List.range 16).map (fun j => 18 + j) := by decide
  rw [e, List.map_append, List.map_map, List.map_map]
  rfl
theorem isE_eq : ∀ i, i < 34 → ∀ j, j < 34 → isE i j = decide (j = i) := by decide +kernel
theorem isE_fam : ∀ i ∈ [34, 35, 36], ∀ j, j < 34 → isE i j = false := by decide +kernel
section
variable {P : Program} {w : World} {K : PySem.W.Frag} {mg : Str → Option Value} {base : Heap}
theorem sc__law_right : FnScope ["_law_bag_here", "_law_one", "_law_made", "_law_place", "_law_e", "_law_marks", "_law_k"] ["_law_bag_here"] (defScope s__law_right) := ⟨rfl, rfl, rfl, by decide +kernel, rfl, by decide +kernel, by decide +kernel⟩

set_option maxHeartbeats 2000000 in
theorem ok_right (bt : Bt mg) (S : Inis P w K mg base) (f0 : FamE K (cE K 34) "ValueError.__new__" "ValueError.__init__" veT) (f1 : FamE K (cE K 35) "LookupError.__new__" "KeyError.__init__" keyT) (f2 : FamE K (cE K 36) "LookupError.__new__" "LookupError.__init__" lookT)
    (p__law_take : Prom P w K mg base 1 "_law_take" ["_law_bag_here", "_law_much"] spTake) (p__law_any : Prom P w K mg base 2 "_law_any" ["_law_bag_here"] (spAny K)) (p__law_by_name_right : PromG P w K mg base 3 "_law_by_name_right" ["_law_one"] (spByName K))
    (p__law_made_first : Prom P w K mg base 3 "_law_made_first" ["_law_one"] (spMade K 0 18)) (p__law_made_last : Prom P w K mg base 3 "_law_made_last" ["_law_one"] (spMade K 18 16))
    (p__law_marks_first : Prom P w K mg base 1 "_law_marks_first" ["_law_e"] (spMarks K 0 18)) (p__law_marks_last : Prom P w K mg base 1 "_law_marks_last" ["_law_e"] (spMarks K 18 16))
    (p__law_families : Prom P w K mg base 1 "_law_families" ["_law_e"] (spFams K)) (p__law_family_of : Prom P w K mg base 1 "_law_family_of" ["_law_place"] spFamOf)
    (p__law_fields_right : PromG P w K mg base 2 "_law_fields_right" ["_law_place", "_law_e", "_law_one"] (spFieldsR K)) (p__law_taken : Prom P w K mg base 1 "_law_taken" ["_law_e", "_law_place"] (spTaken K))
    (D : Def K mg "_law_right" s__law_right) : PromG P w K mg base 5 "_law_right" ["_law_bag_here"] spRight := by
  have g_TermError : mg "TermError" = some (.ref (He.ga K "TermError")) := S.g 34 (by decide)
  have g_Absent : mg "Absent" = some (.ref (He.ga K "Absent")) := S.g 35 (by decide)
  have g_Ended : mg "Ended" = some (.ref (He.ga K "Ended")) := S.g 36 (by decide)
  have t_TermError : OexT K (He.ga K "TermError") "ValueError.__new__" veT := f0.ox
  have t_Absent : OexT K (He.ga K "Absent") "LookupError.__new__" keyT := f1.ox
  have t_Ended : OexT K (He.ga K "Ended") "LookupError.__new__" lookT := f2.ox
  have b_TermError : PySem.W.findIn K (.ref (He.ga K "TermError")) "__init__" = some (some (.builtin "ValueError.__init__")) := f0.ini
  have b_Absent : PySem.W.findIn K (.ref (He.ga K "Absent")) "__init__" = some (some (.builtin "KeyError.__init__")) := f1.ini
  have b_Ended : PySem.W.findIn K (.ref (He.ga K "Ended")) "__init__" = some (some (.builtin "LookupError.__init__")) := f2.ini
  refine promG_mk D sc__law_right (fun vs H Q E h => ?_) (fun _ _ _ _ _ _ us hl => match us, hl with | [_], _ => rfl) (fun f cdv A outer s H vs Q E hgd hr h => ?_)
  · obtain ⟨b, n, rfl, _⟩ := h
    rfl
  · obtain ⟨b, n, rfl, hb, q⟩ := h
    refine ⟨_, (pss_cons (ps_set (i := 1) sc__law_right.nd rfl (Or.inl rfl) (pe_ix (ix_listK (K := K)) (pe_lst (pa_cons (pe_pc p__law_any (hr.mono (by decide)) rfl (pa_cons (pv 0) pa_nil)) (pa_cons (pe_pc p__law_take (hr.mono (by decide)) rfl (pa_cons (pv 0) (pa_cons (pe_op op_pow pe_int pe_int) pa_nil))) (pa_cons (pe_lst (pa_cons (pe_pc p__law_any (hr.mono (by decide)) rfl (pa_cons (pv 0) pa_nil)) pa_nil)) pa_nil)))) (pe_pc p__law_take (hr.mono (by decide)) rfl (pa_cons (pv 0) (pa_cons pe_int pa_nil))) (fun _ _ => rfl)))
      (pss_cons (ps_if (pt_not (pt_val (pe_pcG p__law_by_name_right hgd (hr.mono (by decide)) rfl (pa_cons (pv 1) pa_nil)))) (pss_one (ps_ret pe_bl)) pss_nil)
      (pss_cons (ps_set (i := 2) sc__law_right.nd rfl (Or.inl rfl) (pe_op op_cat (pe_pc p__law_made_first (hr.mono (by decide)) rfl (pa_cons (pv 1) pa_nil)) (pe_pc p__law_made_last (hr.mono (by decide)) rfl (pa_cons (pv 1) pa_nil))))
      (pss_cons (ps_for PassesOwn.never rfl (pi_enumK (K := K) rfl rfl bt.enumerate_ (pa_cons (pv 2) pa_nil)) (pg_tupK (K := K) (n := 2) rfl rfl (pgs_cons (pg_name (i := 3) sc__law_right.nd rfl (Or.inr rfl)) (pgs_cons (pg_name (i := 4) sc__law_right.nd rfl (Or.inl rfl)) pgs_nil))) (pss_cons (ps_set (i := 5) sc__law_right.nd rfl (Or.inl rfl) (pe_op op_cat (pe_pc p__law_marks_first (hr.mono (by decide)) rfl (pa_cons (pv 4) pa_nil)) (pe_pc p__law_marks_last (hr.mono (by decide)) rfl (pa_cons (pv 4) pa_nil))))
      (pss_cons (ps_if (PW.pt (pw_or (pt_cmpR (op_neDK (K := K) hr.units) (pv 5) (pe_lc (own := [("_law_k", 6)]) (g := gName 6) rfl sc__law_right.nd (pi_range1 rfl bt.range_ (pa_cons pe_int pa_nil)) (blkOk_by (N := ["_law_bag_here", "_law_one", "_law_made", "_law_place", "_law_e", "_law_marks", "_law_k"]) (sc := defScope s__law_right) (by decide +kernel)) (fun _ _ _ _ _ => (pg_name (i := 6) sc__law_right.nd rfl (Or.inl rfl))) (fun _ _ _ _ _ => pts_nil) (fun _ _ _ _ _ => (pe_cmpR op_eq (pv 6) (pv 3) (nomark _)))) (nomark _)) (pw_or1 (pt_cmpR (op_neDK (K := K) hr.units) (pe_pc p__law_families (hr.mono (by decide)) rfl (pa_cons (pv 4) pa_nil)) (pe_pc p__law_family_of (hr.mono (by decide)) rfl (pa_cons (pv 3) pa_nil)) (nomark _))))) (pss_one (ps_ret pe_bl)) pss_nil)
      (pss_one (ps_if (PW.pt (pw_or (pt_not (pt_val (pe_pcG p__law_fields_right hgd (hr.mono (by decide)) rfl (pa_cons (pv 3) (pa_cons (pv 4) (pa_cons (pv 1) pa_nil)))))) (pw_or1 (pt_not (pt_val (pe_pc p__law_taken (hr.mono (by decide)) rfl (pa_cons (pv 4) (pa_cons (pv 3) pa_nil)))))))) (pss_one (ps_ret pe_bl)) pss_nil)))))
      (pss_cons (ps_for PassesOwn.never rfl (pi_listK (K := K) rfl (pe_lst (pa_cons (pe_tup (pa_cons pe_int (pa_cons (pe_famV bas_VE t_TermError b_TermError rfl g_TermError (pa_cons pe_str pa_nil)) pa_nil))) (pa_cons (pe_tup (pa_cons pe_int (pa_cons (pe_famV bas_Key t_Absent b_Absent rfl g_Absent (pa_cons pe_str pa_nil)) pa_nil))) (pa_cons (pe_tup (pa_cons pe_int (pa_cons (pe_famV bas_Look t_Ended b_Ended rfl g_Ended (pa_cons pe_str pa_nil)) pa_nil))) pa_nil))))) (pg_tupK (K := K) (n := 2) rfl rfl (pgs_cons (pg_name (i := 3) sc__law_right.nd rfl (Or.inr rfl)) (pgs_cons (pg_name (i := 4) sc__law_right.nd rfl (Or.inl rfl)) pgs_nil))) (pss_one (ps_if (PW.pt (pw_or (pt_cmpR (op_inK (K := K)) pe_bl (pe_op op_cat (pe_pc p__law_marks_first (hr.mono (by decide)) rfl (pa_cons (pv 4) pa_nil)) (pe_pc p__law_marks_last (hr.mono (by decide)) rfl (pa_cons (pv 4) pa_nil))) rfl) (pw_or1 (pt_cmpR (op_neDK (K := K) hr.units) (pe_pc p__law_families (hr.mono (by decide)) rfl (pa_cons (pv 4) pa_nil)) (pe_pc p__law_family_of (hr.mono (by decide)) rfl (pa_cons (pv 3) pa_nil)) (nomark _))))) (pss_one (ps_ret pe_bl)) pss_nil)))
      (pss_one (ps_ret pe_bl))))))), ?_⟩
    have p200 : ((10 : Int) ^ (30 : Int).toNat) < 2 ^ 200 := by decide +kernel
    refine ⟨_, rfl, b, _, n + 3, rfl, hb.choose_spec.1, hb.choose_spec.2, fun v1 dd1 H1 o1 hd1 fx1 e1 g1 dt1 lp1 => ?_⟩
    have D1 : Dr b (n + 3) H H1 := ⟨fx1, _, e1, g1⟩
    refine ⟨_, rfl, _, _, rfl, rfl, ⟨by decide, by decide, by decide⟩, b, _, n + 2, _, rfl, D1.bag.choose_spec.1, D1.bag.choose_spec.2, by decide +kernel, p200, fun m o2 l2 u2 g2 => ?_⟩
    (generalize hG : L2.upd _ b _ = H2; have d2 := dr_of hG g2; clear hG)
    have D2 := D1.trans d2
    refine ⟨_, rfl, b, _, n + 1, rfl, D2.bag.choose_spec.1, D2.bag.choose_spec.2, fun v3 dd3 H3 o3 hd3 fx3 e3 g3 dt3 lp3 => ?_⟩
    have d3 : Dr b (n + 1) H2 H3 := ⟨fx3, _, e3, g3⟩
    have D3 := D2.trans d3
    refine ⟨(by show 1 ≤ sizeLine; decide), fun U1 hL1 => ?_⟩
    have nL1 := D3.ne hL1
    (generalize hG : L2.upd _ U1 _ = H4; have sL1 := same_of hG hL1; have eL1 := at_of hG; clear hG)
    have D4 := D3.trans (Dr.same sL1 D3.bag)
    refine ⟨(by show 3 ≤ sizeLine; decide), fun U2 hL2 => ?_⟩
    have nL2 := D4.ne hL2
    (generalize hG : L2.upd _ U2 _ = H5; have sL2 := same_of hG hL2; have eL2 := at_of hG; clear hG)
    have D5 := D4.trans (Dr.same sL2 D4.bag)
    refine ⟨_, rfl, b, _, n, 3, rfl, D5.bag.choose_spec.1, D5.bag.choose_spec.2, by decide, by decide +kernel, fun x6 o6 l6 u6 g6 => ?_⟩
    (generalize hG : L2.upd _ b _ = H6; have d6 := dr_of hG g6; clear hG)
    have D6 := D5.trans d6
    obtain ⟨one, hv, hvm⟩ := atI_in (xs := [v1, V.int m, .ref U1]) l6 u6
    refine ⟨U2, _, _, _, rfl, rfl, .inl (.inl (d6.at nL2 eL2)), hv, ?_⟩
    have e30 : (10 : Int) ^ (30 : Int).toNat = 1000000000000000000000000000000 := by decide +kernel
    obtain ⟨d, th⟩ : ∃ d, Thg K H6 one d := by
      simp only [List.mem_cons, List.not_mem_nil, or_false] at hvm
      rcases hvm with rfl | rfl | rfl
      · have hq := any_few dd1 hd1
        obtain ⟨h1, h2⟩ := Bool.and_eq_true_iff.mp hq
        obtain ⟨h3, h4⟩ := Bool.and_eq_true_iff.mp h1
        have s16 : Same (hide H1 b) (hide H6 b) := d2.hide.trans (fx3.hide.trans ((Fx.of (sL1.trans sL2)).hide.trans d6.hide))
        exact ⟨dd1, Dt.same hide_same (Dt.same s16 dt1), Sm.shows (k := 8) (n := 2000) h3, (lp1.same s16).same hide_same, few_of h4⟩
      · have mN : m.natAbs < 10 ^ 39 := by
          rw [e30] at u2
          exact Nat.lt_of_lt_of_le (show m.natAbs < 1000000000000000000000000000000 by omega) (by decide +kernel)
        refine ⟨.int m, .int m, ⟨?_, ?_, ?_⟩, .no (fun _ e => by cases e), (fun _ e => by cases e)⟩
        · have h1 : m.natAbs < 2 ^ 1920 := Nat.lt_of_lt_of_le mN (by decide +kernel)
          have h2 : m.natAbs.log2 < 1920 := by
            by_cases h0 : m.natAbs = 0
            · rw [h0]; decide
            · exact (Nat.log2_lt h0).mpr h1
          unfold PyData.showable
          exact decide_eq_true h2
        · unfold PyData.depth; exact Nat.zero_le _
        · have l1 := int_text_length_le10 (k := 39) (by decide) mN
          unfold PyData.shown
          rw [PySem.ofString_length]
          exact sz5 (by omega)
      · have hq := any_few dd3 hd3
        obtain ⟨h1, h2⟩ := Bool.and_eq_true_iff.mp hq
        obtain ⟨h3, h4⟩ := Bool.and_eq_true_iff.mp h2
        have e6 : H6 U1 = some (.lst [v3]) := d6.at nL1 (sL2 _ _ eL1)
        have s36 : Same (hide H3 b) (hide H6 U1) := fun c o e => by
          have n1 : c ≠ b := fun z => by rw [z, hide_self] at e; cases e
          rw [hide_ne n1] at e
          have n2 : c ≠ U1 := ne_of_none e hL1
          rw [hide_ne n2]
          exact d6.at n1 (sL2 _ _ (sL1 _ _ e))
        have it : DtAll K (hide H6 U1) [v3] [dd3] := .cons (Dt.same s36 dt3) .nil
        exact ⟨.list [dd3], .lst (.inl (.inl e6)) (DtAll.same hide_same it), Sm.shows (k := 8) (n := 2000) h3, (fun ds e => by cases e; exact ⟨U1, _, rfl, e6, it⟩), few_of h4⟩
    refine ⟨_, rfl, one, d, rfl, th, fun G1 s1 => ⟨_, rfl, iteF ?_⟩⟩
    refine ⟨_, rfl, one, rfl, fun G2 M1 as1 s2 e2 f2 l2' ea1 => ⟨_, rfl, one, rfl, fun G3 M2 as2 s3 e3' f3 l3 ea2 => ⟨M1, M2, _, _, rfl, rfl, s3 _ _ e2, e3', sz5 (by simp [l2', l3]), fun M hM => ?_⟩⟩⟩
    (generalize hG : L2.upd _ M _ = G4; have sM := same_of hG hM; have eM := at_of hG; clear hG)
    have s4 := s1.trans (s2.trans (s3.trans sM))
    have la : (as1 ++ as2).length = 34 := by rw [List.length_append, l2', l3]
    have ea : ∀ (i : Nat) (a : Addr), (as1 ++ as2)[i]? = some a → EAt K G4 i a one := fun i a e => by
      rcases Nat.lt_or_ge i 18 with h | h
      · rw [List.getElem?_append_left (by omega)] at e
        have := ea1 i a e
        rw [Nat.zero_add] at this
        exact this.same (s3.trans sM)
      · rw [List.getElem?_append_right (by omega), l2'] at e
        have := ea2 (i - 18) a e
        rw [show 18 + (i - 18) = i by omega] at this
        exact this.same sM
    have eM' : G4 M = some (.lst ((as1 ++ as2).map V.ref)) := by rw [eM, List.map_append]
    refine ⟨_, rfl, M, _, rfl, .inl (.inl eM'), ?_⟩
    refine for_it walk_enum (fun i σ G => Same G4 G ∧ ∃ x3 x4 x5 x6, σ = [some (V.ref b), some one, some (.ref M), x3, x4, x5, x6]) ⟨Same.refl _, _, _, _, _, rfl⟩ (fun _ _ _ _ p => .inl (.inl (p.1 _ _ eM'))) ?_ ?_
    · rintro i x σ G G' hi ⟨s5, x3, x4, x5, x6, rfl⟩ ⟨T, y, z, rfl, hT, rfl, ey, ez⟩
      cases ey
      replace ez : ((as1 ++ as2).map V.ref)[i]? = some z := ez
      rw [List.getElem?_map] at ez
      obtain ⟨a, haa, rfl⟩ : ∃ a, (as1 ++ as2)[i]? = some a ∧ z = .ref a := by
        cases hq : (as1 ++ as2)[i]? with
        | none => rw [hq] at ez; cases ez
        | some a => rw [hq] at ez; cases ez; exact ⟨a, rfl, rfl⟩
      have hi34 : i < 34 := by rw [List.length_map, la] at hi; exact hi
      (generalize hG : L2.upd _ T _ = G5; have sT := same_of hG hT; have eT := at_of hG; clear hG)
      have s6 := s5.trans sT
      have he := ea i a haa
      have es := he.same s6
      have hl := es.hld
      refine ⟨T, _, rfl, .inl (.inl eT), rfl, _, _, rfl, _, _, rfl, rfl, ?_⟩
      refine ⟨_, rfl, a, i, rfl, by omega, hl, fun G6 P6 s7 f7 e7 => ⟨_, rfl, a, i, rfl, by omega, hl.same s7, fun G7 P7 s8 f8 e8 => ⟨P6, P7, _, _, rfl, rfl, s8 _ _ e7, e8, sz5 (by simp), fun Z hZ => ?_⟩⟩⟩
      (generalize hG : L2.upd _ Z _ = G8; have sZ := same_of hG hZ; have eZ := at_of hG; clear hG)
      have s9 := s7.trans (s8.trans sZ)
      have eZ' : G8 Z = some (.lst (((List.range 34).map fun j => isE i j).map V.bl)) := by
        rw [eZ, mark_list, List.map_append, List.map_map, List.map_map]
        rfl
      refine ⟨_, rfl, _, rfl, by decide, by decide, fun R hR => ?_⟩
      refine lc_sameF walk_range (fun _ _ => trivial) (by decide) hR (fun k => .bl (decide (V.int (0 + (k : Nat)) = V.int (i : Nat)))) (fun _ => rfl) (fun k H2 C hk s2 kk => ⟨_, rfl, _, rfl, rfl, kk _ (Same.refl _)⟩) (fun G9 s10 eR => ?_)
      have eR' : G9 R = some (.lst (((List.range 34).map fun j => isE i j).map V.bl)) := by
        rw [eR, List.map_map]
        refine congrArg (fun l => some (HO.lst l)) (List.map_congr_left fun k hk => ?_)
        show V.bl (decide (V.int (0 + (k : Nat)) = V.int (i : Nat))) = V.bl (isE i k)
        rw [isE_eq i hi34 k (List.mem_range.mp hk)]
        by_cases c : k = i
        · rw [decide_eq_true c, decide_eq_true (by rw [c, Int.zero_add])]
        · rw [decide_eq_false c, decide_eq_false (fun z => c (by have := V.int.inj z; omega))]
      refine bools_ne (.inl (.inl (s10 _ _ eZ'))) (.inl (.inl eR')) ⟨_, rfl, ?_⟩
      rw [decide_eq_true rfl]
      have s11 := s9.trans s10
      refine iteF ⟨_, rfl, a, i, rfl, by omega, hl.same s11, fun G10 P10 s12 f12 e12 => ⟨_, rfl, i, rfl, fun G11 P11 s13 f13 e13 => ?_⟩⟩
      refine bools_ne (.inl (.inl (s13 _ _ e12))) (.inl (.inl e13)) ⟨_, rfl, ?_⟩
      rw [decide_eq_true (fam_eq i hi34)]
      have s14 := s11.trans (s12.trans s13)
      refine iteF ⟨_, rfl, _, rfl, _, rfl, i, a, one, d, rfl, hi34, es.same s14, th.same (s4.trans (s6.trans s14)), fun G12 s15 => ⟨_, rfl, iteF ⟨_, rfl, _, rfl, i, a, rfl, hi34, hl.same (s14.trans s15), fun G13 s16 => ⟨_, rfl, iteF ?_⟩⟩⟩⟩
      exact ⟨s6.trans (s14.trans (s15.trans s16)), _, _, _, _, rfl⟩
    · rintro σ G ⟨s5, x3, x4, x5, x6, rfl⟩
      have u0 := s4.trans s5
      refine ⟨(by show 1 ≤ 1000; decide), fun a0 ha0 => ?_⟩
      (generalize hG : L2.upd _ a0 _ = A0; have sa0 := same_of hG ha0; have ea0 := at_of hG; clear hG)
      refine ⟨(by show 2 ≤ sizeLine; decide), fun t0 ht0 => ?_⟩
      (generalize hG : L2.upd _ t0 _ = B0; have st0 := same_of hG ht0; have et0 := at_of hG; clear hG)
      refine ⟨(by show 1 ≤ 1000; decide), fun a1 ha1 => ?_⟩
      (generalize hG : L2.upd _ a1 _ = A1; have sa1 := same_of hG ha1; have ea1 := at_of hG; clear hG)
      refine ⟨(by show 2 ≤ sizeLine; decide), fun t1 ht1 => ?_⟩
      (generalize hG : L2.upd _ t1 _ = B1; have st1 := same_of hG ht1; have et1 := at_of hG; clear hG)
      refine ⟨(by show 1 ≤ 1000; decide), fun a2 ha2 => ?_⟩
      (generalize hG : L2.upd _ a2 _ = A2; have sa2 := same_of hG ha2; have ea2 := at_of hG; clear hG)
      refine ⟨(by show 2 ≤ sizeLine; decide), fun t2 ht2 => ?_⟩
      (generalize hG : L2.upd _ t2 _ = B2; have st2 := same_of hG ht2; have et2 := at_of hG; clear hG)
      refine ⟨(by show 3 ≤ sizeLine; decide), fun W hW => ?_⟩
      (generalize hG : L2.upd _ W _ = W0; have sW := same_of hG hW; have eW := at_of hG; clear hG)
      have z2 := st2.trans sW
      have z1 := sa2.trans z2
      have z0 := st1.trans z1
      have y1 := sa1.trans z0
      have y0 := st0.trans y1
      have all : ∀ (j : Nat) (x : V), [V.ref t0, .ref t1, .ref t2][j]? = some x → ∃ (t a : Addr) (pl i : Nat), x = .ref t ∧ W0 t = some (.tup [.int pl, .ref a]) ∧ Hld W0 a (cE K i) ∧ i ∈ [34, 35, 36] ∧ famL i = famO pl := by
        intro j x hx
        match j, hx with
        | 0, hx => cases hx; exact ⟨t0, a0, 0, 34, rfl, y1 _ _ et0, .inr (y0 _ _ ea0), by decide, by decide⟩
        | 1, hx => cases hx; exact ⟨t1, a1, 29, 35, rfl, z1 _ _ et1, .inr (z0 _ _ ea1), by decide, by decide⟩
        | 2, hx => cases hx; exact ⟨t2, a2, 31, 36, rfl, sW _ _ et2, .inr (z2 _ _ ea2), by decide, by decide⟩
        | _ + 3, hx => simp at hx
      refine ⟨W, rfl, ⟨_, .inl (.inl eW)⟩, ?_⟩
      refine for_it (walk_list (xs := [V.ref t0, .ref t1, .ref t2])) (fun _ σ G5 => Same W0 G5 ∧ ∃ x3 x4 x5 x6, σ = [some (V.ref b), some one, some (.ref M), x3, x4, x5, x6]) ⟨Same.refl _, _, _, _, _, rfl⟩ (fun _ _ _ _ p => .inl (.inl (p.1 _ _ eW))) ?_ ?_
      · rintro j x σ G6 G5 hj ⟨s6, x3, x4, x5, x6, rfl⟩ ⟨rfl, hx⟩
        obtain ⟨t, a, pl, i, rfl, e1, hl0, hi, hf⟩ := all j _ hx
        have hi37 : i < 37 := by
          simp only [List.mem_cons, List.not_mem_nil, or_false] at hi
          omega
        have hl := hl0.same s6
        refine ⟨t, _, rfl, .inl (.inl (s6 _ _ e1)), rfl, _, _, rfl, _, _, rfl, rfl, ?_⟩
        refine ⟨_, rfl, a, i, rfl, hi37, hl, fun G7 P6 s7 f7 e7 => ⟨_, rfl, a, i, rfl, hi37, hl.same s7, fun G8 P7 s8 f8 e8 => ⟨P6, P7, _, _, rfl, rfl, s8 _ _ e7, e8, sz5 (by simp), fun Z hZ => ?_⟩⟩⟩
        (generalize hG : L2.upd _ Z _ = G9; have sZ := same_of hG hZ; have eZ := at_of hG; clear hG)
        have s9 := s7.trans (s8.trans sZ)
        have eZ' : G9 Z = some (.lst (((List.range 34).map fun j => isE i j).map V.bl)) := by
          rw [eZ, mark_list, List.map_append, List.map_map, List.map_map]
          rfl
        have none_ : ((List.range 34).map fun j => isE i j).map V.bl = (List.range 34).map fun _ => V.bl false := by
          rw [List.map_map]
          refine List.map_congr_left fun k hk => ?_
          show V.bl (isE i k) = _
          rw [isE_fam i hi k (List.mem_range.mp hk)]
        rw [none_] at eZ'
        refine ⟨Z, _, rfl, .inl (.inl (.inl eZ')), rfl, by decide +kernel, ?_⟩
        have ef : inV (.bl true) ((List.range 34).map fun _ => V.bl false) = false := by decide +kernel
        rw [ef]
        refine ⟨_, rfl, iteF ⟨_, rfl, a, i, rfl, hi37, hl.same s9, fun G10 P10 s12 f12 e12 => ⟨_, rfl, pl, rfl, fun G11 P11 s13 f13 e13 => ?_⟩⟩⟩
        refine bools_ne (.inl (.inl (s13 _ _ e12))) (.inl (.inl e13)) ⟨_, rfl, ?_⟩
        rw [decide_eq_true hf]
        exact iteF ⟨s6.trans (s9.trans (s12.trans s13)), _, _, _, _, rfl⟩
      · rintro σ G5 ⟨s6, x3, x4, x5, x6, rfl⟩
        exact q G5 (D6.trans (Dr.same (u0.trans (sa0.trans (y0.trans s6))) D6.bag))
end

end TS

namespace TS
open PySem PySem.Spec PyProof.Rows L2 TL
/-! ### the law -/
def spLaw (K : PySem.W.Frag) : Sp := fun vs H Q _ => ∃ (a : Addr) (ns : List Int), vs = [.ref a] ∧ SqL K H a (ns.map V.int) ∧ ns.length ≤ 63 ∧ ∀ H', Q (.bl true) H'
section
variable {P : Program} {w : World} {K : PySem.W.Frag} {mg : Str → Option Value} {base : Heap}
theorem sc_law : FnScope ["_law_script", "_law_k"] ["_law_script"] (defScope s_law) := ⟨rfl, rfl, rfl, by decide +kernel, rfl, by decide +kernel, by decide +kernel⟩

theorem ok_law (bt : Bt mg) (p__law_cell : Prom P w K mg base 1 "_law_cell" ["_law_script", "_law_k"] (spCell K)) (p__law_bag : Prom P w K mg base 1 "_law_bag" ["_law_cell_here"] spBag)
    (p__law_right : PromG P w K mg base 5 "_law_right" ["_law_bag_here"] spRight)
    {f : Addr} {fd : FuncData} (F : FunD K "law" "law" (defArgs s_law) (defBody s_law) (defScope s_law) [] [] f fd) : FnG P w K mg base CX0 7 f fd ["_law_script"] (spLaw K) := by
  refine fnG_mk F sc_law (fun vs H Q E h => ?_) (fun f cdv A outer s H vs Q E hgd hr h => ?_)
  · obtain ⟨a, ns, rfl, _⟩ := h
    rfl
  · obtain ⟨a, ns, rfl, hS, hn, q⟩ := h
    refine ⟨_, (pss_cons (ps_for PassesOwn.never rfl (pi_range1 rfl bt.range_ (pa_cons (pe_callB (id := "max") (call_max2 rfl) (by rfl) bt.max_ (by decide +kernel) (pa_cons pe_int (pa_cons (pe_callB (id := "min") (call_min2 rfl) (by rfl) bt.min_ (by decide +kernel) (pa_cons pe_int (pa_cons (pe_callB (id := "len") (lenK (K := K)) (by rfl) bt.len_ (by decide +kernel) (pa_cons (pv 0) pa_nil)) pa_nil))) pa_nil))) pa_nil)) (pg_name (i := 1) sc_law.nd rfl (Or.inl rfl)) (pss_one (ps_if (pt_not (pt_val (pe_pcG p__law_right hgd (hr.mono (by decide)) rfl (pa_cons (pe_pc p__law_bag (hr.mono (by decide)) rfl (pa_cons (pe_pc p__law_cell (hr.mono (by decide)) rfl (pa_cons (pv 0) (pa_cons (pv 1) pa_nil))) pa_nil)) pa_nil)))) (pss_one (ps_ret pe_bl)) pss_nil)))
      (pss_one (ps_ret pe_bl))), ?_⟩
    have hn3 : ∀ k : Int, k = (if (if (ns.map V.int).length < (8 : Int) then ((ns.map V.int).length : Int) else 8) > 2 then (if (ns.map V.int).length < (8 : Int) then ((ns.map V.int).length : Int) else 8) else 2) → 0 ≤ k ∧ k ≤ 8 := by
      intro k hk
      rw [hk]
      split <;> split <;> omega
    refine ⟨_, rfl, _, _, rfl, .inl ⟨_, hS, rfl⟩, _, _, rfl, _, _, rfl, _, rfl, ?_, ?_, ?_⟩
    · have := hn3 _ rfl
      omega
    · have := hn3 _ rfl
      omega
    have hb12 := (hn3 _ rfl).2
    refine for_it walk_range (fun i σ H' => (∃ s1 : Option V, σ = [some (.ref a), s1]) ∧ Same H H') ⟨⟨_, rfl⟩, Same.refl H⟩ (fun _ _ _ _ _ => trivial) ?_ (fun σ G p => q G)
    rintro i x σ H1' H1 hi ⟨⟨s1, rfl⟩, e1⟩ ⟨rfl, rfl⟩
    refine ⟨_, rfl, _, rfl, a, ns, i, (by show [V.ref a, V.int (0 + (i : Int))] = _; rw [Int.zero_add]), e1.seq hS, by omega, fun c => ?_⟩
    refine ⟨c, rfl, fun b o hb bg => ?_⟩
    have hbH : H b = none := e1.free hb
    (generalize hG : L2.upd _ b _ = H2; have sb := same_of hG hb; have eb := at_of hG; clear hG)
    have keepH : ∀ {m : Nat} {G G' : Hp}, Dr b m G G' → Same H G → Same H G' := fun d s a' o' e => d.fx a' o' (ne_of_none e hbH) (s a' o' e)
    refine ⟨b, 800000000, rfl, ⟨o, eb, bg.mono (by decide)⟩, fun H3 d3 => ⟨_, rfl, iteF ?_⟩⟩
    exact ⟨⟨_, rfl⟩, keepH d3 (e1.trans sb)⟩
end

end TS

namespace TS
open PySem PySem.Spec PyProof.Rows L2 TL
section
variable {P : Program} {w : World} {K : PySem.W.Frag} {mg : Str → Option Value} {base : Heap}
theorem sc__law_cell : FnScope ["_law_script", "_law_k"] ["_law_script", "_law_k"] (defScope s__law_cell) := ⟨rfl, rfl, rfl, by decide +kernel, rfl, by decide +kernel, by decide +kernel⟩

theorem ok_cell (bt : Bt mg) (D : Def K mg "_law_cell" s__law_cell) : Prom P w K mg base 1 "_law_cell" ["_law_script", "_law_k"] (spCell K) := by
  refine prom_mk D sc__law_cell (fun vs H Q E h => ?_) (fun _ _ _ _ _ _ us hl => match us, hl with | [_, _], _ => rfl) (fun f cdv A outer s H vs Q E hr h => ?_)
  · obtain ⟨a, ns, k, rfl, _⟩ := h
    rfl
  · obtain ⟨a, ns, k, rfl, hS, hk, q⟩ := h
    refine ⟨_, (pss_cons (ps_if (pt_cmpR op_lt (pv 1) (pe_callB (id := "len") (lenK (K := K)) (by rfl) bt.len_ (by decide +kernel) (pa_cons (pv 0) pa_nil)) (nomark _)) (pss_one (ps_ret (pe_ix (ix_listK (K := K)) (pv 0) (pv 1) (fun _ _ => rfl)))) pss_nil)
      (pss_one (ps_ret (pe_op op_add (pe_op op_mul pe_int (pv 1)) pe_int)))), ?_⟩
    refine ⟨_, rfl, _, rfl, _, _, rfl, .inl ⟨_, hS, rfl⟩, _, _, rfl, rfl, _, rfl, ?_⟩
    refine ite2 (fun c => ?_) (fun c => ?_)
    · have c' := of_decide_eq_true c
      rw [List.length_map] at c'
      have hk' : k < ns.length := by omega
      exact ⟨_, rfl, _, rfl, a, _, _, .int ns[k], rfl, rfl, hS, atI_nat (by rw [List.getElem?_map, List.getElem?_eq_getElem hk']; rfl), q _⟩
    · exact ⟨_, rfl, _, _, rfl, rfl, .inl ⟨by decide, by decide⟩, _, _, rfl, rfl, q _⟩
theorem sc__law_bag : FnScope ["_law_cell_here"] ["_law_cell_here"] (defScope s__law_bag) := ⟨rfl, rfl, rfl, by decide +kernel, rfl, by decide +kernel, by decide +kernel⟩

theorem ok_bag (bt : Bt mg) (D : Def K mg "_law_bag" s__law_bag) : Prom P w K mg base 1 "_law_bag" ["_law_cell_here"] spBag := by
  refine prom_mk D sc__law_bag (fun vs H Q E h => ?_) (fun _ _ _ _ _ _ us hl => match us, hl with | [_], _ => rfl) (fun f cdv A outer s H vs Q E hr h => ?_)
  · obtain ⟨c, rfl, _⟩ := h
    rfl
  · obtain ⟨c, rfl, q⟩ := h
    refine ⟨_, (pss_one (ps_ret (pe_lst (pa_cons (pe_callB (id := "max") (call_max2 rfl) (by rfl) bt.max_ (by decide +kernel) (pa_cons pe_int (pa_cons (pe_op op_sub (pv 0) (pe_op op_pow pe_int pe_int)) pa_nil))) (pa_cons (pe_op op_mod (pv 0) pe_int) (pa_cons pe_int pa_nil)))))), ?_⟩
    refine ⟨_, rfl, _, _, rfl, rfl, ⟨by decide, by decide, by decide⟩, _, _, rfl, rfl, _, _, rfl, ?_⟩
    refine ⟨_, rfl, _, _, rfl, rfl, (by show (0 : Int) < 2147483629; decide), (by show 3 ≤ sizeLine; decide), fun p hp => q p _ hp ?_⟩
    refine ⟨_, _, _, rfl, ?_, Int.emod_nonneg _ (by decide), Int.emod_lt_of_pos _ (by decide), Int.le_refl 0, by decide⟩
    split <;> omega
theorem sc__law_take : FnScope ["_law_bag_here", "_law_much", "_law_digit", "_law_number"] ["_law_bag_here", "_law_much"] (defScope s__law_take) := ⟨rfl, rfl, rfl, by decide +kernel, rfl, by decide +kernel, by decide +kernel⟩

theorem pow_small {x : Int} {n : Nat} (h0 : 0 ≤ x) (h1 : x < 2 ^ 60) : x.natAbs < 2 ^ 64 := by
  have : (2 : Int) ^ 60 = 1152921504606846976 := by decide
  have h2 : (2 : Nat) ^ 64 = 18446744073709551616 := by decide
  omega
theorem ok_take (D : Def K mg "_law_take" s__law_take) : Prom P w K mg base 1 "_law_take" ["_law_bag_here", "_law_much"] spTake := by
  refine prom_mk D sc__law_take (fun vs H Q E h => ?_) (fun _ _ _ _ _ _ us hl => match us, hl with | [_, _], _ => rfl) (fun f cdv A outer s H vs Q E hr h => ?_)
  · obtain ⟨b, o, n, many, rfl, _⟩ := h
    rfl
  · obtain ⟨b, o, n, many, rfl, hb, ⟨x, y, z, rfl, hx, hy, hy', hz, hn⟩, hm, hm', q⟩ := h
    have hL : ∀ {H : Hp} {xs : List V}, H b = some (.lst xs) → SqL K H b xs := fun h => .inl (.inl h)
    refine ⟨_, (pss_cons (ps_if (pt_cmpR op_gt (pe_ix (ix_listK (K := K)) (pv 0) pe_int (fun _ _ => rfl)) pe_int (nomark _)) (pss_cons (ps_set (i := 2) sc__law_take.nd rfl (Or.inl rfl) (pe_op op_mod (pe_ix (ix_listK (K := K)) (pv 0) pe_int (fun _ _ => rfl)) (pv 1)))
      (pss_cons (ps_asg (pe_op op_fdivW (pe_ix (ix_listK (K := K)) (pv 0) pe_int (fun _ _ => rfl)) (pv 1)) (pg_sub (pv 0) pe_int set_list))
      (pss_one (ps_ret (pv 2))))) pss_nil)
      (pss_cons (ps_asg (pe_op op_add (pe_ix (ix_listK (K := K)) (pv 0) pe_int (fun _ _ => rfl)) pe_int) (pg_sub (pv 0) pe_int set_list))
      (pss_cons (ps_set (i := 3) sc__law_take.nd rfl (Or.inl rfl) (pe_op op_mod (pe_op op_pow (pe_op op_add (pe_op op_add (pe_ix (ix_listK (K := K)) (pv 0) pe_int (fun _ _ => rfl)) (pe_op op_mul pe_int (pe_ix (ix_listK (K := K)) (pv 0) pe_int (fun _ _ => rfl)))) pe_int) pe_int) pe_int))
      (pss_cons (ps_set (i := 3) sc__law_take.nd rfl (Or.inl rfl) (pe_op op_mod (pe_op op_pow (pe_op op_add (pv 3) (pe_op op_mul pe_int (pe_ix (ix_listK (K := K)) (pv 0) pe_int (fun _ _ => rfl)))) pe_int) pe_int))
      (pss_one (ps_ret (pe_op op_mod (pe_op op_fdivW (pv 3) pe_int) (pv 1)))))))), ?_⟩
    refine ⟨_, rfl, b, _, _, _, rfl, rfl, hL hb, rfl, _, _, rfl, rfl, _, rfl, ?_⟩
    refine ite2 (fun c => ?_) (fun c => ?_)
    · have c' := of_decide_eq_true c
      refine ⟨_, rfl, b, _, _, _, rfl, rfl, hL hb, rfl, _, rfl, _, _, rfl, rfl, hm, ?_⟩
      refine ⟨_, rfl, b, _, _, _, rfl, rfl, hL hb, rfl, _, rfl, _, _, rfl, rfl, ?_, ?_⟩
      · exact wide_div (b := 201) hm (by have h1 : (2 : Int) ^ 200 = 1606938044258990275541962092341162602522202993782792835301376 := by decide +kernel
                                         have h3 : (2 : Nat) ^ 201 = 3213876088517980551083924184682325205044405987565585670602752 := by decide +kernel
                                         rw [h1] at hm'
                                         rw [h3]
                                         omega) (by decide) (by decide)
      · refine ⟨_, rfl, b, _, _, 0, rfl, rfl, hb, rfl, _, rfl, ?_⟩
        exact q _ _ (Int.emod_nonneg _ (by omega)) (Int.emod_lt_of_pos _ hm) ⟨_, _, _, rfl, Int.ediv_nonneg hx (by omega), hy, hy', hz, by omega⟩
    · refine ⟨_, rfl, b, _, _, _, rfl, rfl, hL hb, rfl, _, _, rfl, rfl, _, rfl, b, _, _, 2, rfl, rfl, hb, rfl, ?_⟩
      have hb1 : (L2.upd H b (.lst [.int x, .int y, .int (z + 1)])) b = some (.lst [.int x, .int y, .int (z + 1)]) := upd_same
      refine ⟨_, rfl, b, _, _, _, rfl, rfl, hL hb1, rfl, _, rfl, b, _, _, _, rfl, rfl, hL hb1, rfl, _, _, rfl, rfl, .inl ⟨by decide, by decide⟩, _, _, rfl, rfl, _, _, rfl, rfl, _, _, rfl, rfl, ⟨by decide, by decide, ?_⟩, _, _, rfl, rfl, (by show (0 : Int) < 2147483647; decide), ?_⟩
      · exact pow_small (n := 0) (by omega) (by have : (2 : Int) ^ 60 = 1152921504606846976 := by decide
                                                omega)
      · have r0 := Int.emod_nonneg ((y + 7919 * (z + 1) + 37) ^ 5) (show (2147483647 : Int) ≠ 0 by decide)
        have r1 := Int.emod_lt_of_pos ((y + 7919 * (z + 1) + 37) ^ 5) (show (0 : Int) < 2147483647 by decide)
        refine ⟨_, rfl, _, rfl, b, _, _, _, rfl, rfl, hL hb1, rfl, _, _, rfl, rfl, .inl ⟨by decide, by decide⟩, _, _, rfl, rfl, _, _, rfl, rfl, ⟨by decide, by decide, ?_⟩, _, _, rfl, rfl, (by show (0 : Int) < 2147483587; decide), ?_⟩
        · exact pow_small (n := 0) (Int.add_nonneg r0 (by omega)) (by have : (2 : Int) ^ 60 = 1152921504606846976 := by decide
                                                                      omega)
        · refine ⟨_, rfl, _, _, rfl, rfl, wide_div (b := 10) (by decide) (by decide) (by decide) (by decide), _, rfl, _, _, rfl, rfl, hm, ?_⟩
          exact q _ _ (Int.emod_nonneg _ (by omega)) (Int.emod_lt_of_pos _ hm) ⟨_, _, _, rfl, hx, hy, hy', by omega, by omega⟩
end

end TS

namespace TS
open PySem PySem.Spec PyProof.Rows L2 TL
/-! ### the head and the end -/
theorem gl_all : ∀ i ∈ List.range 37, nmE.getD i "" ∈ gl := by decide +kernel
set_option maxHeartbeats 8000000 in
theorem facts {w : World} {K : PySem.W.Frag} {h : Heap} {mg : Str → Option Value} {f : Addr} (X : K.In h) (G : h.Ns mainGlobals mg) (hfa : mg ("law" : Str) = some (.ref f)) (c : chk K = true) (c1 : fn.all (fun d => d.ok K) = true)
    (c2 : fn.map (fun d => He.fnW K d.at_) = fn.map He.DefD.val) : LawAt PySem.Challenge.rw_termshelf_k03_refusals_apart w mg 7 63 "_law_script" h f K := by
  obtain ⟨ca, cb⟩ := He.ba c
  obtain ⟨cs, cbt⟩ := He.ba ca
  obtain ⟨cg, cm⟩ := He.ba cb
  have fx : ∀ (i : Nat) (b : Bool), (fl K)[i]? = some b → b = true := fun i b hb => List.all_eq_true.mp cm b (List.mem_of_getElem? hb)
  have Y := sysB_ok cs
  have bt := bt_of X G cbt
  have g : ∀ (x : Str), x ∈ gl → (He.Fa.glo x).ok K = true := fun x hx => List.all_eq_true.mp cg x hx
  have gg : ∀ (x : Str), x ∈ gl → mg x = some (.ref (He.ga K x)) := fun x hx => He.glo_ok X G (g x hx)
  have D : ∀ {x : Str} {st : Stmt} (i : Nat), fn[i]? = some (defD x st) → x ∈ gl → Def K mg x st := fun i hi hx => def_of X G c1 c2 i hi (g _ hx)
  have gE : ∀ i, i < 37 → mg (nmE.getD i "") = some (.ref (cE K i)) := fun i hi => gg _ (gl_all i (List.mem_range.mpr hi))
  have d__law_cell : Def K mg "_law_cell" s__law_cell := D 0 rfl (by decide +kernel)
  have d__law_bag : Def K mg "_law_bag" s__law_bag := D 1 rfl (by decide +kernel)
  have d__law_take : Def K mg "_law_take" s__law_take := D 2 rfl (by decide +kernel)
  have d__law_very : Def K mg "_law_very" s__law_very := D 3 rfl (by decide +kernel)
  have d__law_any : Def K mg "_law_any" s__law_any := D 4 rfl (by decide +kernel)
  have d__law_marks_first : Def K mg "_law_marks_first" s__law_marks_first := D 5 rfl (by decide +kernel)
  have d__law_marks_last : Def K mg "_law_marks_last" s__law_marks_last := D 6 rfl (by decide +kernel)
  have d__law_made_first : Def K mg "_law_made_first" s__law_made_first := D 7 rfl (by decide +kernel)
  have d__law_made_last : Def K mg "_law_made_last" s__law_made_last := D 8 rfl (by decide +kernel)
  have d__law_families : Def K mg "_law_families" s__law_families := D 9 rfl (by decide +kernel)
  have d__law_family_of : Def K mg "_law_family_of" s__law_family_of := D 10 rfl (by decide +kernel)
  have d__law_fields_right : Def K mg "_law_fields_right" s__law_fields_right := D 11 rfl (by decide +kernel)
  have d__law_taken : Def K mg "_law_taken" s__law_taken := D 12 rfl (by decide +kernel)
  have d__law_by_name_right : Def K mg "_law_by_name_right" s__law_by_name_right := D 13 rfl (by decide +kernel)
  have d__law_right : Def K mg "_law_right" s__law_right := D 14 rfl (by decide +kernel)
  have d_law : Def K mg "law" s_law := D 15 rfl (by decide +kernel)
  have d_NoName : DefM K (He.ma K (He.ga K "NoName") "__init__") "__init__" "NoName.__init__" s_NoName___init__ := meth_of c1 c2 16 rfl
  have d_NoWords : DefM K (He.ma K (He.ga K "NoWords") "__init__") "__init__" "NoWords.__init__" s_NoWords___init__ := meth_of c1 c2 17 rfl
  have d_NoSigns : DefM K (He.ma K (He.ga K "NoSigns") "__init__") "__init__" "NoSigns.__init__" s_NoSigns___init__ := meth_of c1 c2 18 rfl
  have d_NoSign : DefM K (He.ma K (He.ga K "NoSign") "__init__") "__init__" "NoSign.__init__" s_NoSign___init__ := meth_of c1 c2 19 rfl
  have d_NoWord : DefM K (He.ma K (He.ga K "NoWord") "__init__") "__init__" "NoWord.__init__" s_NoWord___init__ := meth_of c1 c2 20 rfl
  have d_Beyond : DefM K (He.ma K (He.ga K "Beyond") "__init__") "__init__" "Beyond.__init__" s_Beyond___init__ := meth_of c1 c2 21 rfl
  have d_Unended : DefM K (He.ma K (He.ga K "Unended") "__init__") "__init__" "Unended.__init__" s_Unended___init__ := meth_of c1 c2 22 rfl
  have d_NoTerm : DefM K (He.ma K (He.ga K "NoTerm") "__init__") "__init__" "NoTerm.__init__" s_NoTerm___init__ := meth_of c1 c2 23 rfl
  have d_NoTerms : DefM K (He.ma K (He.ga K "NoTerms") "__init__") "__init__" "NoTerms.__init__" s_NoTerms___init__ := meth_of c1 c2 24 rfl
  have d_NoLetter : DefM K (He.ma K (He.ga K "NoLetter") "__init__") "__init__" "NoLetter.__init__" s_NoLetter___init__ := meth_of c1 c2 25 rfl
  have d_NoPairs : DefM K (He.ma K (He.ga K "NoPairs") "__init__") "__init__" "NoPairs.__init__" s_NoPairs___init__ := meth_of c1 c2 26 rfl
  have d_NoPutting : DefM K (He.ma K (He.ga K "NoPutting") "__init__") "__init__" "NoPutting.__init__" s_NoPutting___init__ := meth_of c1 c2 27 rfl
  have d_NoWay : DefM K (He.ma K (He.ga K "NoWay") "__init__") "__init__" "NoWay.__init__" s_NoWay___init__ := meth_of c1 c2 28 rfl
  have d_NoNumber : DefM K (He.ma K (He.ga K "NoNumber") "__init__") "__init__" "NoNumber.__init__" s_NoNumber___init__ := meth_of c1 c2 29 rfl
  have d_NoTruth : DefM K (He.ma K (He.ga K "NoTruth") "__init__") "__init__" "NoTruth.__init__" s_NoTruth___init__ := meth_of c1 c2 30 rfl
  have d_NoNote : DefM K (He.ma K (He.ga K "NoNote") "__init__") "__init__" "NoNote.__init__" s_NoNote___init__ := meth_of c1 c2 31 rfl
  have d_NoList : DefM K (He.ma K (He.ga K "NoList") "__init__") "__init__" "NoList.__init__" s_NoList___init__ := meth_of c1 c2 32 rfl
  have d_NoAsk : DefM K (He.ma K (He.ga K "NoAsk") "__init__") "__init__" "NoAsk.__init__" s_NoAsk___init__ := meth_of c1 c2 33 rfl
  have d_NoRule : DefM K (He.ma K (He.ga K "NoRule") "__init__") "__init__" "NoRule.__init__" s_NoRule___init__ := meth_of c1 c2 34 rfl
  have d_NoRules : DefM K (He.ma K (He.ga K "NoRules") "__init__") "__init__" "NoRules.__init__" s_NoRules___init__ := meth_of c1 c2 35 rfl
  have d_NoRow : DefM K (He.ma K (He.ga K "NoRow") "__init__") "__init__" "NoRow.__init__" s_NoRow___init__ := meth_of c1 c2 36 rfl
  have d_NoShelf : DefM K (He.ma K (He.ga K "NoShelf") "__init__") "__init__" "NoShelf.__init__" s_NoShelf___init__ := meth_of c1 c2 37 rfl
  have d_NoDeed : DefM K (He.ma K (He.ga K "NoDeed") "__init__") "__init__" "NoDeed.__init__" s_NoDeed___init__ := meth_of c1 c2 38 rfl
  have d_NoText : DefM K (He.ma K (He.ga K "NoText") "__init__") "__init__" "NoText.__init__" s_NoText___init__ := meth_of c1 c2 39 rfl
  have d_NoLine : DefM K (He.ma K (He.ga K "NoLine") "__init__") "__init__" "NoLine.__init__" s_NoLine___init__ := meth_of c1 c2 40 rfl
  have d_Unlike : DefM K (He.ma K (He.ga K "Unlike") "__init__") "__init__" "Unlike.__init__" s_Unlike___init__ := meth_of c1 c2 41 rfl
  have d_Twice : DefM K (He.ma K (He.ga K "Twice") "__init__") "__init__" "Twice.__init__" s_Twice___init__ := meth_of c1 c2 42 rfl
  have d_TooMany : DefM K (He.ma K (He.ga K "TooMany") "__init__") "__init__" "TooMany.__init__" s_TooMany___init__ := meth_of c1 c2 43 rfl
  have d_TooGreat : DefM K (He.ma K (He.ga K "TooGreat") "__init__") "__init__" "TooGreat.__init__" s_TooGreat___init__ := meth_of c1 c2 44 rfl
  have d_NotThere : DefM K (He.ma K (He.ga K "NotThere") "__init__") "__init__" "NotThere.__init__" s_NotThere___init__ := meth_of c1 c2 45 rfl
  have d_NoSpot : DefM K (He.ma K (He.ga K "NoSpot") "__init__") "__init__" "NoSpot.__init__" s_NoSpot___init__ := meth_of c1 c2 46 rfl
  have d_NoMore : DefM K (He.ma K (He.ga K "NoMore") "__init__") "__init__" "NoMore.__init__" s_NoMore___init__ := meth_of c1 c2 47 rfl
  have d_Changed : DefM K (He.ma K (He.ga K "Changed") "__init__") "__init__" "Changed.__init__" s_Changed___init__ := meth_of c1 c2 48 rfl
  have d_Endless : DefM K (He.ma K (He.ga K "Endless") "__init__") "__init__" "Endless.__init__" s_Endless___init__ := meth_of c1 c2 49 rfl
  have ks := ksB_ok (fx 0 _ rfl)
  have o0 : ∀ i, i < 29 → OwnT K (cE K i) (fldE.getD i "") "ValueError.__new__" veT := fun i hi => ownTB_ok (List.all_eq_true.mp (fx 1 _ rfl) i (List.mem_range.mpr hi))
  have o1 : ∀ i, 29 ≤ i → i < 31 → OwnT K (cE K i) (fldE.getD i "") "LookupError.__new__" keyT := fun i h1 h2 => by
    have := ownTB_ok (List.all_eq_true.mp (fx 2 _ rfl) (i - 29) (List.mem_range.mpr (by omega)))
    rw [show 29 + (i - 29) = i by omega] at this
    exact this
  have o2 : ∀ i, 31 ≤ i → i < 34 → OwnT K (cE K i) (fldE.getD i "") "LookupError.__new__" lookT := fun i h1 h2 => by
    have := ownTB_ok (List.all_eq_true.mp (fx 3 _ rfl) (i - 31) (List.mem_range.mpr (by omega)))
    rw [show 31 + (i - 31) = i by omega] at this
    exact this
  have fa0 := famTB_ok (fx 4 _ rfl)
  have fa1 := famTB_ok (fx 5 _ rfl)
  have fa2 := famTB_ok (fx 6 _ rfl)
  have fe0 : FamE K (cE K 34) "ValueError.__new__" "ValueError.__init__" veT := famEB_ok (fx 7 _ rfl)
  have fe1 : FamE K (cE K 35) "LookupError.__new__" "KeyError.__init__" keyT := famEB_ok (fx 8 _ rfl)
  have fe2 : FamE K (cE K 36) "LookupError.__new__" "LookupError.__init__" lookT := famEB_ok (fx 9 _ rfl)
  have xm : ∀ i, i < 3 → ∀ j, j < 3 → PySem.W.exmOne K (.ref (cE K (34 + i))) (.ref (cE K (34 + j))) = some (decide (i = j)) := fun i hi j hj => of_decide_eq_true (List.all_eq_true.mp (List.all_eq_true.mp (fx 10 _ rfl) i (List.mem_range.mpr hi)) j (List.mem_range.mpr hj))
  have n0 : mg "ValueError" = none := He.free_ok X G (fx 11 _ rfl)
  have n1 : mg "KeyError" = none := He.free_ok X G (fx 12 _ rfl)
  have n2 : mg "LookupError" = none := He.free_ok X G (fx 13 _ rfl)
  have xf : Xfs K := ⟨fun i hi => by
      by_cases c0 : i < 29
      · exact (o0 i c0).xf
      · by_cases c1 : i < 31
        · exact (o1 i (by omega) c1).xf
        · exact (o2 i (by omega) hi).xf, fun i hi => by
      by_cases c0 : i < 29
      · exact (o0 i c0).no
      · by_cases c1 : i < 31
        · exact (o1 i (by omega) c1).no
        · exact (o2 i (by omega) hi).no⟩
  obtain ⟨fL, fdL, FL, mL⟩ := id d_law
  have e := hfa.symm.trans mL
  cases e
  have b := FunD.bindsA (ps := ["_law_script"]) FL fun _ _ _ _ _ _ us hl => match us, hl with | [_], _ => rfl
  refine ⟨X, fdL, spLaw K, fun s v => b s [v] rfl, fun H a ns hl _ hS => ⟨a, ns, rfl, hS, hl, fun _ => rfl⟩, fun base _ _ => ?_⟩
  have i_NoName := ok_NoName_ini (P := PySem.Challenge.rw_termshelf_k03_refusals_apart.prog) (w := w) (base := base) fa0 (gE 34 (by decide)) (o0 0 (by decide)) d_NoName
  have i_NoWords := ok_NoWords_ini (P := PySem.Challenge.rw_termshelf_k03_refusals_apart.prog) (w := w) (base := base) fa0 (gE 34 (by decide)) (o0 1 (by decide)) d_NoWords
  have i_NoSigns := ok_NoSigns_ini (P := PySem.Challenge.rw_termshelf_k03_refusals_apart.prog) (w := w) (base := base) fa0 (gE 34 (by decide)) (o0 2 (by decide)) d_NoSigns
  have i_NoSign := ok_NoSign_ini (P := PySem.Challenge.rw_termshelf_k03_refusals_apart.prog) (w := w) (base := base) fa0 (gE 34 (by decide)) (o0 3 (by decide)) d_NoSign
  have i_NoWord := ok_NoWord_ini (P := PySem.Challenge.rw_termshelf_k03_refusals_apart.prog) (w := w) (base := base) fa0 (gE 34 (by decide)) (o0 4 (by decide)) d_NoWord
  have i_Beyond := ok_Beyond_ini (P := PySem.Challenge.rw_termshelf_k03_refusals_apart.prog) (w := w) (base := base) fa0 (gE 34 (by decide)) (o0 5 (by decide)) d_Beyond
  have i_Unended := ok_Unended_ini (P := PySem.Challenge.rw_termshelf_k03_refusals_apart.prog) (w := w) (base := base) fa0 (gE 34 (by decide)) (o0 6 (by decide)) d_Unended
  have i_NoTerm := ok_NoTerm_ini (P := PySem.Challenge.rw_termshelf_k03_refusals_apart.prog) (w := w) (base := base) fa0 (gE 34 (by decide)) (o0 7 (by decide)) d_NoTerm
  have i_NoTerms := ok_NoTerms_ini (P := PySem.Challenge.rw_termshelf_k03_refusals_apart.prog) (w := w) (base := base) fa0 (gE 34 (by decide)) (o0 8 (by decide)) d_NoTerms
  have i_NoLetter := ok_NoLetter_ini (P := PySem.Challenge.rw_termshelf_k03_refusals_apart.prog) (w := w) (base := base) fa0 (gE 34 (by decide)) (o0 9 (by decide)) d_NoLetter
  have i_NoPairs := ok_NoPairs_ini (P := PySem.Challenge.rw_termshelf_k03_refusals_apart.prog) (w := w) (base := base) fa0 (gE 34 (by decide)) (o0 10 (by decide)) d_NoPairs
  have i_NoPutting := ok_NoPutting_ini (P := PySem.Challenge.rw_termshelf_k03_refusals_apart.prog) (w := w) (base := base) fa0 (gE 34 (by decide)) (o0 11 (by decide)) d_NoPutting
  have i_NoWay := ok_NoWay_ini (P := PySem.Challenge.rw_termshelf_k03_refusals_apart.prog) (w := w) (base := base) fa0 (gE 34 (by decide)) (o0 12 (by decide)) d_NoWay
  have i_NoNumber := ok_NoNumber_ini (P := PySem.Challenge.rw_termshelf_k03_refusals_apart.prog) (w := w) (base := base) fa0 (gE 34 (by decide)) (o0 13 (by decide)) d_NoNumber
  have i_NoTruth := ok_NoTruth_ini (P := PySem.Challenge.rw_termshelf_k03_refusals_apart.prog) (w := w) (base := base) fa0 (gE 34 (by decide)) (o0 14 (by decide)) d_NoTruth
  have i_NoNote := ok_NoNote_ini (P := PySem.Challenge.rw_termshelf_k03_refusals_apart.prog) (w := w) (base := base) fa0 (gE 34 (by decide)) (o0 15 (by decide)) d_NoNote
  have i_NoList := ok_NoList_ini (P := PySem.Challenge.rw_termshelf_k03_refusals_apart.prog) (w := w) (base := base) fa0 (gE 34 (by decide)) (o0 16 (by decide)) d_NoList
  have i_NoAsk := ok_NoAsk_ini (P := PySem.Challenge.rw_termshelf_k03_refusals_apart.prog) (w := w) (base := base) fa0 (gE 34 (by decide)) (o0 17 (by decide)) d_NoAsk
  have i_NoRule := ok_NoRule_ini (P := PySem.Challenge.rw_termshelf_k03_refusals_apart.prog) (w := w) (base := base) fa0 (gE 34 (by decide)) (o0 18 (by decide)) d_NoRule
  have i_NoRules := ok_NoRules_ini (P := PySem.Challenge.rw_termshelf_k03_refusals_apart.prog) (w := w) (base := base) fa0 (gE 34 (by decide)) (o0 19 (by decide)) d_NoRules
  have i_NoRow := ok_NoRow_ini (P := PySem.Challenge.rw_termshelf_k03_refusals_apart.prog) (w := w) (base := base) fa0 (gE 34 (by decide)) (o0 20 (by decide)) d_NoRow
  have i_NoShelf := ok_NoShelf_ini (P := PySem.Challenge.rw_termshelf_k03_refusals_apart.prog) (w := w) (base := base) fa0 (gE 34 (by decide)) (o0 21 (by decide)) d_NoShelf
  have i_NoDeed := ok_NoDeed_ini (P := PySem.Challenge.rw_termshelf_k03_refusals_apart.prog) (w := w) (base := base) fa0 (gE 34 (by decide)) (o0 22 (by decide)) d_NoDeed
  have i_NoText := ok_NoText_ini (P := PySem.Challenge.rw_termshelf_k03_refusals_apart.prog) (w := w) (base := base) fa0 (gE 34 (by decide)) (o0 23 (by decide)) d_NoText
  have i_NoLine := ok_NoLine_ini (P := PySem.Challenge.rw_termshelf_k03_refusals_apart.prog) (w := w) (base := base) fa0 (gE 34 (by decide)) (o0 24 (by decide)) d_NoLine
  have i_Unlike := ok_Unlike_ini (P := PySem.Challenge.rw_termshelf_k03_refusals_apart.prog) (w := w) (base := base) fa0 (gE 34 (by decide)) (o0 25 (by decide)) d_Unlike
  have i_Twice := ok_Twice_ini (P := PySem.Challenge.rw_termshelf_k03_refusals_apart.prog) (w := w) (base := base) fa0 (gE 34 (by decide)) (o0 26 (by decide)) d_Twice
  have i_TooMany := ok_TooMany_ini (P := PySem.Challenge.rw_termshelf_k03_refusals_apart.prog) (w := w) (base := base) fa0 (gE 34 (by decide)) (o0 27 (by decide)) d_TooMany
  have i_TooGreat := ok_TooGreat_ini (P := PySem.Challenge.rw_termshelf_k03_refusals_apart.prog) (w := w) (base := base) fa0 (gE 34 (by decide)) (o0 28 (by decide)) d_TooGreat
  have i_NotThere := ok_NotThere_ini (P := PySem.Challenge.rw_termshelf_k03_refusals_apart.prog) (w := w) (base := base) fa1 (gE 35 (by decide)) (o1 29 (by decide) (by decide)) d_NotThere
  have i_NoSpot := ok_NoSpot_ini (P := PySem.Challenge.rw_termshelf_k03_refusals_apart.prog) (w := w) (base := base) fa1 (gE 35 (by decide)) (o1 30 (by decide) (by decide)) d_NoSpot
  have i_NoMore := ok_NoMore_ini (P := PySem.Challenge.rw_termshelf_k03_refusals_apart.prog) (w := w) (base := base) fa2 (gE 36 (by decide)) (o2 31 (by decide) (by decide)) d_NoMore
  have i_Changed := ok_Changed_ini (P := PySem.Challenge.rw_termshelf_k03_refusals_apart.prog) (w := w) (base := base) fa2 (gE 36 (by decide)) (o2 32 (by decide) (by decide)) d_Changed
  have i_Endless := ok_Endless_ini (P := PySem.Challenge.rw_termshelf_k03_refusals_apart.prog) (w := w) (base := base) fa2 (gE 36 (by decide)) (o2 33 (by decide) (by decide)) d_Endless
  have ii : ∀ i, i < 34 → i ≠ 31 → PromA CX0 PySem.Challenge.rw_termshelf_k03_refusals_apart.prog w K mg base 1 (He.ma K (cE K i) "__init__") ["self", fldE.getD i ""] (spIni (cE K i) (fldE.getD i "")) := fun i hi hn => match i, hi, hn with
    | 0, _, _ => i_NoName.pos (fun _ _ _ _ _ _ us hl => match us, hl with | [_, _], _ => rfl)
    | 1, _, _ => i_NoWords.pos (fun _ _ _ _ _ _ us hl => match us, hl with | [_, _], _ => rfl)
    | 2, _, _ => i_NoSigns.pos (fun _ _ _ _ _ _ us hl => match us, hl with | [_, _], _ => rfl)
    | 3, _, _ => i_NoSign.pos (fun _ _ _ _ _ _ us hl => match us, hl with | [_, _], _ => rfl)
    | 4, _, _ => i_NoWord.pos (fun _ _ _ _ _ _ us hl => match us, hl with | [_, _], _ => rfl)
    | 5, _, _ => i_Beyond.pos (fun _ _ _ _ _ _ us hl => match us, hl with | [_, _], _ => rfl)
    | 6, _, _ => i_Unended.pos (fun _ _ _ _ _ _ us hl => match us, hl with | [_, _], _ => rfl)
    | 7, _, _ => i_NoTerm.pos (fun _ _ _ _ _ _ us hl => match us, hl with | [_, _], _ => rfl)
    | 8, _, _ => i_NoTerms.pos (fun _ _ _ _ _ _ us hl => match us, hl with | [_, _], _ => rfl)
    | 9, _, _ => i_NoLetter.pos (fun _ _ _ _ _ _ us hl => match us, hl with | [_, _], _ => rfl)
    | 10, _, _ => i_NoPairs.pos (fun _ _ _ _ _ _ us hl => match us, hl with | [_, _], _ => rfl)
    | 11, _, _ => i_NoPutting.pos (fun _ _ _ _ _ _ us hl => match us, hl with | [_, _], _ => rfl)
    | 12, _, _ => i_NoWay.pos (fun _ _ _ _ _ _ us hl => match us, hl with | [_, _], _ => rfl)
    | 13, _, _ => i_NoNumber.pos (fun _ _ _ _ _ _ us hl => match us, hl with | [_, _], _ => rfl)
    | 14, _, _ => i_NoTruth.pos (fun _ _ _ _ _ _ us hl => match us, hl with | [_, _], _ => rfl)
    | 15, _, _ => i_NoNote.pos (fun _ _ _ _ _ _ us hl => match us, hl with | [_, _], _ => rfl)
    | 16, _, _ => i_NoList.pos (fun _ _ _ _ _ _ us hl => match us, hl with | [_, _], _ => rfl)
    | 17, _, _ => i_NoAsk.pos (fun _ _ _ _ _ _ us hl => match us, hl with | [_, _], _ => rfl)
    | 18, _, _ => i_NoRule.pos (fun _ _ _ _ _ _ us hl => match us, hl with | [_, _], _ => rfl)
    | 19, _, _ => i_NoRules.pos (fun _ _ _ _ _ _ us hl => match us, hl with | [_, _], _ => rfl)
    | 20, _, _ => i_NoRow.pos (fun _ _ _ _ _ _ us hl => match us, hl with | [_, _], _ => rfl)
    | 21, _, _ => i_NoShelf.pos (fun _ _ _ _ _ _ us hl => match us, hl with | [_, _], _ => rfl)
    | 22, _, _ => i_NoDeed.pos (fun _ _ _ _ _ _ us hl => match us, hl with | [_, _], _ => rfl)
    | 23, _, _ => i_NoText.pos (fun _ _ _ _ _ _ us hl => match us, hl with | [_, _], _ => rfl)
    | 24, _, _ => i_NoLine.pos (fun _ _ _ _ _ _ us hl => match us, hl with | [_, _], _ => rfl)
    | 25, _, _ => i_Unlike.pos (fun _ _ _ _ _ _ us hl => match us, hl with | [_, _], _ => rfl)
    | 26, _, _ => i_Twice.pos (fun _ _ _ _ _ _ us hl => match us, hl with | [_, _], _ => rfl)
    | 27, _, _ => i_TooMany.pos (fun _ _ _ _ _ _ us hl => match us, hl with | [_, _], _ => rfl)
    | 28, _, _ => i_TooGreat.pos (fun _ _ _ _ _ _ us hl => match us, hl with | [_, _], _ => rfl)
    | 29, _, _ => i_NotThere.pos (fun _ _ _ _ _ _ us hl => match us, hl with | [_, _], _ => rfl)
    | 30, _, _ => i_NoSpot.pos (fun _ _ _ _ _ _ us hl => match us, hl with | [_, _], _ => rfl)
    | 31, _, hn => absurd rfl hn
    | 32, _, _ => i_Changed.pos (fun _ _ _ _ _ _ us hl => match us, hl with | [_, _], _ => rfl)
    | 33, _, _ => i_Endless.pos (fun _ _ _ _ _ _ us hl => match us, hl with | [_, _], _ => rfl)
    | _ + 34, hi, _ => absurd hi (by omega)
  have S : Inis PySem.Challenge.rw_termshelf_k03_refusals_apart.prog w K mg base := ⟨gE, o0, o1, o2, ii, i_NoMore.pos (fun _ _ _ _ _ _ us hl => match us, hl with | [_], _ => rfl)⟩
  have N : Nams PySem.Challenge.rw_termshelf_k03_refusals_apart.prog w K mg base := ⟨fun i hi => by
    simp only [List.mem_cons, List.not_mem_nil, or_false] at hi
    rcases hi with rfl | rfl | rfl | rfl | rfl | rfl | rfl | rfl | rfl | rfl | rfl | rfl | rfl
    · exact i_NoName.names 1 ["found"] (fun vs zs => vs ++ zs) (fun r1 r2 => r1.append r2) (fun _ _ _ _ _ _ us ws l1 l2 => match us, ws, l1, l2 with | [_], [_], _, _ => rfl)
    · exact i_NoTerm.names 1 ["found"] (fun vs zs => vs ++ zs) (fun r1 r2 => r1.append r2) (fun _ _ _ _ _ _ us ws l1 l2 => match us, ws, l1, l2 with | [_], [_], _, _ => rfl)
    · exact i_Unlike.names 1 ["found"] (fun vs zs => vs ++ zs) (fun r1 r2 => r1.append r2) (fun _ _ _ _ _ _ us ws l1 l2 => match us, ws, l1, l2 with | [_], [_], _, _ => rfl)
    · exact i_Twice.names 1 ["found"] (fun vs zs => vs ++ zs) (fun r1 r2 => r1.append r2) (fun _ _ _ _ _ _ us ws l1 l2 => match us, ws, l1, l2 with | [_], [_], _, _ => rfl)
    · exact i_NotThere.names 1 ["found"] (fun vs zs => vs ++ zs) (fun r1 r2 => r1.append r2) (fun _ _ _ _ _ _ us ws l1 l2 => match us, ws, l1, l2 with | [_], [_], _, _ => rfl)
    · exact i_NoSign.names 1 ["at"] (fun vs zs => vs ++ zs) (fun r1 r2 => r1.append r2) (fun _ _ _ _ _ _ us ws l1 l2 => match us, ws, l1, l2 with | [_], [_], _, _ => rfl)
    · exact i_Beyond.names 1 ["at"] (fun vs zs => vs ++ zs) (fun r1 r2 => r1.append r2) (fun _ _ _ _ _ _ us ws l1 l2 => match us, ws, l1, l2 with | [_], [_], _, _ => rfl)
    · exact i_NoDeed.names 1 ["at"] (fun vs zs => vs ++ zs) (fun r1 r2 => r1.append r2) (fun _ _ _ _ _ _ us ws l1 l2 => match us, ws, l1, l2 with | [_], [_], _, _ => rfl)
    · exact i_TooMany.names 1 ["many"] (fun vs zs => vs ++ zs) (fun r1 r2 => r1.append r2) (fun _ _ _ _ _ _ us ws l1 l2 => match us, ws, l1, l2 with | [_], [_], _, _ => rfl)
    · exact i_TooGreat.names 1 ["many"] (fun vs zs => vs ++ zs) (fun r1 r2 => r1.append r2) (fun _ _ _ _ _ _ us ws l1 l2 => match us, ws, l1, l2 with | [_], [_], _, _ => rfl)
    · exact i_Changed.names 1 ["many"] (fun vs zs => vs ++ zs) (fun r1 r2 => r1.append r2) (fun _ _ _ _ _ _ us ws l1 l2 => match us, ws, l1, l2 with | [_], [_], _, _ => rfl)
    · exact i_Unended.names 1 ["many"] (fun vs zs => vs ++ zs) (fun r1 r2 => r1.append r2) (fun _ _ _ _ _ _ us ws l1 l2 => match us, ws, l1, l2 with | [_], [_], _, _ => rfl)
    · exact i_NoText.names 1 ["row"] (fun vs zs => vs ++ zs) (fun r1 r2 => r1.append r2) (fun _ _ _ _ _ _ us ws l1 l2 => match us, ws, l1, l2 with | [_], [_], _, _ => rfl)⟩
  have p_take := ok_take (P := PySem.Challenge.rw_termshelf_k03_refusals_apart.prog) (w := w) (base := base) d__law_take
  have p_any := ok_any p_take d__law_any
  have p_very := ok_very (P := PySem.Challenge.rw_termshelf_k03_refusals_apart.prog) (w := w) (base := base) Y bt d__law_very
  have p_mf := ok_mfirst (P := PySem.Challenge.rw_termshelf_k03_refusals_apart.prog) (w := w) (base := base) bt ks gE d__law_marks_first
  have p_ml := ok_mlast (P := PySem.Challenge.rw_termshelf_k03_refusals_apart.prog) (w := w) (base := base) bt ks gE d__law_marks_last
  have p_fams := ok_families (P := PySem.Challenge.rw_termshelf_k03_refusals_apart.prog) (w := w) (base := base) bt ks gE n0 n1 n2 d__law_families
  have p_fof := ok_family_of (P := PySem.Challenge.rw_termshelf_k03_refusals_apart.prog) (w := w) (base := base) d__law_family_of
  have p_df := ok_madef S d__law_made_first
  have p_dl := ok_madel S d__law_made_last
  have p_fields := ok_fields xf p_very d__law_fields_right
  have p_taken := ok_taken (P := PySem.Challenge.rw_termshelf_k03_refusals_apart.prog) (w := w) (base := base) bt ks gE fe0 fe1 fe2 xm d__law_taken
  have p_byname := ok_byname bt S N xf p_very d__law_by_name_right
  have p_right := ok_right bt S fe0 fe1 fe2 p_take p_any p_byname p_df p_dl p_mf p_ml p_fams p_fof p_fields p_taken d__law_right
  exact ok_law bt (ok_cell bt d__law_cell) (ok_bag bt d__law_bag) p_right FL

end TS
open PySem PySem.W PySem.Calls PyProof.Rows
set_option maxHeartbeats 0 in
theorem PySem.Challenge.cw_termshelf_k03_refusals_apart_holds : PySem.Challenge.rw_termshelf_k03_refusals_apart.Holds := by
  w_on; o_law
  refine HandSHeadRun.head_any (r := OpenLaw.row PySem.Challenge.rw_termshelf_k03_refusals_apart) (q := view (OpenLaw.row PySem.Challenge.rw_termshelf_k03_refusals_apart).prog [54]) (H := TS.hk) (ob := TS.ob) (M := 20000) (loose := TS.loose) (d := HandSHeadRun.topDef (OpenLaw.row PySem.Challenge.rw_termshelf_k03_refusals_apart).prog 54) (kwd := []) TS.obsY_eq
    (by kernel_rfl) (fun s => by kernel_rfl) TS.run (by kernel_rfl) (by kernel_rfl) (by kernel_rfl) (by rfl) (by first | assumption | decide +kernel) (by decide +kernel) ⟨rfl, rfl, rfl, rfl, rfl, by decide +kernel⟩ ?hw ?hc
  case hw => w_witness2
  case hc =>
    refine TS.walkG (l := PySem.Challenge.rw_termshelf_k03_refusals_apart) (n := 63) (k := 7) (x := "_law_script") rfl (by decide) (by kernel_rfl) ⟨rfl, by decide, by decide⟩ ?F
    intro w mg fa h Y G hmg0
    obtain ⟨K, KX, c, c1, c2⟩ := Y
    have hmg : mg ("law" : PySem.Str) = some (.ref fa) := by
      have e : (HandSHeadRun.topDef (OpenLaw.row PySem.Challenge.rw_termshelf_k03_refusals_apart).prog 54).name = ("law" : PySem.Str) := by kernel_rfl
      rw [← e]
      exact hmg0
    exact ⟨K, TS.facts KX G hmg c c1 c2⟩

