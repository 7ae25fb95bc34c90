import PyProof.Rows.All
import Wide.All
import OpenK.AllK
import Wide.FinOn
import KE.KStateDown
import Lean
import HandS.ForMost
import HandS.More
import HandS.WordsExc
import HandS.Defaults
import HandS.IsInst
import HandS.Wide
import HandS.Flow
import HandS.Conv
import HandS.Replace
import HandS.EndBits
import HandS.Head0
import HandS.Head1
import HandS.Head2
import HandS.HeadEnd
import HandS.HeadHook1
import HandS.HeadHook2
import HandS.Walk
import HandS.ReplaceList
import PySem.Challenge.RW_termshelf_k04_words_and_rows_parted
set_option Elab.async false
set_option linter.all false
set_option maxRecDepth 100000
/-! ### 1. promises of defs that may show things (repr): no guard runs around -/
namespace TS
open PySem PySem.Spec PyProof.Rows L2
structure FnG (P : Program) (w : World) (K : PySem.W.Frag) (mg : Str → Option Value) (base : Heap) (CX : CXT) (k : Nat) (f : Addr) (fd : FuncData) (ps : List Str) (sp : Sp) : Prop where
  len : ∀ vs H Q E, sp vs H Q E → vs.length = ps.length
  run : ∀ (A : Around) (outer : List Env) (s : Shared) (H : Hp) (args : Args) (us : List Value) (vs : List V) (Q : VK) (E : XK), A.guards = some [] → Room k A → Env0 P w K mg base A outer s H →
    BindsTo s fd args (ps.zip us) → Vals vs us → sp vs H Q E → codeAny (model P w) A (.call (.ref f) args) (CR CX outer P w H s Q E) s
section
variable {P : Program} {w : World} {K : PySem.W.Frag} {mg : Str → Option Value} {base : Heap} {CX : CXT} {k : Nat} {f : Addr} {fd : FuncData} {ps : List Str} {sp : Sp}
theorem FnG.of (F : FnOk P w K mg base CX k f fd ps sp) : FnG P w K mg base CX k f fd ps sp := ⟨F.len, fun A outer s H args us vs Q E _ => F.run A outer s H args us vs Q E⟩
/-- the body's rule, the guards told -/
theorem okG {x qual : Str} {params : Arguments} {body : List Stmt} {scope : Scope} {dvs : List V} {kws : List (Str × V)} {N : List Str} (F : FunD K x qual params body scope dvs kws f fd) (S : FnScope N ps scope)
    (len : ∀ vs H Q E, sp vs H Q E → vs.length = ps.length)
    (hbody : ∀ (cdv : Value) (A : Around) (outer : List Env) (s : Shared) (H : Hp) (vs : List V) (Q : VK) (E : XK), (A.deeper (envOfC qual scope s.heap.objs.size f cdv)).guards = some [] →
      Room k (A.deeper (envOfC qual scope s.heap.objs.size f cdv)) → sp vs H Q E →
      ∃ t, PSs (cxOf CX P w K mg base N qual scope f cdv A outer s H E) body t ∧ t { nx := fun _ H' => Q .non H', rt := Q } (start N vs) H) : FnG P w K mg base CX (k + 1) f fd ps sp := by
  obtain ⟨oc, od, dV, kV, doc, pm, an, cdv, ct, osl, rfl, lk, hcd, _, _⟩ := F.ex
  refine ⟨len, fun A outer s H args us vs Q E hg hr e0 hb r hsp => ?_⟩
  have KX : K.In s.heap := e0.mod.kin.keeps fun b o e => (e0.bs b o e).1
  have NL : s.heap.NoLimit := e0.mod.nolimit.keeps fun b o e => (e0.bs b o e).1
  have kinds : ∀ y ∈ ps.zip us, scope.names.lookup y.1 = some .local ∨ (scope.names.lookup y.1 = some .cell ∧ ((cellsFrom (s.heap.objs.size + 1) scope.names []).lookup y.1).isSome = true) := by
    rintro ⟨n, v⟩ hy
    exact (S.par n (List.of_mem_zip hy).1).imp id fun q => ⟨q, PySem.W.cellsFrom_some _ _ _ (.inl q)⟩
  refine codeAny_call_function hr.depth (KX _ _ lk) rfl S.co S.gen rfl (PySem.W.codeRec_of KX hcd) (hb _ _ _ _ (wpAny_newFunctionEnv_cells S.kind kinds fun env he s1 x => ?_))
  subst he
  obtain ⟨t, ht, hq⟩ := hbody cdv A outer s H vs Q E hg (hr.deeper _) hsp
  have I0 := inv_start (CX := CX) (E := E) (f := f) (cd := cdv) (qual := qual) S hr.hd e0 (len _ _ _ _ hsp) r x
  refine ⟨NL.keeps x.toInCall.keep, codeAny_func (wpAny_mono (ht.run [] s1 (start N vs) H _ I0 hq) (fun fl s' hs => ?_) fun _ _ z => z)⟩
  cases fl with
  | ret u => exact let ⟨v, _, H', J, rv, q⟩ := hs; ⟨v, H', J.os, J.bare, J.base, J.hok, rv, q⟩
  | next => exact let ⟨_, H', J, q⟩ := hs; ⟨V.non, H', J.os, J.bare, J.base, J.hok, rfl, q⟩
  | brk => exact let ⟨_, _, _, q⟩ := hs; False.elim q
  | cont => exact let ⟨_, _, _, q⟩ := hs; False.elim q
end
section
variable {X : Cx} {CX : CXT} {k : Nat} {f C : Addr} {fd : FuncData} {ps : List Str} {sp : Sp} {dvs : List V} {ds : List Value} {E : XK} {x m : Str} {p pos apos : Pos} {e o : Expr} {es : List Expr} {ta : TE} {t : TA}
theorem run_G {pins : List (Addr × Obj)} {σ : L2.St} {H : Hp} {s : Shared} {Q : VK} {us : List Value} {vs : List V} (F : FnG X.prog X.w X.K X.mg X.base CX k f fd ps sp) (hgd : X.A.guards = some []) (hr : Room k X.A)
    (hb : Binds X.K fd ps ds) (hd : Vals dvs ds) (hx : Passes CX X E) (I : Inv X pins σ H s) (r : Vals vs us) (h : sp (vs ++ dvs) H Q E) : wpAny (model X.prog X.w) X.A (call (.ref f) us) (EP X pins σ Q) X.xe s := by
  have r2 := r.append hd
  have hl : (us ++ ds).length = ps.length := r2.length.symm.trans (F.len _ _ _ _ h)
  refine wpAny_call (codeAny_mono (F.run X.A X.stack s H ⟨us, []⟩ (us ++ ds) (vs ++ dvs) Q E hgd hr I.env0 (hb s us I.kIn hl) r2 h) fun r s' hq => ?_)
  match r, hq with
  | .error e, hq => exact hx pins σ H s e s' I hq
  | .ok (.ret u), hq => exact I.after hq
theorem pe_callG (F : FnG X.prog X.w X.K X.mg X.base CX k f fd ps sp) (hgd : X.A.guards = some []) (hr : Room k X.A) (hg : Gl X x) (hm : X.mg x = some (.ref f)) (hk : PySem.W.keepIn X.K (.ref f) = true)
    (hb : Binds X.K fd ps ds) (hd : Vals dvs ds) (hx : Passes CX X E) (ha : PA X (e :: es) t) (hdb : (x == ("__debug__" : Str)) = false := by decide)
    (he : starEach (e :: es) X.env = (false, eval e X.env) :: starEach es X.env := by rfl) (hpl : (backTo pos (starEach es X.env)).any (·.1) = false := by rfl) :
    PE X (.Call (.Name x p) (e :: es) [] pos) (tCall sp dvs E t) := by
  refine ⟨fun pins s σ H Q I h => wpAny_Call_Name_kw (ld_glob I hg hm ?_ hdb)⟩
  exact PySem.W.callWith_K (h₀ := X.base) I.ok.mod.kin hk (thn (ha.run pos pins s σ H _ I h) fun us s1 ⟨vs, H1, I1, r, q⟩ => ⟨I1.kIn, run_G F hgd hr hb hd hx I1 r q⟩) he hpl
end

/-! ### 2. data at any depth, dicts too, and how they are shown -/
def kD : Key → PyData
  | .inl i => .int i
  | .inr x => .str x
mutual
inductive Dt (K : PySem.W.Frag) (H : Hp) : V → PyData → Prop
  | non : Dt K H .non .none
  | bl (b : Bool) : Dt K H (.bl b) (.bool b)
  | int (i : Int) : Dt K H (.int i) (.int i)
  | str (x : Str) : Dt K H (.str x) (.str x)
  | lst {a : Addr} {xs : List V} {ds : List PyData} : SqL K H a xs → DtAll K H xs ds → Dt K H (.ref a) (.list ds)
  | tup {a : Addr} {xs : List V} {ds : List PyData} : SqT K H a xs → DtAll K H xs ds → Dt K H (.ref a) (.tuple ds)
  | dct {a : Addr} {ks : List Key} {xs : List V} {ds : List PyData} : H a = some (.dK (ks.zip xs)) → ks.length = xs.length → DtAll K H xs ds → Dt K H (.ref a) (.dict ((ks.map kD).zip ds))
inductive DtAll (K : PySem.W.Frag) (H : Hp) : List V → List PyData → Prop
  | nil : DtAll K H [] []
  | cons {v : V} {vs : List V} {d : PyData} {ds : List PyData} : Dt K H v d → DtAll K H vs ds → DtAll K H (v :: vs) (d :: ds)
end
theorem DtAll.length {K : PySem.W.Frag} {H : Hp} : ∀ {vs : List V} {ds : List PyData}, DtAll K H vs ds → vs.length = ds.length
  | _, _, .nil => rfl
  | _, _, .cons _ t => congrArg (· + 1) (DtAll.length t)
theorem SqT.same {K : PySem.W.Frag} {H H' : Hp} {a : Addr} {xs : List V} (e : Same H H') (h : SqT K H a xs) : SqT K H' a xs := by
  rcases h with (h | ⟨o, h⟩) | h
  · exact .inl (.inl (e _ _ h))
  · exact .inl (.inr ⟨o, e _ _ h⟩)
  · exact .inr h
mutual
theorem Dt.same {K : PySem.W.Frag} {H H' : Hp} (e : Same H H') : ∀ {v : V} {d : PyData}, Dt K H v d → Dt K H' v d
  | _, _, .non => .non
  | _, _, .bl b => .bl b
  | _, _, .int i => .int i
  | _, _, .str x => .str x
  | _, _, .lst h a => .lst (e.seq h) (DtAll.same e a)
  | _, _, .tup h a => .tup (SqT.same e h) (DtAll.same e a)
  | _, _, .dct h l a => .dct (e _ _ h) l (DtAll.same e a)
theorem DtAll.same {K : PySem.W.Frag} {H H' : Hp} (e : Same H H') : ∀ {v : List V} {d : List PyData}, DtAll K H v d → DtAll K H' v d
  | _, _, .nil => .nil
  | _, _, .cons a b => .cons (Dt.same e a) (DtAll.same e b)
end
/-- what the written part tells of the machine's own objects -/
structure Sys (K : PySem.W.Frag) : Prop where
  mods : ∃ o, K.lookup sysModules = some o ∧ o.cls = .type "dict"
  book : PySem.W.nsIn K cStatics sharingNotToldKey = some none
section
variable {X : Cx} {pins : List (Addr × Obj)} {σ : L2.St} {H : Hp} {s : Shared}
theorem noMods (Y : Sys X.K) (I : Inv X pins σ H s) {a : Addr} {o : Obj} (e : s.heap.get? a = some o) (h : o.cls ≠ .type "dict") : sysModules ≠ a := fun z => by
  obtain ⟨o', h1, h2⟩ := Y.mods
  have q := I.kIn _ _ h1
  rw [z, e] at q
  cases q
  exact h h2
theorem keys_read : ∀ {es : List DictEntry} {vs : List (Key × Value)}, Pairs (mixKind X.prog X.w) es vs → ReadsAll s.heap (es.map (·.key)) (vs.map fun kv => kD kv.1) []
  | _, _, .nil => .nil
  | _, _, .cons hk hv t => by
    have q := keys_read t
    rcases keyIs_shape hk with ⟨i, t, e1, e2⟩ | ⟨x, t, e1, e2⟩
    · rw [List.map_cons, List.map_cons, e2]
      show ReadsAll s.heap _ (kD _ :: _) _
      rw [e1]
      exact ReadsAll.cons (as := []) (Reads.int i t) q
    · rw [List.map_cons, List.map_cons, e2]
      show ReadsAll s.heap _ (kD _ :: _) _
      rw [e1]
      exact ReadsAll.cons (as := []) (Reads.str x t) q
theorem vals_read : ∀ {es : List DictEntry} {vs : List (Key × Value)}, Pairs (mixKind X.prog X.w) es vs → es.map (·.val) = vs.map (·.2)
  | _, _, .nil => rfl
  | _, _, .cons _ hv t => by rw [List.map_cons, List.map_cons, hv, vals_read t]
theorem kv_fst {κ : Type} : ∀ {kvs : List (κ × V)} {vs : List (κ × Value)}, KV kvs vs → kvs.map (·.1) = vs.map (·.1)
  | _, _, .nil => rfl
  | _, _, .cons r t => by rw [List.map_cons, List.map_cons, r.1, kv_fst t]
theorem kv_snd {κ : Type} : ∀ {kvs : List (κ × V)} {vs : List (κ × Value)}, KV kvs vs → Vals (kvs.map (·.2)) (vs.map (·.2))
  | _, _, .nil => .nil
  | _, _, .cons r t => .cons r.2 (kv_snd t)
theorem zip_fst {α β : Type} : ∀ {l : List α} {m : List β}, l.length = m.length → (l.zip m).map (·.1) = l
  | [], _, _ => by simp
  | a :: l, [], h => by simp at h
  | a :: l, b :: m, h => by
    rw [List.zip_cons_cons, List.map_cons, zip_fst (by simpa using h)]
theorem zip_snd {α β : Type} : ∀ {l : List α} {m : List β}, l.length = m.length → (l.zip m).map (·.2) = m
  | [], m, h => by cases m <;> simp_all
  | a :: l, [], h => by simp
  | a :: l, b :: m, h => by
    rw [List.zip_cons_cons, List.map_cons, zip_snd (by simpa using h)]
mutual
theorem Dt.reads (Y : Sys X.K) (I : Inv X pins σ H s) : ∀ {v : V} {d : PyData} {u : Value}, Dt X.K H v d → RelV v u → ∃ as, Reads s.heap u d as ∧ sysModules ∉ as
  | _, _, _, .non, r => by
    cases r
    exact ⟨_, Reads.none, by simp⟩
  | _, _, _, .bl b, r => by
    cases r
    exact ⟨_, Reads.bool b, by simp⟩
  | _, _, _, .int i, r => by
    obtain ⟨t, rfl⟩ := r
    exact ⟨_, Reads.int i t, by simp⟩
  | _, _, _, .str x, r => by
    obtain ⟨t, rfl⟩ := r
    exact ⟨_, Reads.str x t, by simp⟩
  | _, _, _, .lst hs ha, r => by
    cases r
    obtain ⟨its, rv, ⟨o, n, ho, hc, _, hd⟩, _⟩ := I.list hs
    obtain ⟨as, hr, hn⟩ := DtAll.reads Y I ha rv
    have ne := noMods Y I ho (by rw [hc]; decide +kernel)
    exact ⟨_, Reads.list ho hc hd hr, fun z => (List.mem_cons.mp z).elim ne hn⟩
  | _, _, _, .tup hs ha, r => by
    cases r
    obtain ⟨its, rv, ⟨o, ho, hc, n, hd⟩, _⟩ := I.tuple hs
    obtain ⟨as, hr, hn⟩ := DtAll.reads Y I ha rv
    exact ⟨_, Reads.tuple ho hc hd hr, hn⟩
  | _, _, _, .dct (a := a) (ks := ks) (xs := xs) (ds := ds) h l ha, r => by
    cases r
    obtain ⟨hz, hS, vs, rk, o, es, ep, ho, hx, hd, _, hp, _⟩ := (show ObjOk X.prog X.w H s.heap a (.dK (ks.zip xs)) from I.hok a _ h)
    have e1 := (kv_fst rk).symm.trans (zip_fst l)
    have e2 := kv_snd rk
    rw [zip_snd l] at e2
    obtain ⟨as, hr, hn⟩ := DtAll.reads Y I ha e2
    have q1 : ReadsAll s.heap (es.toList.map (·.key)) (ks.map kD) [] := by
      have z := keys_read (s := s) hp
      have z2 : vs.map (fun kv => kD kv.1) = ks.map kD := by rw [← e1, List.map_map]; rfl
      rw [z2] at z
      exact z
    have ln : (ks.map kD).length = ds.length := by rw [List.length_map, l, ha.length]
    have q2 := vals_read hp
    refine ⟨a :: [] ++ as, Reads.dict ho hx.1 hd (by rw [zip_fst ln]; exact q1) (by rw [zip_snd ln, q2]; exact hr), fun z => ?_⟩
    rcases List.mem_cons.mp (show sysModules ∈ a :: as from z) with z | z
    · exact absurd z.symm (by simpa using hS)
    · exact hn z
theorem DtAll.reads (Y : Sys X.K) (I : Inv X pins σ H s) : ∀ {vs : List V} {ds : List PyData} {us : List Value}, DtAll X.K H vs ds → Vals vs us → ∃ as, ReadsAll s.heap us ds as ∧ sysModules ∉ as
  | _, _, _, .nil, r => by
    cases r
    exact ⟨_, ReadsAll.nil, by simp⟩
  | _, _, _, .cons h1 h2, r => by
    cases r with
    | cons r1 r2 =>
      obtain ⟨as, q1, n1⟩ := Dt.reads Y I h1 r1
      obtain ⟨bs, q2, n2⟩ := DtAll.reads Y I h2 r2
      exact ⟨_, ReadsAll.cons q1 q2, fun z => (List.mem_append.mp z).elim n1 n2⟩
end
/-- repr(x), x data -/
def rRepr (K : PySem.W.Frag) : List V → Hp → VK → Prop := fun xs H Q => ∃ x d, xs = [x] ∧ Dt K H x d ∧ d.showable = true ∧ d.depth ≤ 40 ∧ d.shown.length ≤ sizeLine ∧ Q (.str d.shown) H
theorem call_repr (Y : Sys X.K) (hgd : X.A.guards = some []) (hu : X.A.units + 64 < cLine) : CallR X (.builtin "repr") (rRepr X.K) := by
  intro pins s σ H xs us Q I r h
  obtain ⟨x, d, rfl, hd, hs, hp, hz, q⟩ := h
  obtain ⟨u, rfl, r1⟩ := vals1 r
  obtain ⟨as, rd, hn⟩ := Dt.reads Y I hd r1
  have fin : ∀ h' v tk, (∀ b o, s.heap.get? b = some o → h'.get? b = some o) → EP X pins σ Q (.str d.shown v) { s with heap := h', toks := tk } := fun h' v tk hk => ⟨.str d.shown, H, I.kept hk, ⟨_, rfl⟩, q⟩
  cases hd with
  | non => cases r1; exact PySem.P.repr_of_none (fin _ _ _ fun _ _ z => z)
  | bl b => cases r1; exact PySem.P.repr_of_bool (fin _ _ _ fun _ _ z => z)
  | int i =>
    obtain ⟨t, rfl⟩ := r1
    exact PySem.P.repr_of_int (by simpa [PyData.showable] using hs) (fin _ _ _ fun _ _ z => z)
  | str y =>
    obtain ⟨t, rfl⟩ := r1
    exact PySem.P.repr_of_str (fin _ _ _ fun _ _ z => z) hz
  | lst h1 h2 => cases r1; exact repr_of_reads' rd hs (fun _ => hn) hgd (by omega) (fun _ _ e => e) fin hz
  | tup h1 h2 => cases r1; exact repr_of_reads' rd hs (fun _ => hn) hgd (by omega) (fun _ _ e => e) fin hz
  | dct h1 h2 h3 => cases r1; exact repr_of_reads' rd hs (fun _ => hn) hgd (by omega) (fun _ _ e => e) fin hz
theorem ns_none {K : PySem.W.Frag} {h : Heap} {a : Addr} {m : Str → Option Value} {n : Str} (X : K.In h) (G : h.Ns a m) (e : PySem.W.nsIn K a n = some none) : m n = none := by
  obtain ⟨o, es, ep, ho, hd, _, hf⟩ := G
  unfold PySem.W.nsIn at e
  split at e
  · rename_i c d es' n' sl q
    have z := X _ _ q
    rw [ho] at z
    cases z
    cases hd
    split at e
    · cases e
    · rename_i he
      rw [← hf]
      unfold nsFind findBy
      rw [← Array.find?_toList, he]
      rfl
  · cases e
theorem unbooked (Y : Sys X.K) (I : Inv X pins σ H s) : NoneBooked s.heap := by
  obtain ⟨mc, h1, h2⟩ := I.nolimit
  exact ⟨mc, h1, ns_none I.kIn h1 Y.book⟩
end
end TS

/-! ### 3. defs by their promises -/
namespace TS
open PySem PySem.Spec PyProof.Rows L2
def Def (K : PySem.W.Frag) (mg : Str → Option Value) (x : Str) (st : Stmt) : Prop := ∃ f fd, FunD K x x (defArgs st) (defBody st) (defScope st) [] [] f fd ∧ mg x = some (.ref f)
def Prom (P : Program) (w : World) (K : PySem.W.Frag) (mg : Str → Option Value) (base : Heap) (k : Nat) (x : Str) (ps : List Str) (sp : Sp) : Prop :=
  ∃ f fd, FnOk P w K mg base CX0 k f fd ps sp ∧ mg x = some (.ref f) ∧ PySem.W.keepIn K (.ref f) = true ∧ Binds K fd ps []
def PromG (P : Program) (w : World) (K : PySem.W.Frag) (mg : Str → Option Value) (base : Heap) (k : Nat) (x : Str) (ps : List Str) (sp : Sp) : Prop :=
  ∃ f fd, FnG P w K mg base CX0 k f fd ps sp ∧ mg x = some (.ref f) ∧ PySem.W.keepIn K (.ref f) = true ∧ Binds K fd ps []
section
variable {X : Cx} {k : Nat} {ps : List Str} {sp : Sp} {x : Str} {p pos : Pos} {e : Expr} {es : List Expr} {t : TA}
theorem pe_pc (pr : Prom X.prog X.w X.K X.mg X.base k x ps sp) (hr : Room k X.A) (hg : Gl X x) (ha : PA X (e :: es) t) (hdb : (x == ("__debug__" : Str)) = false := by decide)
    (he : starEach (e :: es) X.env = (false, eval e X.env) :: starEach es X.env := by rfl) (hpl : (backTo pos (starEach es X.env)).any (·.1) = false := by rfl) :
    PE X (.Call (.Name x p) (e :: es) [] pos) (tCall sp [] E0 t) := by
  obtain ⟨f, fd, F, m, kp, b⟩ := pr
  exact pe_call F hr hg m kp b .nil pass0 ha hdb he hpl
theorem pe_pcG (pr : PromG X.prog X.w X.K X.mg X.base k x ps sp) (hgd : X.A.guards = some []) (hr : Room k X.A) (hg : Gl X x) (ha : PA X (e :: es) t) (hdb : (x == ("__debug__" : Str)) = false := by decide)
    (he : starEach (e :: es) X.env = (false, eval e X.env) :: starEach es X.env := by rfl) (hpl : (backTo pos (starEach es X.env)).any (·.1) = false := by rfl) :
    PE X (.Call (.Name x p) (e :: es) [] pos) (tCall sp [] E0 t) := by
  obtain ⟨f, fd, F, m, kp, b⟩ := pr
  exact pe_callG F hgd hr hg m kp b .nil pass0 ha hdb he hpl
end
section
variable {P : Program} {w : World} {K : PySem.W.Frag} {mg : Str → Option Value} {base : Heap} {N ps : List Str} {k : Nat} {sp : Sp} {x : Str} {st : Stmt}
theorem prom_mk (D : Def K mg x st) (S : FnScope N ps (defScope st)) (len : ∀ vs H Q E, sp vs H Q E → vs.length = ps.length)
    (hb : ∀ (kV doc pm : Value) (an : Option Addr) (cdv ct : Value) (us : List Value), us.length = ps.length → bindArgs (PySem.W.fnOf x x (defArgs st) (defBody st) (defScope st) .none kV doc pm an cdv ct) ⟨us, []⟩ = pure (ps.zip us))
    (body : ∀ (f : Addr) (cdv : Value) (A : Around) (outer : List Env) (s : Shared) (H : Hp) (vs : List V) (Q : VK) (E : XK), Room k (A.deeper (envOfC x (defScope st) s.heap.objs.size f cdv)) → sp vs H Q E →
      ∃ t, PSs (cxOf CX0 P w K mg base N x (defScope st) f cdv A outer s H E).nox (defBody st) t ∧ t { nx := fun _ H' => Q .non H', rt := Q } (start N vs) H) : Prom P w K mg base (k + 1) x ps sp := by
  obtain ⟨f, fd, F, m⟩ := D
  refine ⟨f, fd, F.ok S len fun cdv A outer s H vs Q E hr h => ?_, m, F.kp, F.bindsN hb⟩
  obtain ⟨t, h1, h2⟩ := body f cdv A outer s H vs Q E hr h
  exact ⟨t, h1.nox, h2⟩
theorem promG_mk (D : Def K mg x st) (S : FnScope N ps (defScope st)) (len : ∀ vs H Q E, sp vs H Q E → vs.length = ps.length)
    (hb : ∀ (kV doc pm : Value) (an : Option Addr) (cdv ct : Value) (us : List Value), us.length = ps.length → bindArgs (PySem.W.fnOf x x (defArgs st) (defBody st) (defScope st) .none kV doc pm an cdv ct) ⟨us, []⟩ = pure (ps.zip us))
    (body : ∀ (f : Addr) (cdv : Value) (A : Around) (outer : List Env) (s : Shared) (H : Hp) (vs : List V) (Q : VK) (E : XK), (A.deeper (envOfC x (defScope st) s.heap.objs.size f cdv)).guards = some [] →
      Room k (A.deeper (envOfC x (defScope st) s.heap.objs.size f cdv)) → sp vs H Q E →
      ∃ t, PSs (cxOf CX0 P w K mg base N x (defScope st) f cdv A outer s H E).nox (defBody st) t ∧ t { nx := fun _ H' => Q .non H', rt := Q } (start N vs) H) : PromG P w K mg base (k + 1) x ps sp := by
  obtain ⟨f, fd, F, m⟩ := D
  refine ⟨f, fd, okG F S len fun cdv A outer s H vs Q E hg hr h => ?_, m, F.kp, F.bindsN hb⟩
  obtain ⟨t, h1, h2⟩ := body f cdv A outer s H vs Q E hg hr h
  exact ⟨t, h1.nox, h2⟩
end
section
variable {P : Program} {w : World} {K : PySem.W.Frag} {mg : Str → Option Value} {base : Heap} {N ps : List Str} {k : Nat} {sp : Sp} {x : Str} {st : Stmt} {f : Addr} {fd : FuncData}
theorem fnG_mk (F : FunD K x x (defArgs st) (defBody st) (defScope st) [] [] f fd) (S : FnScope N ps (defScope st)) (len : ∀ vs H Q E, sp vs H Q E → vs.length = ps.length)
    (body : ∀ (f : Addr) (cdv : Value) (A : Around) (outer : List Env) (s : Shared) (H : Hp) (vs : List V) (Q : VK) (E : XK), (A.deeper (envOfC x (defScope st) s.heap.objs.size f cdv)).guards = some [] →
      Room k (A.deeper (envOfC x (defScope st) s.heap.objs.size f cdv)) → sp vs H Q E →
      ∃ t, PSs (cxOf CX0 P w K mg base N x (defScope st) f cdv A outer s H E).nox (defBody st) t ∧ t { nx := fun _ H' => Q .non H', rt := Q } (start N vs) H) : FnG P w K mg base CX0 (k + 1) f fd ps sp := by
  refine okG F S len fun cdv A outer s H vs Q E hg hr h => ?_
  obtain ⟨t, h1, h2⟩ := body f cdv A outer s H vs Q E hg hr h
  exact ⟨t, h1.nox, h2⟩
end
/-- the built-in names that the text leaves alone -/
structure Bt (mg : Str → Option Value) : Prop where
  len_ : mg "len" = none
  isinstance_ : mg "isinstance" = none
  range_ : mg "range" = none
  max_ : mg "max" = none
  min_ : mg "min" = none
  int_ : mg "int" = none
  str_ : mg "str" = none
  bool_ : mg "bool" = none
  repr_ : mg "repr" = none
  all_ : mg "all" = none
  any_ : mg "any" = none
  list_ : mg "list" = none
  tuple_ : mg "tuple" = none
  dict_ : mg "dict" = none
  set_ : mg "set" = none
  sorted_ : mg "sorted" = none
  enumerate_ : mg "enumerate" = none
  zip_ : mg "zip" = none
  reversed_ : mg "reversed" = none
def btNames : List Str := ["len", "isinstance", "range", "max", "min", "int", "str", "bool", "repr", "all", "any", "list", "tuple", "dict", "set", "sorted", "enumerate", "zip", "reversed"]
theorem bt_of {K : PySem.W.Frag} {h : Heap} {mg : Str → Option Value} (X : K.In h) (G : h.Ns mainGlobals mg) (c : btNames.all (fun x => (He.Fa.free x).ok K) = true) : Bt mg := by
  have z : ∀ x ∈ btNames, mg x = none := fun x hx => He.free_ok X G (List.all_eq_true.mp c x hx)
  refine ⟨z _ ?_, z _ ?_, z _ ?_, z _ ?_, z _ ?_, z _ ?_, z _ ?_, z _ ?_, z _ ?_, z _ ?_, z _ ?_, z _ ?_, z _ ?_, z _ ?_, z _ ?_, z _ ?_, z _ ?_, z _ ?_, z _ ?_⟩ <;> decide +kernel

/-! ### 4. heaps: what is kept but for one object -/
def Fx (b : Addr) (H H' : Hp) : Prop := ∀ a o, a ≠ b → H a = some o → H' a = some o
def hide (H : Hp) (b : Addr) : Hp := fun a => if a = b then none else H a
theorem hide_self {H : Hp} {b : Addr} : hide H b b = none := by unfold hide; rw [if_pos rfl]
theorem hide_ne {H : Hp} {a b : Addr} (h : a ≠ b) : hide H b a = H a := by unfold hide; rw [if_neg h]
theorem hide_same {H : Hp} {b : Addr} : Same (hide H b) H := fun a o e => by
  unfold hide at e
  split at e
  · cases e
  · exact e
theorem Fx.refl (b : Addr) (H : Hp) : Fx b H H := fun _ _ _ e => e
theorem Fx.trans {b : Addr} {H H1 H2 : Hp} (x : Fx b H H1) (y : Fx b H1 H2) : Fx b H H2 := fun a o h e => y a o h (x a o h e)
theorem Fx.of {b : Addr} {H H' : Hp} (s : Same H H') : Fx b H H' := fun a o _ e => s a o e
theorem Fx.upd {b : Addr} {H H' : Hp} {o : HO} (x : Fx b H H') : Fx b H (upd H' b o) := fun a u h e => by
  rw [upd_ne h]
  exact x a u h e
theorem Fx.new {b p : Addr} {H H' : Hp} {o : HO} (x : Fx b H H') (h : H' p = none) : Fx b H (L2.upd H' p o) := fun a u ha e => by
  have q := x a u ha e
  rw [upd_ne (ne_of_none q h)]
  exact q
theorem Fx.hide {b : Addr} {H H' : Hp} (x : Fx b H H') : Same (hide H b) (hide H' b) := fun a o e => by
  have h : a ≠ b := fun z => by rw [z, hide_self] at e; cases e
  rw [hide_ne h] at e ⊢
  exact x a o h e
theorem Fx.sq {K : PySem.W.Frag} {b a : Addr} {H H' : Hp} {xs : List V} (x : Fx b H H') (h : a ≠ b) (s : SqL K H a xs) : SqL K H' a xs := by
  rcases s with (q | ⟨o, q⟩) | q
  · exact .inl (.inl (x _ _ h q))
  · exact .inl (.inr ⟨o, x _ _ h q⟩)
  · exact .inr q
theorem Same.new {H H' : Hp} {p : Addr} {o : HO} (s : Same H H') (h : H' p = none) : Same H (L2.upd H' p o) := fun a u e => by
  have q := s a u e
  rw [upd_ne (ne_of_none q h)]
  exact q
theorem sq_hide {K : PySem.W.Frag} {H : Hp} {a b : Addr} {xs : List V} (h : a ≠ b) (s : SqL K H a xs) : SqL K (hide H b) a xs := by
  rcases s with (q | ⟨o, q⟩) | q
  · exact .inl (.inl (by rw [hide_ne h]; exact q))
  · exact .inl (.inr ⟨o, by rw [hide_ne h]; exact q⟩)
  · exact .inr q
/-! ### 5. bags of draws -/
def Bag (n : Nat) (o : HO) : Prop := ∃ x y z : Int, o = .lst [.int x, .int y, .int z] ∧ 0 ≤ x ∧ 0 ≤ y ∧ y < 2147483629 ∧ 0 ≤ z ∧ z + n ≤ 1000000000
theorem Bag.mono {m n : Nat} {o : HO} (h : Bag n o) (l : m ≤ n) : Bag m o := let ⟨x, y, z, e, a, b, c, d, f⟩ := h; ⟨x, y, z, e, a, b, c, d, by omega⟩
theorem Bag.is {n : Nat} {o : HO} (h : Bag n o) : ∃ xs, o = .lst xs := let ⟨_, _, _, e, _⟩ := h; ⟨_, e⟩
/-- a cell of the script, or a number of its own -/
def spCell (K : PySem.W.Frag) : Sp := fun vs H Q _ => ∃ (a : Addr) (ns : List Int) (k : Nat), vs = [.ref a, .int k] ∧ SqL K H a (ns.map V.int) ∧ k ≤ 100 ∧ ∀ c, Q (.int c) H
def spBag : Sp := fun vs H Q _ => ∃ c : Int, vs = [.int c] ∧ ∀ p o, H p = none → Bag 900000000 o → Q (.ref p) (upd H p o)
/-- a draw below many -/
def spTake : Sp := fun vs H Q _ => ∃ (b : Addr) (o : HO) (n : Nat) (many : Int), vs = [.ref b, .int many] ∧ H b = some o ∧ Bag (n + 1) o ∧ 0 < many ∧ many < 2 ^ 200 ∧
  ∀ (d : Int) (o' : HO), 0 ≤ d → d < many → Bag n o' → Q (.int d) (upd H b o')
/-! ### 6. rules whose readings name K itself (for blocks) -/
def rLenK (K : PySem.W.Frag) : List V → Hp → VK → Prop := fun xs H Q => ∃ x n, xs = [x] ∧ LenV K x H n ∧ Q (.int n) H
def rListOf (K : PySem.W.Frag) : List V → Hp → VK → Prop := fun xs H Q => ∃ p ys, xs = [.ref p] ∧ (SqL K H p ys ∨ SqT K H p ys) ∧ ∀ l, H l = none → Q (.ref l) (upd H l (.lst ys))
def rTupleOf (K : PySem.W.Frag) : List V → Hp → VK → Prop := fun xs H Q => ∃ p ys, xs = [.ref p] ∧ ((SqL K H p ys ∧ ∀ l, H l = none → Q (.ref l) (upd H l (.tup ys))) ∨ (SqT K H p ys ∧ Q (.ref p) H))
def rJoin (K : PySem.W.Frag) : V → List V → Hp → VK → Prop := fun x xs H Q => ∃ a p, ∃ ys : List Str, x = .str a ∧ xs = [.ref p] ∧ (SqL K H p (ys.map V.str) ∨ SqT K H p (ys.map V.str)) ∧
  (ys.map (·.length)).sum + ys.length * a.length ≤ 16777216 ∧ Q (.str (Txt.join a ys)) H
section
variable {X : Cx} {K : PySem.W.Frag}
theorem ix_listK (hK : X.K = K := by rfl) : IxR X (rIxL K) := by subst hK; exact ix_list
theorem ix_tupK (hK : X.K = K := by rfl) : IxR X (rIxT K) := by subst hK; exact ix_tup
theorem sl_listK (hK : X.K = K := by rfl) : SlR X (rSlL K) := by subst hK; exact sl_list
theorem lenK (hK : X.K = K := by rfl) : CallR X (.builtin "len") (rLenK K) := by subst hK; exact call_len
theorem isiK (hK : X.K = K := by rfl) : CallR X (.builtin "isinstance") (rIsi K) := by subst hK; exact call_isi
theorem isiTK (hK : X.K = K := by rfl) : CallR X (.builtin "isinstance") (rIsiT K) := by subst hK; exact call_isiT
theorem allK (hc : X.calm = true) (hK : X.K = K := by rfl) : CallR X (.builtin "all") (rAll K) := by subst hK; exact cr_all hc
theorem listK (hK : X.K = K := by rfl) : CallR X (.type "list") (rListOf K) := by subst hK; exact call_list_of
theorem tupleK (hK : X.K = K := by rfl) : CallR X (.type "tuple") (rTupleOf K) := by subst hK; exact call_tuple_of
theorem reprK (Y : Sys K) (hgd : X.A.guards = some []) (hu : X.A.units + 64 < cLine) (hK : X.K = K := by rfl) : CallR X (.builtin "repr") (rRepr K) := by subst hK; exact call_repr Y hgd hu
theorem op_inK (hK : X.K = K := by rfl) : OpR X (compareOp .In) (rIn K false) := by subst hK; exact op_in_seq
theorem op_notInK (hK : X.K = K := by rfl) : OpR X (compareOp .NotIn) (rIn K true) := by subst hK; exact op_notIn_seq
theorem op_eqDK (hu : X.A.units + 64 < cLine) (hK : X.K = K := by rfl) : OpR X (compareOp .Eq) (rEqD K) := by subst hK; exact op_eqD hu
theorem op_neDK (hu : X.A.units + 64 < cLine) (hK : X.K = K := by rfl) : OpR X (compareOp .NotEq) (rNeD K) := by subst hK; exact op_neD hu
variable {o e : Expr} {es : List Expr} {to te : TE} {t : TA} {apos cpos : Pos}
theorem pe_joinK (hK : X.K = K) (ho : PE X o to) (he : PE X e te) (hs : starEach [e] X.env = [(false, eval e X.env)] := by rfl) (hbase : attributeBase o "join" X.env (eval o X.env) = eval o X.env := by rfl)
    (hline : (apos.endLine == cpos.line) = true := by rfl) : PE X (.Call (.Attribute o "join" apos) [e] [] cpos) (tM1 (rJoin K) to te) := by
  subst hK
  exact pe_join ho he hs hbase hline
theorem pe_appendK (hK : X.K = K) (ho : PE X o to) (he : PE X e te) (hs : starEach [e] X.env = [(false, eval e X.env)] := by rfl) (hbase : attributeBase o "append" X.env (eval o X.env) = eval o X.env := by rfl)
    (hfew : ((backTo cpos (starEach [e] X.env)).all (fun x => !x.1) && (backToKw cpos (keywordEach [] X.env)).all (fun x => x.1.isSome)
      && decide ([e].length + ([] : List Keyword).length + (if ([] : List Keyword).isEmpty then 0 else 1) < 30)) = true := by rfl)
    (hline : (apos.endLine == cpos.line) = true := by rfl) : PE X (.Call (.Attribute o "append" apos) [e] [] cpos) (tBM K "list" rAppend to (tCons te tNil)) := by
  subst hK
  exact pe_bm PySem.F.plainAttrs_list PySem.F.slot_list_append PySem.F.type_list_append mt_append ho (pa_cons he pa_nil hs) hbase hfew hline hs rfl
theorem pi_listK {tg : Expr} (hK : X.K = K) (hl : PE X e te) : PI X tg e (iList K te) := by subst hK; exact pi_list hl
theorem pi_tupK {tg : Expr} (hK : X.K = K) (hl : PE X e te) : PI X tg e (iTup K te) := by subst hK; exact pi_tup hl
theorem pi_enumK {p pos tpos : Pos} {elts : List Expr} {kk : Nat} (hK : X.K = K) (hg : Gl X "enumerate") (hm : X.mg "enumerate" = none) (ha : PA X [e] t) (hs : starEach [e] X.env = [(false, eval e X.env)] := by rfl) :
    PI X (.Tuple elts kk tpos) (.Call (.Name "enumerate" p) [e] [] pos) (iEnum K t) := by subst hK; exact pi_enum hg hm ha hs
theorem pi_revK {tg : Expr} {p pos : Pos} (hK : X.K = K) (hg : Gl X "reversed") (hm : X.mg "reversed" = none) (ha : PA X [e] t) (hs : starEach [e] X.env = [(false, eval e X.env)] := by rfl) :
    PI X tg (.Call (.Name "reversed" p) [e] [] pos) (iRev K t) := by subst hK; exact pi_reversed hg hm ha hs
end
end TS

/-! ### the end of a law, the guards told; the head's facts by any Bool of the written part -/
namespace TS
open PySem PySem.Spec PyProof.Rows L2
theorem law_callG {P : Program} {w : World} {K : PySem.W.Frag} {mg mb : Str → Option Value} {k : Nat} {fa a : Addr} {fd : FuncData} {x : Str} {sp : Sp} {s₁ : Shared} {vs : List Value} {ns : List Int}
    (KX : K.In s₁.heap) (hns : s₁.heap.Ns mainGlobals mg) (hb : s₁.heap.Ns builtinsNs mb) (hbb : ∀ x : Str, x ≠ "__name__" → mb x = bootBuiltins x) (hlim : s₁.heap.NoLimit) (hg : s₁.gens = #[])
    (ha : s₁.heap.get? a = some { cls := .type "list", data := .seq vs.toArray }) (hi : IntsAre vs ns) (hl : ns.length ≤ sizeLine) (hr : Room k callerA)
    (F : ∀ base : Heap, K.In base → base.Ns mainGlobals mg → FnG P w K mg base CX0 k fa fd [x] sp) (hbind : ∀ (s : Shared) (u : Value), BindsTo s fd ⟨[u], []⟩ [(x, u)])
    (hsp : ∀ H : Hp, Only H → SqL K H a (ns.map V.int) → sp [.ref a] H (fun v _ => v = .bl true) E0) :
    codeAny (model P w) callerA (.call (.ref fa) ⟨[.ref a], []⟩) (fun r s' => r = .ok (.ret (.bool true)) ∧ OldK s₁.heap s'.heap ∧ s'.os = s₁.os ∧ AllBare s'.gens) s₁ := by
  have rv := vals_ints hi
  have lenV := hi.length
  have go : ∀ H : Hp, Only H → SqL K H a (ns.map V.int) → HOk P w H s₁.heap → (∀ b u, H b = some u → b = a ∧ K.lookup a = none) →
      codeAny (model P w) callerA (.call (.ref fa) ⟨[.ref a], []⟩) (fun r s' => r = .ok (.ret (.bool true)) ∧ OldK s₁.heap s'.heap ∧ s'.os = s₁.os ∧ AllBare s'.gens) s₁ := by
    intro H hO hS hok hA
    have free : ∀ {b : Addr} {o : Obj}, s₁.heap.get? b = some o → (∀ n sl, o ≠ ⟨.type "list", none, .seq vs.toArray n, sl⟩ ) → H b = none := fun {b o} e d => by
      cases q : H b with
      | none => rfl
      | some u =>
        obtain ⟨rfl, _⟩ := hA b u q
        rw [ha] at e
        exact absurd (Option.some.inj e).symm (d _ _)
    have nsK : ∀ {b : Addr} {m : Str → Option Value}, s₁.heap.Ns b m → (hidT s₁.heap H).Ns b m := fun {b m} ⟨o, es, ep, e, d, r⟩ =>
      ⟨o, es, ep, hidT_get e (free e fun n sl z => by rw [z] at d; cases d), d, r⟩
    have KB : K.In (hidT s₁.heap H) := fun b o e => hidT_get (KX b o e) (by
      cases q : H b with
      | none => rfl
      | some u =>
        obtain ⟨rfl, z⟩ := hA b u q
        rw [z] at e
        cases e)
    have e0 : Env0 P w K mg (hidT s₁.heap H) callerA [] s₁ H :=
      ⟨rfl, ⟨KB, nsK hns, ⟨mb, nsK hb, hbb⟩, let ⟨mc, h1, h2⟩ := hlim; ⟨mc, nsK h1, h2⟩⟩, fun b o e => of_hidT e, Nat.le_of_eq (hidT_size _ _), trivial, (fun b z => nomatch z), hok, .of_eq hg⟩
    refine codeAny_mono ((F _ KB (nsK hns)).run callerA [] s₁ H ⟨[.ref a], []⟩ [.ref a] [.ref a] _ _ rfl hr e0 (hbind s₁ (.ref a)) (.cons rfl .nil) (hsp H hO hS)) fun r s' h => ?_
    match r, h with
    | .error e, h => exact False.elim h
    | .ok (.ret u), ⟨v, H', os, bare, un, hok', r', q⟩ =>
      obtain rfl : v = .bl true := q
      obtain rfl : u = Value.bool true := r'
      refine ⟨rfl, OldK.of_keep fun b o e => ?_, os, bare⟩
      rcases hO b with z | ⟨ob, xs, z⟩
      · exact un.keep b o e z (fun z => nomatch z) (fun z => nomatch z)
      · obtain ⟨e1, _⟩ := hok b _ z
        obtain ⟨e2, _⟩ := hok' b _ (un.frzs b ob _ z)
        rw [e] at e1
        cases e1
        exact e2
  cases hk : K.lookup a with
  | some o =>
    have e := KX a o hk
    rw [ha] at e
    cases e
    exact go (fun _ => none) (fun _ => .inl rfl) (.inr ⟨_, vs.toArray, _, hk, rfl, rfl, rfl, by rw [List.size_toArray, lenV]; exact hl, by simpa using rv⟩) (fun b u z => nomatch (show (none : Option HO) = some u from z)) (fun b u z => nomatch (show (none : Option HO) = some u from z))
  | none =>
    have one : ∀ {b : Addr} {u : HO}, (if b = a then some (HO.frz { cls := .type "list", data := .seq vs.toArray } (.lst (ns.map V.int))) else none) = some u → b = a ∧ u = .frz { cls := .type "list", data := .seq vs.toArray } (.lst (ns.map V.int)) := fun {b u} z => by
      by_cases hb : b = a
      · rw [if_pos hb] at z
        exact ⟨hb, (Option.some.inj z).symm⟩
      · rw [if_neg hb] at z
        cases z
    refine go (fun b => if b = a then some (.frz { cls := .type "list", data := .seq vs.toArray } (.lst (ns.map V.int))) else none) (fun b => ?_) (.inl (.inr ⟨_, if_pos rfl⟩)) (fun b u z => ?_) (fun b u z => ⟨(one z).1, hk⟩)
    · by_cases hb : b = a
      · exact .inr ⟨_, _, if_pos hb⟩
      · exact .inl (if_neg hb)
    · obtain ⟨rfl, rfl⟩ := one z
      exact ⟨ha, by rw [List.length_map]; exact hl, vs, _, rv, ha⟩
/-- what F gives of the law -/
structure LawAt (l : PySem.W.OpenLaw) (w : World) (mg : Str → Option Value) (k n : Nat) (x : Str) (h : Heap) (fa : Addr) (K : PySem.W.Frag) : Prop where
  kin : K.In h
  fn : ∃ (fd : FuncData) (sp : Sp), (∀ (s : Shared) (u : Value), BindsTo s fd ⟨[u], []⟩ [(x, u)]) ∧
    (∀ (H : Hp) (a : Addr) (ns : List Int), ns.length ≤ n → Only H → SqL K H a (ns.map V.int) → sp [.ref a] H (fun v _ => v = .bl true) E0) ∧
    ∀ base : Heap, K.In base → base.Ns mainGlobals mg → FnG l.prog w K mg base CX0 k fa fd [x] sp
theorem walkG {l : PySem.W.OpenLaw} {n k : Nat} {q : Program} {loose : List Str} {XP : (Str → Option Value) → Heap → Prop} {YP : World → Heap → Prop} {d : DefRec} {x : Str}
    (hn : l.most = some n) (hn2 : n ≤ sizeLine) (hdf : d.params.defaults = []) (hr : Room k callerA)
    (F : ∀ (w : World) (mg : Str → Option Value) (fa : Addr) (h : Heap), YP w h → h.Ns mainGlobals mg → mg d.name = some (.ref fa) → ∃ K, LawAt l w mg k n x h fa K) :
    PySem.W.WalkO q loose XP YP l.row.toRowW d [] (fun f vs => PySem.call f vs) := by
  refine Att.attach_call hn hdf fun w s₀ s₁ mg mb fa o pm cd doc a vs ns G Y ho hd hcd hmg hobj hints hlen hg => ?_
  obtain ⟨K, KX, fd, sp, hb, hsp, hF⟩ := F w mg fa _ Y G.T.g hmg
  exact law_callG KX G.T.g G.T.b G.T.builtins G.T.nolimit hg hobj hints (Nat.le_trans hlen hn2) hr hF hb fun H hO hS => hsp H a ns hlen hO hS
/-! ### the head -/
def asX (g : Addr → Option Obj) : Nat → List Addr
  | 0 => [mainGlobals, cStatics]
  | n + 1 => He.growD g (asX g n)
def frX (n : Nat) (g : Addr → Option Obj) : PySem.W.Frag := He.frG g (asX g n ++ [sysModules])
def obsX (n : Nat) (chk : PySem.W.Frag → Bool) (fn : List He.DefD) (g : Addr → Option Obj) : He.AlD :=
  (chk (frX n g) && fn.all (fun d => d.ok (frX n g)), fn.map fun d => He.fnW (frX n g) d.at_)
def hookX (n : Nat) (chk : PySem.W.Frag → Bool) (fn : List He.DefD) : PySem.W.Hook where
  α := He.AlD
  obs := fun s => obsX n chk fn s.heap.get?
  val := fun _ => (true, fn.map He.DefD.val)
  says := fun _ h => ∃ K : PySem.W.Frag, K.In h ∧ chk K = true ∧ fn.all (fun d => d.ok K) = true ∧ fn.map (fun d => He.fnW K d.at_) = fn.map He.DefD.val
  of := fun _ s e => ⟨_, He.frG_in, (He.ba (congrArg (·.1) e)).1, (He.ba (congrArg (·.1) e)).2, congrArg (·.2) e⟩
  keeps := fun _ _ _ ⟨K, hK, c⟩ k => ⟨K, PySem.W.Frag.In.keeps hK k, c⟩
theorem obsX_eq {n : Nat} {chk : PySem.W.Frag → Bool} {fn : List He.DefD} (s : PySem.W.SharedT) : obsX n chk fn (HandSHeadRun.getT s) = (hookX n chk fn).obs s.abs := by
  have e : HandSHeadRun.getT s = s.abs.heap.get? := funext (HandSHeadRun.getT_eq s)
  show obsX n chk fn (HandSHeadRun.getT s) = obsX n chk fn s.abs.heap.get?
  rw [e]
/-- a def's datum: a top statement -/
def defD (x : Str) (st : Stmt) : He.DefD := ⟨(x, none), x, x, defArgs st, defBody st, defScope st, [], []⟩
theorem def_of {K : PySem.W.Frag} {h : Heap} {mg : Str → Option Value} {fn : List He.DefD} (X : K.In h) (G : h.Ns mainGlobals mg) (c1 : fn.all (fun d => d.ok K) = true) (c2 : fn.map (fun d => He.fnW K d.at_) = fn.map He.DefD.val)
    {x : Str} {st : Stmt} (i : Nat) (hi : fn[i]? = some (defD x st)) (hg : (He.Fa.glo x).ok K = true) : Def K mg x st := by
  have e1 : He.fnW K (defD x st).at_ = (defD x st).val := by
    have h1 := congrArg (·[i]?) c2
    simp only [List.getElem?_map, hi, Option.map_some] at h1
    exact Option.some.inj h1
  obtain ⟨fd, F⟩ := He.DefD.funD e1 (List.all_eq_true.mp c1 _ (List.mem_of_getElem? hi))
  exact ⟨He.ga K x, fd, F, He.glo_ok X G hg⟩
/-- what is asked of the machine's own objects -/
def sysB (K : PySem.W.Frag) : Bool := (match K.lookup sysModules with | some o => decide (o.cls = .type "dict") | none => false) && decide (PySem.W.nsIn K cStatics sharingNotToldKey = some none)
theorem sysB_ok {K : PySem.W.Frag} (h : sysB K = true) : Sys K := by
  obtain ⟨h1, h2⟩ := He.ba h
  refine ⟨?_, of_decide_eq_true h2⟩
  cases e : K.lookup sysModules with
  | none => rw [e] at h1; cases h1
  | some o => rw [e] at h1; exact ⟨o, rfl, of_decide_eq_true h1⟩
def chkX (gl : List Str) (more : PySem.W.Frag → Bool) (K : PySem.W.Frag) : Bool := (sysB K && btNames.all fun x => (He.Fa.free x).ok K) && ((gl.all fun x => (He.Fa.glo x).ok K) && more K)
end TS

namespace TS
open PySem PySem.Spec PyProof.Rows L2 TL
def top (i : Nat) : Stmt := PySem.Challenge.pw_termshelf_k04_words_and_rows_parted.main.body.getD i (.Pass ⟨0, 0, 0, 0⟩)

section
variable {P : Program} {w : World} {K : PySem.W.Frag} {mg : Str → Option Value} {base : Heap}
abbrev s__law_cell : Stmt := top 4
theorem sc__law_cell : FnScope ["_law_script", "_law_k"] ["_law_script", "_law_k"] (defScope s__law_cell) := ⟨rfl, rfl, rfl, by decide +kernel, rfl, by decide +kernel, by decide +kernel⟩

theorem ok_cell (bt : Bt mg) (D : Def K mg "_law_cell" s__law_cell) : Prom P w K mg base 1 "_law_cell" ["_law_script", "_law_k"] (spCell K) := by
  refine prom_mk D sc__law_cell (fun vs H Q E h => ?_) (fun _ _ _ _ _ _ us hl => match us, hl with | [_, _], _ => rfl) (fun f cdv A outer s H vs Q E hr h => ?_)
  · obtain ⟨a, ns, k, rfl, _⟩ := h
    rfl
  · obtain ⟨a, ns, k, rfl, hS, hk, q⟩ := h
    refine ⟨_, (pss_cons (ps_if (pt_cmpR op_lt (pv 1) (pe_callB (id := "len") (lenK (K := K)) (by rfl) bt.len_ (by decide +kernel) (pa_cons (pv 0) pa_nil)) (nomark _)) (pss_one (ps_ret (pe_ix (ix_listK (K := K)) (pv 0) (pv 1) (fun _ _ => rfl)))) pss_nil)
      (pss_one (ps_ret (pe_op op_add (pe_op op_mul pe_int (pv 1)) pe_int)))), ?_⟩
    refine ⟨_, rfl, _, rfl, _, _, rfl, .inl ⟨_, hS, rfl⟩, _, _, rfl, rfl, _, rfl, ?_⟩
    refine ite2 (fun c => ?_) (fun c => ?_)
    · have c' := of_decide_eq_true c
      rw [List.length_map] at c'
      have hk' : k < ns.length := by omega
      exact ⟨_, rfl, _, rfl, a, _, _, .int ns[k], rfl, rfl, hS, atI_nat (by rw [List.getElem?_map, List.getElem?_eq_getElem hk']; rfl), q _⟩
    · exact ⟨_, rfl, _, _, rfl, rfl, .inl ⟨by decide, by decide⟩, _, _, rfl, rfl, q _⟩
abbrev s__law_bag : Stmt := top 5
theorem sc__law_bag : FnScope ["_law_cell_here"] ["_law_cell_here"] (defScope s__law_bag) := ⟨rfl, rfl, rfl, by decide +kernel, rfl, by decide +kernel, by decide +kernel⟩

theorem ok_bag (bt : Bt mg) (D : Def K mg "_law_bag" s__law_bag) : Prom P w K mg base 1 "_law_bag" ["_law_cell_here"] spBag := by
  refine prom_mk D sc__law_bag (fun vs H Q E h => ?_) (fun _ _ _ _ _ _ us hl => match us, hl with | [_], _ => rfl) (fun f cdv A outer s H vs Q E hr h => ?_)
  · obtain ⟨c, rfl, _⟩ := h
    rfl
  · obtain ⟨c, rfl, q⟩ := h
    refine ⟨_, (pss_one (ps_ret (pe_lst (pa_cons (pe_callB (id := "max") (call_max2 rfl) (by rfl) bt.max_ (by decide +kernel) (pa_cons pe_int (pa_cons (pe_op op_sub (pv 0) (pe_op op_pow pe_int pe_int)) pa_nil))) (pa_cons (pe_op op_mod (pv 0) pe_int) (pa_cons pe_int pa_nil)))))), ?_⟩
    refine ⟨_, rfl, _, _, rfl, rfl, ⟨by decide, by decide, by decide⟩, _, _, rfl, rfl, _, _, rfl, ?_⟩
    refine ⟨_, rfl, _, _, rfl, rfl, (by show (0 : Int) < 2147483629; decide), (by show 3 ≤ sizeLine; decide), fun p hp => q p _ hp ?_⟩
    refine ⟨_, _, _, rfl, ?_, Int.emod_nonneg _ (by decide), Int.emod_lt_of_pos _ (by decide), Int.le_refl 0, by decide⟩
    split <;> omega
abbrev s__law_take : Stmt := top 6
theorem sc__law_take : FnScope ["_law_bag_here", "_law_many", "_law_digit", "_law_number"] ["_law_bag_here", "_law_many"] (defScope s__law_take) := ⟨rfl, rfl, rfl, by decide +kernel, rfl, by decide +kernel, by decide +kernel⟩

theorem pow_small {x : Int} {n : Nat} (h0 : 0 ≤ x) (h1 : x < 2 ^ 60) : x.natAbs < 2 ^ 64 := by
  have : (2 : Int) ^ 60 = 1152921504606846976 := by decide
  have h2 : (2 : Nat) ^ 64 = 18446744073709551616 := by decide
  omega
theorem ok_take (D : Def K mg "_law_take" s__law_take) : Prom P w K mg base 1 "_law_take" ["_law_bag_here", "_law_many"] spTake := by
  refine prom_mk D sc__law_take (fun vs H Q E h => ?_) (fun _ _ _ _ _ _ us hl => match us, hl with | [_, _], _ => rfl) (fun f cdv A outer s H vs Q E hr h => ?_)
  · obtain ⟨b, o, n, many, rfl, _⟩ := h
    rfl
  · obtain ⟨b, o, n, many, rfl, hb, ⟨x, y, z, rfl, hx, hy, hy', hz, hn⟩, hm, hm', q⟩ := h
    have hL : ∀ {H : Hp} {xs : List V}, H b = some (.lst xs) → SqL K H b xs := fun h => .inl (.inl h)
    refine ⟨_, (pss_cons (ps_if (pt_cmpR op_gt (pe_ix (ix_listK (K := K)) (pv 0) pe_int (fun _ _ => rfl)) pe_int (nomark _)) (pss_cons (ps_set (i := 2) sc__law_take.nd rfl (Or.inl rfl) (pe_op op_mod (pe_ix (ix_listK (K := K)) (pv 0) pe_int (fun _ _ => rfl)) (pv 1)))
      (pss_cons (ps_asg (pe_op op_fdivW (pe_ix (ix_listK (K := K)) (pv 0) pe_int (fun _ _ => rfl)) (pv 1)) (pg_sub (pv 0) pe_int set_list))
      (pss_one (ps_ret (pv 2))))) pss_nil)
      (pss_cons (ps_asg (pe_op op_add (pe_ix (ix_listK (K := K)) (pv 0) pe_int (fun _ _ => rfl)) pe_int) (pg_sub (pv 0) pe_int set_list))
      (pss_cons (ps_set (i := 3) sc__law_take.nd rfl (Or.inl rfl) (pe_op op_mod (pe_op op_pow (pe_op op_add (pe_op op_add (pe_ix (ix_listK (K := K)) (pv 0) pe_int (fun _ _ => rfl)) (pe_op op_mul pe_int (pe_ix (ix_listK (K := K)) (pv 0) pe_int (fun _ _ => rfl)))) pe_int) pe_int) pe_int))
      (pss_cons (ps_set (i := 3) sc__law_take.nd rfl (Or.inl rfl) (pe_op op_mod (pe_op op_pow (pe_op op_add (pv 3) (pe_op op_mul pe_int (pe_ix (ix_listK (K := K)) (pv 0) pe_int (fun _ _ => rfl)))) pe_int) pe_int))
      (pss_one (ps_ret (pe_op op_mod (pe_op op_fdivW (pv 3) pe_int) (pv 1)))))))), ?_⟩
    refine ⟨_, rfl, b, _, _, _, rfl, rfl, hL hb, rfl, _, _, rfl, rfl, _, rfl, ?_⟩
    refine ite2 (fun c => ?_) (fun c => ?_)
    · have c' := of_decide_eq_true c
      refine ⟨_, rfl, b, _, _, _, rfl, rfl, hL hb, rfl, _, rfl, _, _, rfl, rfl, hm, ?_⟩
      refine ⟨_, rfl, b, _, _, _, rfl, rfl, hL hb, rfl, _, rfl, _, _, rfl, rfl, ?_, ?_⟩
      · exact wide_div (b := 201) hm (by have h1 : (2 : Int) ^ 200 = 1606938044258990275541962092341162602522202993782792835301376 := by decide +kernel
                                         have h3 : (2 : Nat) ^ 201 = 3213876088517980551083924184682325205044405987565585670602752 := by decide +kernel
                                         rw [h1] at hm'
                                         rw [h3]
                                         omega) (by decide) (by decide)
      · refine ⟨_, rfl, b, _, _, 0, rfl, rfl, hb, rfl, _, rfl, ?_⟩
        exact q _ _ (Int.emod_nonneg _ (by omega)) (Int.emod_lt_of_pos _ hm) ⟨_, _, _, rfl, Int.ediv_nonneg hx (by omega), hy, hy', hz, by omega⟩
    · refine ⟨_, rfl, b, _, _, _, rfl, rfl, hL hb, rfl, _, _, rfl, rfl, _, rfl, b, _, _, 2, rfl, rfl, hb, rfl, ?_⟩
      have hb1 : (L2.upd H b (.lst [.int x, .int y, .int (z + 1)])) b = some (.lst [.int x, .int y, .int (z + 1)]) := upd_same
      refine ⟨_, rfl, b, _, _, _, rfl, rfl, hL hb1, rfl, _, rfl, b, _, _, _, rfl, rfl, hL hb1, rfl, _, _, rfl, rfl, .inl ⟨by decide, by decide⟩, _, _, rfl, rfl, _, _, rfl, rfl, _, _, rfl, rfl, ⟨by decide, by decide, ?_⟩, _, _, rfl, rfl, (by show (0 : Int) < 2147483647; decide), ?_⟩
      · exact pow_small (n := 0) (by omega) (by have : (2 : Int) ^ 60 = 1152921504606846976 := by decide
                                                omega)
      · have r0 := Int.emod_nonneg ((y + 7919 * (z + 1) + 43) ^ 5) (show (2147483647 : Int) ≠ 0 by decide)
        have r1 := Int.emod_lt_of_pos ((y + 7919 * (z + 1) + 43) ^ 5) (show (0 : Int) < 2147483647 by decide)
        refine ⟨_, rfl, _, rfl, b, _, _, _, rfl, rfl, hL hb1, rfl, _, _, rfl, rfl, .inl ⟨by decide, by decide⟩, _, _, rfl, rfl, _, _, rfl, rfl, ⟨by decide, by decide, ?_⟩, _, _, rfl, rfl, (by show (0 : Int) < 2147483587; decide), ?_⟩
        · exact pow_small (n := 0) (Int.add_nonneg r0 (by omega)) (by have : (2 : Int) ^ 60 = 1152921504606846976 := by decide
                                                                      omega)
        · refine ⟨_, rfl, _, _, rfl, rfl, wide_div (b := 10) (by decide) (by decide) (by decide) (by decide), _, rfl, _, _, rfl, rfl, hm, ?_⟩
          exact q _ _ (Int.emod_nonneg _ (by omega)) (Int.emod_lt_of_pos _ hm) ⟨_, _, _, rfl, hx, hy, hy', by omega, by omega⟩
end

end TS

namespace TS
open PySem PySem.Spec PyProof.Rows L2 TL

/-- things of other kinds -/
def anyD : List PyData := [.none, .bool true, .bool false, .int (-1), .int 100000000000000000000000000000, .str "", .str "no", .str "a b", .list [], .list [.str "a"], .tuple [.str "a"], .tuple [], .dict [],
  .dict [(.str "a", .int 1)], .list [.list [.int 1]]]
def spAny (K : PySem.W.Frag) : Sp := fun vs H Q _ => ∃ (b : Addr) (o : HO) (n : Nat), vs = [.ref b] ∧ H b = some o ∧ Bag (n + 1) o ∧
  ∀ (v : V) (d : PyData) (H' : Hp) (o' : HO), d ∈ anyD → Fx b H H' → H' b = some o' → Bag n o' → Dt K (hide H' b) v d → Q v H'
section
variable {P : Program} {w : World} {K : PySem.W.Frag} {mg : Str → Option Value} {base : Heap}
abbrev s__law_any : Stmt := top 7
theorem sc__law_any : FnScope ["_law_bag_here", "_law_some"] ["_law_bag_here"] (defScope s__law_any) := ⟨rfl, rfl, rfl, by decide +kernel, rfl, by decide +kernel, by decide +kernel⟩

theorem ok_any (p__law_take : Prom P w K mg base 1 "_law_take" ["_law_bag_here", "_law_many"] spTake) (D : Def K mg "_law_any" s__law_any) : Prom P w K mg base 2 "_law_any" ["_law_bag_here"] (spAny K) := by
  refine prom_mk D sc__law_any (fun vs H Q E h => ?_) (fun _ _ _ _ _ _ us hl => match us, hl with | [_], _ => rfl) (fun f cdv A outer s H vs Q E hr h => ?_)
  · obtain ⟨b, o, n, rfl, _⟩ := h
    rfl
  · obtain ⟨b, o, n, rfl, hb, bg, q⟩ := h
    refine ⟨_, (pss_cons (ps_set (i := 1) sc__law_any.nd rfl (Or.inl rfl) (pe_lst (pa_cons pe_non (pa_cons pe_bl (pa_cons pe_bl (pa_cons (pe_op op_sub pe_int pe_int) (pa_cons (pe_op op_pow pe_int pe_int) (pa_cons pe_str (pa_cons pe_str (pa_cons pe_str (pa_cons (pe_lst pa_nil) (pa_cons (pe_lst (pa_cons pe_str pa_nil)) (pa_cons (pe_tup (pa_cons pe_str pa_nil)) (pa_cons (pe_tup pa_nil) (pa_cons pe_dnewK (pa_cons (pe_disp (pps_cons pe_str pe_int pps_nil) (by rfl) (by rfl) (fun z => by cases z) (by decide)) (pa_cons (pe_lst (pa_cons (pe_lst (pa_cons pe_int pa_nil)) pa_nil)) pa_nil)))))))))))))))))
      (pss_one (ps_ret (pe_ix (ix_listK (K := K)) (pv 1) (pe_pc p__law_take (hr.mono (by decide)) rfl (pa_cons (pv 0) (pa_cons pe_int pa_nil))) (fun _ _ => rfl))))), ?_⟩
    refine ⟨_, _, rfl, rfl, _, _, rfl, rfl, ⟨by decide, by decide, by decide⟩, (by show 0 ≤ sizeLine; decide), fun p1 h1 => ⟨(by show 1 ≤ sizeLine; decide), fun p2 h2 => ⟨(by show 1 ≤ sizeLine; decide), fun p3 h3 => ⟨(by show 0 ≤ sizeLine; decide), fun p4 h4 => fun p5 h5 => ?_⟩⟩⟩⟩
    intro p6 h6
    refine ⟨upd_same, [(Sum.inr "a", V.int 1)], rfl, by decide, (by show 1 ≤ sizeLine; decide), fun p7 h7 => ⟨(by show 1 ≤ sizeLine; decide), fun p8 h8 => ⟨(by show 15 ≤ sizeLine; decide), fun p9 h9 => ?_⟩⟩⟩
    generalize hG : L2.upd _ p9 _ = Hf
    have eu : ∀ {H : Hp} {a : Addr} {o1 o2 : HO}, L2.upd (L2.upd H a o1) a o2 = L2.upd H a o2 := upd_upd
    rw [eu] at h7 h8 h9 hG
    have h6' : ∀ o : HO, Same _ (L2.upd _ p6 o) := fun o => Same.new (Same.refl _) h6
    have s1 := Same.new (o := .lst []) (Same.refl _) h1
    have s2 := Same.new (o := .lst [.str "a"]) (Same.refl _) h2
    have s3 := Same.new (o := .tup [.str "a"]) (Same.refl _) h3
    have s4 := Same.new (o := .tup []) (Same.refl _) h4
    have s5 := Same.new (o := .dK []) (Same.refl _) h5
    have s6 := h6' (.dK (mergeK [] [(Sum.inr "a", V.int 1)]))
    have s7 := Same.new (o := .lst [.int 1]) (Same.refl _) h7
    have s8 := Same.new (o := .lst [.ref p7]) (Same.refl _) h8
    have s9 := fun o : HO => Same.new (o := o) (Same.refl _) h9
    have t7 := fun o => s8.trans (s9 o)
    have t6 := fun o => s7.trans (t7 o)
    have t5 := fun o => s6.trans (t6 o)
    have t4 := fun o => s5.trans (t5 o)
    have t3 := fun o => s4.trans (t4 o)
    have t2 := fun o => s3.trans (t3 o)
    have t1 := fun o => s2.trans (t2 o)
    have t0 : Same H Hf := by
      rw [← hG]
      exact s1.trans (t1 _)
    have f1 : Hf p1 = some (.lst []) := by
      rw [← hG]
      exact t1 _ p1 _ upd_same
    have f2 : Hf p2 = some (.lst [.str "a"]) := by
      rw [← hG]
      exact t2 _ p2 _ upd_same
    have f3 : Hf p3 = some (.tup [.str "a"]) := by
      rw [← hG]
      exact t3 _ p3 _ upd_same
    have f4 : Hf p4 = some (.tup []) := by
      rw [← hG]
      exact t4 _ p4 _ upd_same
    have f5 : Hf p5 = some (.dK []) := by
      rw [← hG]
      exact t5 _ p5 _ upd_same
    have f6 : Hf p6 = some (.dK [(Sum.inr "a", V.int 1)]) := by
      rw [← hG]
      exact t6 _ p6 _ upd_same
    have f7 : Hf p7 = some (.lst [.int 1]) := by
      rw [← hG]
      exact t7 _ p7 _ upd_same
    have f8 : Hf p8 = some (.lst [.ref p7]) := by
      rw [← hG]
      exact s9 _ p8 _ upd_same
    have f9 := congrFun hG p9
    rw [upd_same] at f9
    replace f9 := f9.symm
    have fb := t0 b _ hb
    have nb : ∀ {p : Addr}, H p = none → p ≠ b := fun h => (ne_of_none hb h).symm
    have n1 := nb h1
    have n2 := nb (s1.free h2)
    have n3 := nb (s1.free (s2.free h3))
    have n4 := nb (s1.free (s2.free (s3.free h4)))
    have n5 := nb (s1.free (s2.free (s3.free (s4.free h5))))
    have n6 := nb (s1.free (s2.free (s3.free (s4.free (s5.free h6)))))
    have n7 := nb (s1.free (s2.free (s3.free (s4.free (s5.free (s6.free h7))))))
    have n8 := nb (s1.free (s2.free (s3.free (s4.free (s5.free (s6.free (s7.free h8)))))))
    have n9 := nb (s1.free (s2.free (s3.free (s4.free (s5.free (s6.free (s7.free (s8.free h9))))))))
    refine ⟨_, rfl, _, rfl, b, o, n, 15, rfl, fb, bg, by decide, by decide +kernel, fun d o' d0 d1 bg' => ?_⟩
    have fin : ∀ v dd, dd ∈ anyD → Dt K (hide (L2.upd Hf b o') b) v dd → Q v (L2.upd Hf b o') := fun v dd hd hv => q v dd _ o' hd (Fx.of t0).upd upd_same bg' hv
    have g : ∀ {p : Addr} {u : HO}, p ≠ b → Hf p = some u → hide (L2.upd Hf b o') b p = some u := fun h e => by rw [hide_ne h, upd_ne h]; exact e
    have L9 : SqL K (L2.upd Hf b o') p9 _ := .inl (.inl ((upd_ne n9).trans f9))
    have gl : ∀ {p : Addr} {xs : List V}, p ≠ b → Hf p = some (.lst xs) → SqL K (hide (L2.upd Hf b o') b) p xs := fun h e => .inl (.inl (g h e))
    have gt : ∀ {p : Addr} {xs : List V}, p ≠ b → Hf p = some (.tup xs) → SqT K (hide (L2.upd Hf b o') b) p xs := fun h e => .inl (.inl (g h e))
    have e29 : (10 : Int) ^ (29 : Int).toNat = 100000000000000000000000000000 := by decide +kernel
    have c15 : d = 0 ∨ d = 1 ∨ d = 2 ∨ d = 3 ∨ d = 4 ∨ d = 5 ∨ d = 6 ∨ d = 7 ∨ d = 8 ∨ d = 9 ∨ d = 10 ∨ d = 11 ∨ d = 12 ∨ d = 13 ∨ d = 14 := by omega
    rcases c15 with rfl | rfl | rfl | rfl | rfl | rfl | rfl | rfl | rfl | rfl | rfl | rfl | rfl | rfl | rfl
    · exact ⟨p9, _, _, _, rfl, rfl, L9, rfl, fin _ _ (by simp [anyD]) .non⟩
    · exact ⟨p9, _, _, _, rfl, rfl, L9, rfl, fin _ _ (by simp [anyD]) (.bl true)⟩
    · exact ⟨p9, _, _, _, rfl, rfl, L9, rfl, fin _ _ (by simp [anyD]) (.bl false)⟩
    · exact ⟨p9, _, _, _, rfl, rfl, L9, rfl, fin _ _ (by simp [anyD]) (.int (-1))⟩
    · exact ⟨p9, _, _, _, rfl, rfl, L9, rfl, fin _ (.int 100000000000000000000000000000) (by simp [anyD]) (by show Dt K _ (V.int ((10 : Int) ^ (29 : Int).toNat)) _; rw [e29]; exact .int _)⟩
    · exact ⟨p9, _, _, _, rfl, rfl, L9, rfl, fin _ (.str "") (by simp [anyD]) (.str "")⟩
    · exact ⟨p9, _, _, _, rfl, rfl, L9, rfl, fin _ (.str "no") (by simp [anyD]) (.str "no")⟩
    · exact ⟨p9, _, _, _, rfl, rfl, L9, rfl, fin _ (.str "a b") (by simp [anyD]) (.str "a b")⟩
    · exact ⟨p9, _, _, _, rfl, rfl, L9, rfl, fin _ (.list []) (by simp [anyD]) (.lst (gl n1 f1) .nil)⟩
    · exact ⟨p9, _, _, _, rfl, rfl, L9, rfl, fin _ (.list [.str "a"]) (by simp [anyD]) (.lst (gl n2 f2) (.cons (.str "a") .nil))⟩
    · exact ⟨p9, _, _, _, rfl, rfl, L9, rfl, fin _ (.tuple [.str "a"]) (by simp [anyD]) (.tup (gt n3 f3) (.cons (.str "a") .nil))⟩
    · exact ⟨p9, _, _, _, rfl, rfl, L9, rfl, fin _ (.tuple []) (by simp [anyD]) (.tup (gt n4 f4) .nil)⟩
    · exact ⟨p9, _, _, _, rfl, rfl, L9, rfl, fin _ (.dict []) (by simp [anyD]) (.dct (ks := []) (xs := []) (g n5 f5) rfl .nil)⟩
    · exact ⟨p9, _, _, _, rfl, rfl, L9, rfl, fin _ (.dict [(.str "a", .int 1)]) (by simp [anyD]) (.dct (ks := [Sum.inr "a"]) (xs := [.int 1]) (g n6 f6) rfl (.cons (.int 1) .nil))⟩
    · exact ⟨p9, _, _, _, rfl, rfl, L9, rfl, fin _ (.list [.list [.int 1]]) (by simp [anyD]) (.lst (gl n8 f8) (.cons (.lst (gl n7 f7) (.cons (.int 1) .nil)) .nil))⟩
end

end TS

namespace TS
open PySem PySem.Spec PyProof.Rows L2 TL

/-! ### texts parted -/
/-- what is told of a thing's kind: no text -/
def NoStr (K : PySem.W.Frag) (H : Hp) (x : V) : Prop := ∃ t, TyX K H x t ∧ PySem.W.kitOne K t (.type "str") = some false
def wordsOf (z : Str) : Option (List Str) := if decide (10 ∈ tl z) || inV (.str "") ((Txt.split z " ").map V.str) then none else some (Txt.split z " ")
/-- words of a text: None, or a new list -/
def WordsBack (H : Hp) (Q : VK) : Option (List Str) → Prop
  | none => ∀ H', Same H H' → Q .non H'
  | some ws => ∀ p H', H p = none → Same H H' → H' p = some (.lst (ws.map V.str)) → Q (.ref p) H'
def spWordsIn (K : PySem.W.Frag) : Sp := fun vs H Q _ => ∃ x : V, vs = [x] ∧ ((∃ z, x = .str z ∧ z.length ≤ 100000 ∧ WordsBack H Q (wordsOf z)) ∨ (NoStr K H x ∧ WordsBack H Q none))
def spRowsIn (K : PySem.W.Frag) : Sp := fun vs H Q _ => ∃ x : V, vs = [x] ∧ ((∃ z, x = .str z ∧ z.length ≤ 100000 ∧ WordsBack H Q (some (Txt.split z "\n"))) ∨ (NoStr K H x ∧ WordsBack H Q none))
def spParted : Sp := fun vs H Q _ => ∃ (z : Str) (m : Nat), vs = [.str z, .str ⟨#[m]⟩] ∧ m < 256 ∧ z.length ≤ 100000 ∧ WordsBack H Q (some (Txt.split z ⟨#[m]⟩))
theorem take_map {α β : Type} (f : α → β) {l : List α} {i : Nat} {c : α} (h : l[i]? = some c) : (l.take (i + 1)).map f = (l.take i).map f ++ [f c] := by
  rw [List.take_add_one, h, List.map_append]
  rfl
theorem sz5 {n : Nat} (h : n ≤ 100000) : n ≤ sizeLine := Nat.le_trans h (by decide)
theorem sz5' {n : Nat} (h : n ≤ 100000) : n < sizeLine := Nat.lt_of_le_of_lt h (by decide)
theorem sz52 {n : Nat} (h : n ≤ 100000) : n + 2 ≤ sizeLine := Nat.le_trans (Nat.add_le_add_right h 2) (by decide)
/-- a comprehension over a text's signs, one value a sign -/
theorem lc_signs {z : Str} {g : TG} {te : TE} {vs : List Nat} {σ : L2.St} {H1 : Hp} {D : Addr} {Qd : Hp → Prop} (f : Nat → V) (hz : z.length ≤ 100000) (hs : ∀ c H' (C : VK), C (f c) H' → g (.str ⟨#[c]⟩) (wipe σ vs) H' fun σ2 H2 => wipe σ2 vs = wipe σ vs ∧ te σ2 H2 C)
    (hd : Qd (L2.upd H1 D (.lst ((tl z).map f)))) (hg : ∀ x σ H C C', (∀ s h, C s h → C' s h) → g x σ H C → g x σ H C') :
    ∃ W : Nat → Nat → Hp → Prop, (∃ m, W 0 m (L2.upd H1 D (.lst []))) ∧ ∀ i m H, W i m H →
      ((Its z).stop i H ∧ Qd H) ∨ ((Its z).go i H ∧ ∃ Nx : Hp → Prop, (∀ H', Nx H' → ∃ m', m' < m ∧ W (i + 1) m' H') ∧ ∀ x H', (Its z).yld i H x H' → g x (wipe σ vs) H' fun σ2 H2 => wipe σ2 vs = wipe σ vs ∧ tYes σ2 H2 fun b H3 =>
        if b = true then te σ2 H3 fun y H4 => ∃ acc, H4 D = some (.lst acc) ∧ acc.length < sizeLine ∧ Nx (L2.upd H4 D (.lst (acc ++ [y]))) else Nx H3) := by
  refine lc_it walk_str (fun i H' => H' = L2.upd H1 D (.lst (((tl z).take i).map f))) rfl (fun _ _ _ _ => trivial) ?_ ?_
  · rintro i x H2 H3 hi rfl ⟨rfl, c, hc, rfl⟩
    have hc' : (tl z)[i]? = some c := by rw [← hc]; simp [tl]
    refine hg _ _ _ _ _ (fun s h q => ⟨q.1, by
      unfold tYes
      dsimp only
      rw [if_pos rfl]
      exact q.2⟩) (hs c _ (fun y H4 => ∃ acc, H4 D = some (.lst acc) ∧ acc.length < sizeLine ∧ L2.upd H4 D (.lst (acc ++ [y])) = L2.upd H1 D (.lst (((tl z).take (i + 1)).map f))) ⟨_, upd_same, ?_, ?_⟩)
    · refine sz5' ?_
      rw [len_tl] at hz
      rw [List.length_map, List.length_take]
      omega
    · rw [upd_upd, take_map f hc']
  · rintro H2 rfl
    have e : (tl z).take z.cps.size = tl z := List.take_of_length_le (by simp [tl])
    rw [e]
    exact hd
theorem gName_mono {i : Nat} (x : V) (σ : L2.St) (H : Hp) (C C' : L2.St → Hp → Prop) (h : ∀ s h, C s h → C' s h) (q : gName i x σ H C) : gName i x σ H C' := h _ _ q
theorem all_nl (l : List Nat) : (l.map fun c => !decide (V.str ⟨#[c]⟩ = V.str "\n")).all id = !decide (10 ∈ l) := by
  induction l with
  | nil => rfl
  | cons c r ih =>
    rw [List.map_cons, List.all_cons, ih]
    have e : decide (V.str ⟨#[c]⟩ = V.str "\n") = decide (c = 10) := by
      have h : ("\n" : Str) = ⟨#[10]⟩ := by decide +kernel
      rw [h]
      simp
    rw [e]
    by_cases h : c = 10
    · subst h; simp
    · have h' : ¬ 10 = c := fun z => h z.symm
      simp [h, h']
section
variable {P : Program} {w : World} {K : PySem.W.Frag} {mg : Str → Option Value} {base : Heap}
abbrev s_words_in : Stmt := top 1
theorem sc_words_in : FnScope ["thing", "words", "sign"] ["thing"] (defScope s_words_in) := ⟨rfl, rfl, rfl, by decide +kernel, rfl, by decide +kernel, by decide +kernel⟩

theorem ok_words_in (bt : Bt mg) (D : Def K mg "words_in" s_words_in) : Prom P w K mg base 1 "words_in" ["thing"] (spWordsIn K) := by
  refine prom_mk D sc_words_in (fun vs H Q E h => ?_) (fun _ _ _ _ _ _ us hl => match us, hl with | [_], _ => rfl) (fun f cdv A outer s H vs Q E hr h => ?_)
  · obtain ⟨x, rfl, _⟩ := h
    rfl
  · obtain ⟨x, rfl, h⟩ := h
    refine ⟨_, (pss_cons (ps_if (pt_not (pt_val (pe_callB (id := "isinstance") (isiK (K := K)) (by rfl) bt.isinstance_ (by decide +kernel) (pa_cons (pv 0) (pa_cons (pe_bltn (v := .ty "str") rfl bt.str_ (by decide +kernel) rfl) pa_nil))))) (pss_one (ps_ret pe_non)) pss_nil)
      (pss_cons (ps_set (i := 1) sc_words_in.nd rfl (Or.inl rfl) (pe_split (pv 0) pe_str))
      (pss_cons (ps_if (PW.pt (pw_or (pt_cmpR (op_inK (K := K)) pe_str (pv 1) rfl) (pw_or1 (pt_not (pt_val (pe_callB (id := "all") (allK (K := K) rfl) (by rfl) bt.all_ (by decide +kernel) (pa_cons (pe_lc (own := [("sign", 2)]) (g := gName 2) rfl sc_words_in.nd (pi_str (pv 0)) (blkOk_by (N := ["thing", "words", "sign"]) (sc := defScope s_words_in) (by decide +kernel)) (fun _ _ _ _ _ => (pg_name (i := 2) sc_words_in.nd rfl (Or.inl rfl))) (fun _ _ _ _ _ => pts_nil) (fun _ _ _ _ _ => (pe_cmpR op_ne (pv 2) pe_str (nomark _)))) pa_nil))))))) (pss_one (ps_ret pe_non)) pss_nil)
      (pss_one (ps_ret (pv 1)))))), ?_⟩
    rcases h with ⟨z, rfl, hz, q⟩ | ⟨⟨t, ht, hk⟩, q⟩
    · refine ⟨_, rfl, _, _, _, _, true, rfl, .ty "str", .base (.str z), kit_ty (by decide +kernel), _, rfl, iteF ?_⟩
      refine ⟨_, rfl, ⟨_, rfl⟩, _, _, rfl, rfl, by decide +kernel, sz52 hz, fun p hp => ?_⟩
      have sp := Same.new (o := .lst ((Txt.split z " ").map V.str)) (Same.refl H) hp
      refine ⟨_, rfl, p, _, rfl, .inl (.inl (.inl upd_same)), rfl, ?_, _, rfl, ?_⟩
      · rw [List.all_eq_true]
        intro v hv
        obtain ⟨y, _, rfl⟩ := List.mem_map.mp hv
        rfl
      · unfold wordsOf at q
        refine ite2 (fun c => ?_) (fun c => ?_)
        · have c0 : inV (.str "") ((Txt.split z " ").map V.str) = true := c
          rw [c0, Bool.or_true, if_pos rfl] at q
          exact iteT (q _ sp)
        · refine ⟨_, rfl, z, rfl, fun L hL => ?_⟩
          refine lc_signs (fun c => V.bl (!decide (V.str ⟨#[c]⟩ = V.str "\n"))) hz (fun c H' C q => ⟨rfl, _, rfl, rfl, q⟩) ?_ gName_mono
          refine ⟨L, (tl z).map fun c => !decide (V.str ⟨#[c]⟩ = V.str "\n"), rfl, .inl (.inl (by rw [upd_same, List.map_map]; rfl)), _, rfl, ?_⟩
          rw [all_nl]
          have sL := Same.new (o := .lst ((tl z).map fun c => V.bl (!decide (V.str ⟨#[c]⟩ = V.str "\n")))) (Same.refl _) hL
          have c' : inV (.str "") ((Txt.split z " ").map V.str) = false := by
            cases e : inV (.str "") ((Txt.split z " ").map V.str) with
            | false => rfl
            | true => exact absurd e c
          rw [c', Bool.or_false] at q
          by_cases hn : 10 ∈ tl z
          · rw [decide_eq_true hn] at q ⊢
            exact iteT (q _ (sp.trans sL))
          · rw [decide_eq_false hn] at q ⊢
            refine iteF ⟨_, rfl, ?_⟩
            exact q p _ hp (sp.trans sL) (sL _ _ upd_same)
    · refine ⟨_, rfl, _, _, _, _, false, rfl, .ty "str", ht, hk, _, rfl, iteT ?_⟩
      exact q _ (Same.refl _)
abbrev s_rows_in : Stmt := top 2
theorem sc_rows_in : FnScope ["thing"] ["thing"] (defScope s_rows_in) := ⟨rfl, rfl, rfl, by decide +kernel, rfl, by decide +kernel, by decide +kernel⟩

theorem ok_rows_in (bt : Bt mg) (D : Def K mg "rows_in" s_rows_in) : Prom P w K mg base 1 "rows_in" ["thing"] (spRowsIn K) := by
  refine prom_mk D sc_rows_in (fun vs H Q E h => ?_) (fun _ _ _ _ _ _ us hl => match us, hl with | [_], _ => rfl) (fun f cdv A outer s H vs Q E hr h => ?_)
  · obtain ⟨x, rfl, _⟩ := h
    rfl
  · obtain ⟨x, rfl, h⟩ := h
    refine ⟨_, (pss_cons (ps_if (pt_not (pt_val (pe_callB (id := "isinstance") (isiK (K := K)) (by rfl) bt.isinstance_ (by decide +kernel) (pa_cons (pv 0) (pa_cons (pe_bltn (v := .ty "str") rfl bt.str_ (by decide +kernel) rfl) pa_nil))))) (pss_one (ps_ret pe_non)) pss_nil)
      (pss_one (ps_ret (pe_split (pv 0) pe_str)))), ?_⟩
    rcases h with ⟨z, rfl, hz, q⟩ | ⟨⟨t, ht, hk⟩, q⟩
    · refine ⟨_, rfl, _, _, _, _, true, rfl, .ty "str", .base (.str z), kit_ty (by decide +kernel), _, rfl, iteF ?_⟩
      refine ⟨_, rfl, ⟨_, rfl⟩, _, _, rfl, rfl, by decide +kernel, sz52 hz, fun p hp => ?_⟩
      exact q p _ hp (Same.new (Same.refl H) hp) upd_same
    · refine ⟨_, rfl, _, _, _, _, false, rfl, .ty "str", ht, hk, _, rfl, iteT ?_⟩
      exact q _ (Same.refl _)
end

end TS

namespace TS
open PySem PySem.Spec PyProof.Rows L2 TL

/-! ### the law's own parting -/
theorem pre_one (m c : Nat) (r : List Nat) : pre [m] (c :: r) = decide (c = m) := by
  unfold pre
  show ((c :: r).take 1 == [m]) = _
  rw [List.take_succ_cons, List.take_zero]
  by_cases h : c = m
  · subst h; simp
  · simp [h]
theorem set_last (l : List V) (x y : V) : (l ++ [x]).set l.length y = l ++ [y] := by
  rw [List.set_append_right _ _ (Nat.le_refl _), Nat.sub_self]
  rfl
theorem ixN_last (l : List V) (x : V) : ixN (l ++ [x]).length (-1) = some l.length := by
  have hl : (l ++ [x]).length = l.length + 1 := by simp
  unfold ixN
  rw [hl, if_neg (by decide), if_pos (by omega)]
  congr 1
  omega
theorem tl_one (c : Nat) : tl (⟨#[c]⟩ : Str) = [c] := rfl
theorem tl_empty : tl ("" : Str) = [] := by decide +kernel
theorem split_of {z : Str} {m : Nat} (hm : m < 256) {ws : List Str} (h : ws.map tl = spl [m] 0 [] (tl z)) : ws = Txt.split z ⟨#[m]⟩ := by
  refine map_tl_inj (h.trans ?_)
  rw [split_spl z ⟨#[m]⟩ (by rw [tl_one]; simp) (kind_ok (by simp [hm])), tl_one]
section
variable {P : Program} {w : World} {K : PySem.W.Frag} {mg : Str → Option Value} {base : Heap}
abbrev s__law_parted : Stmt := top 10
theorem sc__law_parted : FnScope ["_law_text_here", "_law_mark", "_law_found", "_law_sign"] ["_law_text_here", "_law_mark"] (defScope s__law_parted) := ⟨rfl, rfl, rfl, by decide +kernel, rfl, by decide +kernel, by decide +kernel⟩

theorem ok_parted (D : Def K mg "_law_parted" s__law_parted) : Prom P w K mg base 1 "_law_parted" ["_law_text_here", "_law_mark"] spParted := by
  refine prom_mk D sc__law_parted (fun vs H Q E h => ?_) (fun _ _ _ _ _ _ us hl => match us, hl with | [_, _], _ => rfl) (fun f cdv A outer s H vs Q E hr h => ?_)
  · obtain ⟨z, m, rfl, _⟩ := h
    rfl
  · obtain ⟨z, m, rfl, hm, hz, q⟩ := h
    refine ⟨_, (pss_cons (ps_set (i := 2) sc__law_parted.nd rfl (Or.inl rfl) (pe_lst (pa_cons pe_str pa_nil)))
      (pss_cons (ps_for PassesOwn.never rfl (pi_str (pv 0)) (pg_name (i := 3) sc__law_parted.nd rfl (Or.inl rfl)) (pss_one (ps_if (pt_cmpR op_eq (pv 3) (pv 1) (nomark _)) (pss_one (ps_expr (pe_appendK (K := K) rfl (pv 2) pe_str))) (pss_one (ps_asg (pe_op op_add_str (pe_ix (ix_listK (K := K)) (pv 2) (pe_un un_neg pe_int) (fun _ _ => rfl)) (pv 3)) (pg_sub (pv 2) (pe_un un_neg pe_int) set_list))))))
      (pss_one (ps_ret (pv 2))))), ?_⟩
    refine ⟨(by show 1 ≤ sizeLine; decide), fun p hp => ?_⟩
    have hlen : z.cps.size = (tl z).length := by simp [tl]
    have hz' : (tl z).length ≤ 100000 := by rw [← len_tl]; exact hz
    refine ⟨_, rfl, z, rfl, for_it walk_str (fun i σ H' => ∃ (done : List Str) (cur : Str) (sg : Option V), σ = [some (.str z), some (.str ⟨#[m]⟩), some (.ref p), sg] ∧ H' = L2.upd H p (.lst (done.map V.str ++ [V.str cur])) ∧
        done.map tl ++ spl [m] 0 (tl cur) ((tl z).drop i) = spl [m] 0 [] (tl z) ∧ done.length ≤ i ∧ cur.length ≤ i) ⟨[], "", none, rfl, rfl, by rw [tl_empty]; rfl, Nat.le_refl _, by decide⟩ (fun _ _ _ _ _ => trivial) ?_ ?_⟩
    · rintro i x σ H1 H2 hi ⟨done, cur, sg, rfl, rfl, he, hd, hcl⟩ ⟨rfl, c, hc, rfl⟩
      have hi' : i < (tl z).length := by omega
      have hc' : (tl z)[i]? = some c := by rw [← hc]; simp [tl]
      have hdr : (tl z).drop i = c :: (tl z).drop (i + 1) := by
        rw [List.drop_eq_getElem_cons hi']
        rw [List.getElem?_eq_getElem hi'] at hc'
        rw [Option.some.inj hc']
      rw [hdr] at he
      refine ⟨_, rfl, _, rfl, rfl, _, rfl, ?_⟩
      refine ite2 (fun e => ?_) (fun e => ?_)
      · have e' : c = m := by simpa using e
        subst e'
        rw [spl_hit (by rw [pre_one]; simp)] at he
        refine ⟨_, rfl, .inl ⟨rfl, _, .inl (.inl upd_same)⟩, p, _, _, rfl, rfl, upd_same, ?_, ?_⟩
        · refine sz5' ?_
          simp only [List.length_append, List.length_map, List.length_singleton]
          omega
        · refine ⟨done ++ [cur], "", _, rfl, ?_, ?_, ?_, ?_⟩
          · rw [upd_upd, List.map_append]
            rfl
          · rw [tl_empty, List.map_append, List.append_assoc]
            exact he
          · simp only [List.length_append, List.length_singleton]
            omega
          · show 0 ≤ i + 1
            omega
      · have e' : ¬ c = m := fun z => e (by simp [z])
        rw [spl_miss (by rw [pre_one]; simp [e'])] at he
        refine ⟨_, rfl, _, rfl, p, _, _, _, rfl, rfl, .inl (.inl upd_same), atI_last _ _, _, rfl, _, _, rfl, rfl, ?_, ?_⟩
        · refine sz5 ?_
          show cur.length + 1 ≤ 100000
          omega
        · refine ⟨_, rfl, _, rfl, p, _, _, _, rfl, rfl, upd_same, ixN_last _ _, ?_⟩
          refine ⟨done, cur ++ ⟨#[c]⟩, _, rfl, ?_, ?_, by omega, ?_⟩
          · rw [upd_upd]
            have e3 := set_last (done.map V.str) (V.str cur) (V.str (cur ++ ⟨#[c]⟩))
            rw [e3]
          · rw [tl_append, tl_one]
            exact he
          · rw [len_tl, tl_append, List.length_append, ← len_tl, tl_one]
            show cur.length + 1 ≤ _
            omega
    · rintro σ H1 ⟨done, cur, sg, rfl, rfl, he, hd, hcl⟩
      refine ⟨_, rfl, ?_⟩
      rw [hlen, List.drop_length, spl_nil] at he
      have e2 : (done ++ [cur]) = Txt.split z ⟨#[m]⟩ := split_of hm (by rw [List.map_append]; exact he)
      refine q p _ hp (Same.new (Same.refl _) hp) ?_
      rw [upd_same, ← e2, List.map_append]
      rfl
def spWordsDue (K : PySem.W.Frag) : Sp := spWordsIn K
abbrev s__law_words_due : Stmt := top 11
theorem sc__law_words_due : FnScope ["_law_text_here", "_law_found"] ["_law_text_here"] (defScope s__law_words_due) := ⟨rfl, rfl, rfl, by decide +kernel, rfl, by decide +kernel, by decide +kernel⟩

theorem ok_words_due (bt : Bt mg) (p__law_parted : Prom P w K mg base 1 "_law_parted" ["_law_text_here", "_law_mark"] spParted) (D : Def K mg "_law_words_due" s__law_words_due) :
    Prom P w K mg base 2 "_law_words_due" ["_law_text_here"] (spWordsIn K) := by
  refine prom_mk D sc__law_words_due (fun vs H Q E h => ?_) (fun _ _ _ _ _ _ us hl => match us, hl with | [_], _ => rfl) (fun f cdv A outer s H vs Q E hr h => ?_)
  · obtain ⟨x, rfl, _⟩ := h
    rfl
  · obtain ⟨x, rfl, h⟩ := h
    refine ⟨_, (pss_cons (ps_if (PW.pt (pw_or (pt_not (pt_val (pe_callB (id := "isinstance") (isiK (K := K)) (by rfl) bt.isinstance_ (by decide +kernel) (pa_cons (pv 0) (pa_cons (pe_bltn (v := .ty "str") rfl bt.str_ (by decide +kernel) rfl) pa_nil))))) (pw_or1 (pt_cmpR op_in_sign pe_str (pv 0) rfl)))) (pss_one (ps_ret pe_non)) pss_nil)
      (pss_cons (ps_set (i := 1) sc__law_words_due.nd rfl (Or.inl rfl) (pe_pc p__law_parted (hr.mono (by decide)) rfl (pa_cons (pv 0) (pa_cons pe_str pa_nil))))
      (pss_one (ps_ret (pe_ifExp (pt_cmpR (op_inK (K := K)) pe_str (pv 1) rfl) pe_non (pv 1)))))), ?_⟩
    rcases h with ⟨z, rfl, hz, q⟩ | ⟨⟨t, ht, hk⟩, q⟩
    · refine ⟨_, rfl, _, _, _, _, true, rfl, .ty "str", .base (.str z), kit_ty (by decide +kernel), _, rfl, iteF ?_⟩
      refine ⟨_, rfl, 10, z, (by decide +kernel), rfl, _, rfl, ?_⟩
      unfold wordsOf at q
      refine ite2 (fun c => ?_) (fun c => ?_)
      · have c0 : decide (10 ∈ tl z) = true := c
        rw [c0, Bool.true_or, if_pos rfl] at q
        exact q _ (Same.refl _)
      · have c0 : decide (10 ∈ tl z) = false := by
          cases e : decide (10 ∈ tl z) with
          | false => rfl
          | true => exact absurd e c
        rw [c0, Bool.false_or] at q
        refine ⟨_, rfl, z, 32, (by rw [show (" " : Str) = ⟨#[32]⟩ by decide +kernel]; rfl), by decide, hz, fun p H1 hp s1 h1 => ?_⟩
        have e32 : (⟨#[32]⟩ : Str) = " " := by decide +kernel
        rw [e32] at h1
        refine ⟨_, rfl, p, _, rfl, .inl (.inl (.inl h1)), rfl, ?_, _, rfl, ?_⟩
        · rw [List.all_eq_true]
          intro v hv
          obtain ⟨y, _, rfl⟩ := List.mem_map.mp hv
          rfl
        · refine ite2 (fun c => ?_) (fun c => ?_)
          · have c0 : inV (.str "") ((Txt.split z " ").map V.str) = true := c
            rw [c0, if_pos rfl] at q
            exact q _ s1
          · have c0 : inV (.str "") ((Txt.split z " ").map V.str) = false := by
              cases e : inV (.str "") ((Txt.split z " ").map V.str) with
              | false => rfl
              | true => exact absurd e c
            rw [c0, if_neg Bool.false_ne_true] at q
            exact ⟨_, rfl, q p _ hp s1 h1⟩
    · refine ⟨_, rfl, _, _, _, _, false, rfl, .ty "str", ht, hk, _, rfl, iteT ?_⟩
      exact q _ (Same.refl _)
end

end TS

namespace TS
open PySem PySem.Spec PyProof.Rows L2 TL

/-! ### plain texts -/
def Plain (z : Str) : Prop := ∀ c ∈ tl z, c < 256
theorem Plain.app {x y : Str} (hx : Plain x) (hy : Plain y) : Plain (x ++ y) := fun c hc => by
  rw [tl_append] at hc
  exact (List.mem_append.mp hc).elim (hx c) (hy c)
theorem Plain.cut {z : Str} (h : Plain z) (lo hi : Option Int) : Plain (cutS z lo hi) := fun c hc => h c (List.mem_of_mem_drop (List.mem_of_mem_take (show c ∈ ((tl z).drop _).take _ from hc)))
theorem joinL_mem {S : List Nat} {c : Nat} : ∀ {ps : List (List Nat)}, c ∈ joinL S ps → c ∈ S ∨ ∃ p ∈ ps, c ∈ p
  | [], h => nomatch h
  | [p], h => .inr ⟨p, by simp, h⟩
  | p :: q :: r, h => by
    rcases List.mem_append.mp (show c ∈ p ++ (S ++ joinL S (q :: r)) from h) with h | h
    · exact .inr ⟨p, by simp, h⟩
    · rcases List.mem_append.mp h with h | h
      · exact .inl h
      · exact (joinL_mem h).imp id fun ⟨p, hp, hc⟩ => ⟨p, List.mem_cons_of_mem _ hp, hc⟩
theorem Plain.join {y : Str} {ws : List Str} (hy : Plain y) (h : ∀ z ∈ ws, Plain z) : Plain (Txt.join y ws) := fun c hc => by
  rw [join_eq, tl_join] at hc
  rcases joinL_mem hc with hc | ⟨p, hp, hc⟩
  · exact hy c hc
  · obtain ⟨z, hz, rfl⟩ := List.mem_map.mp hp
    exact h z hz c hc
theorem replS_mem {y z : List Nat} {c : Nat} : ∀ (n : Nat) (l : List Nat), c ∈ PySem.StrLaws.replS y z n l → c ∈ z ∨ c ∈ l
  | n, [], h => by
    unfold PySem.StrLaws.replS at h
    cases h
  | 0, d :: r, h => by
    unfold PySem.StrLaws.replS at h
    split at h
    · rcases List.mem_append.mp h with h | h
      · exact .inl h
      · exact (replS_mem _ r h).imp id fun q => List.mem_cons_of_mem _ q
    · rcases List.mem_cons.mp h with h | h
      · exact .inr (by rw [h]; exact List.mem_cons_self)
      · exact (replS_mem _ r h).imp id fun q => List.mem_cons_of_mem _ q
  | n + 1, d :: r, h => by
    unfold PySem.StrLaws.replS at h
    exact (replS_mem n r h).imp id fun q => List.mem_cons_of_mem _ q
theorem Plain.repl {x y z : Str} (hy : 1 ≤ y.length) (hx : Plain x) (hz : Plain z) : Plain (Txt.replace x y z) := fun c hc => by
  have e : tl (Txt.replace x y z) = PySem.StrLaws.replL (tl y) (tl z) (tl x) := PySem.StrLaws.replace_list hy
  rw [e] at hc
  exact (replS_mem 0 _ hc).elim (hz c) (hx c)
theorem plainB {z : Str} (h : (tl z).all (fun c => decide (c < 256)) = true) : Plain z := fun c hc => of_decide_eq_true (List.all_eq_true.mp h c hc)
/-! ### e.replace(c, [c1, c2][i]): the tokens are carried -/
structure PEk (X : Cx) (e : Expr) (t : TE) : Prop where
  run : ∀ (pins : List (Addr × Obj)) (s : Shared) (σ : L2.St) (H : Hp) (Q : VK), Inv X pins σ H s → t σ H Q → wpAny (model X.prog X.w) X.A (eval e X.env) (fun v s' => 1 ≤ s'.toks ∧ EP X pins σ Q v s') X.xe s
section
variable {X : Cx} {a b o ix : Expr} {ta tb to ti : TE} {pos : Pos}
theorem pek_str {x : Str} {j : Nat} : PEk X (.Constant (.str x) j pos) (tC (.str x)) := ⟨fun _ s _ H _ I h => Calls.Constant_str ⟨Nat.le_add_left 1 s.toks, .str x, H, I.tok _, ⟨_, rfl⟩, h⟩⟩
theorem toksQ {α : Type} {t : Sem α} {Q : α → Shared → Prop} {M : Model} {A : Around} {E : Value → Shared → Prop} {s : Shared} (n : Nat) (hn : n ≤ s.toks) (h : wpAny M A t Q E s) : wpAny M A t (fun a s' => n ≤ s'.toks ∧ Q a s') E s :=
  wpAny_mono (PySem.wpAny_toks_of hn h) (fun _ _ z => z) fun _ _ z => z.2
theorem pek_opR {op : Operator} {r : R2} (ho : OpR X (binaryOp op) r) (ha : PE X a ta) (hb : PEk X b tb) : PEk X (.BinOp a op b pos) (tOp r ta tb) := by
  refine ⟨fun pins s σ H Q I h => wpAny_BinOp (thn (ha.run pins s σ H _ I h) fun v s1 ⟨x, H1, I1, r1, q1⟩ => thn (hb.run pins s1 σ H1 _ I1 q1) fun u s2 ⟨hk, y, H2, I2, r2, q2⟩ => ?_)⟩
  exact toksQ 1 hk (ho pins s2 σ H2 x y v u Q I2 r1 r2 q2)
theorem pek_opL {op : Operator} {r : R2} (ho : OpR X (binaryOp op) r) (ha : PEk X a ta) (hb : PE X b tb) : PEk X (.BinOp a op b pos) (tOp r ta tb) := by
  refine ⟨fun pins s σ H Q I h => wpAny_BinOp (thn (ha.run pins s σ H _ I h) fun v s1 ⟨hk, x, H1, I1, r1, q1⟩ => thn (toksQ 1 hk (hb.run pins s1 σ H1 _ I1 q1)) fun u s2 ⟨hk2, y, H2, I2, r2, q2⟩ => ?_)⟩
  exact toksQ 1 hk2 (ho pins s2 σ H2 x y v u Q I2 r1 r2 q2)
def tReplD (to ti : TE) (y z1 z2 : Str) : TE := fun σ H Q => to σ H fun v H1 => ∃ x, v = .str x ∧ x.length ≤ 100000 ∧ z1.length ≤ 10 ∧ z2.length ≤ 10 ∧ ti σ H1 fun iv H2 =>
  (iv = .int 0 ∧ Q (.str (Txt.replace x y z1)) H2) ∨ (iv = .int 1 ∧ Q (.str (Txt.replace x y z2)) H2)
theorem pe_replD {y z1 z2 : Str} {j0 j1 j2 : Nat} {c0 c1 c2 lp sp apos : Pos} (Y : Sys X.K) (ho : PEk X o to) (hi : PE X ix ti) (hsb : PlainIx ix)
    (hst : starEach [.Constant (.str y) j0 c0, .Subscript (.List [.Constant (.str z1) j1 c1, .Constant (.str z2) j2 c2] lp) ix sp] X.env =
      [(false, eval (.Constant (.str y) j0 c0) X.env), (false, eval (.Subscript (.List [.Constant (.str z1) j1 c1, .Constant (.str z2) j2 c2] lp) ix sp) X.env)] := by rfl)
    (hl : starEach [.Constant (.str z1) j1 c1, .Constant (.str z2) j2 c2] X.env = [(false, eval (.Constant (.str z1) j1 c1) X.env), (false, eval (.Constant (.str z2) j2 c2) X.env)] := by rfl)
    (hbase : attributeBase o "replace" X.env (eval o X.env) = eval o X.env := by rfl) (hline : (apos.endLine == pos.line) = true := by rfl) :
    PE X (.Call (.Attribute o "replace" apos) [.Constant (.str y) j0 c0, .Subscript (.List [.Constant (.str z1) j1 c1, .Constant (.str z2) j2 c2] lp) ix sp] [] pos) (tReplD to ti y z1 z2) := by
  refine ⟨fun pins s σ H Q I h => PySem.Call_method2 hbase hst hline (thn (ho.run pins s σ H _ I h) fun v s1 ⟨hk, v', H1, I1, r1, x, e1, hx, hz1, hz2, q⟩ => ?_)⟩
  subst e1
  obtain ⟨tx, rfl⟩ := r1
  refine ⟨"str", _, F.plainAttrs_str, F.slot_str_replace, F.type_str_replace, typeIs_str _ _ _, (fun _ e => nomatch e), Calls.callWith_builtin rfl (Calls.evalArgs_plain (Calls.spliced_cons (Calls.Constant_str (Calls.spliced_cons (Subscript_ (wpAny_List_spliced ?_))))))⟩
  rw [hl]
  show wpAny _ _ (spliced [(false, eval (.Constant (.str z1) j1 c1) X.env), (false, eval (.Constant (.str z2) j2 c2) X.env)]) _ _ _
  refine Calls.spliced_cons (Calls.Constant_str (Calls.spliced_cons (Calls.Constant_str (Calls.spliced_nil ⟨by show 2 ≤ sizeLine; decide, ?_⟩))))
  generalize hob : ({ cls := .type "list", data := .seq [Value.str z1 (s1.toks + 1), Value.str z2 (s1.toks + 1 + 1)].toArray } : Obj) = ob
  have I2 : Inv X pins σ H1 { s1 with heap := s1.heap.push ob, toks := s1.toks + 1 + 1 + 1 } := I1.kept fun b u e => Heap.get?_push_of_some _ e
  have g0 : (s1.heap.push ob).get? s1.heap.objs.size = some ob := Heap.get?_push_size _ (by rw [← hob]; rfl)
  have I3 : Inv X (pins ++ [(s1.heap.objs.size, ob)]) σ H1 { s1 with heap := s1.heap.push ob, toks := s1.toks + 1 + 1 + 1 } := I2.pins_of fun p hp => by
    rcases List.mem_append.mp hp with hp | hp
    · exact I2.pin p (List.mem_append_right _ hp)
    · obtain rfl := List.mem_singleton.mp hp
      exact ⟨g0, I1.hok.fresh (Nat.le_refl _), Nat.ne_of_gt I1.lt, I1.nofs (Nat.le_refl _), fun v => by rw [← hob]; exact fun z => nomatch z⟩
  refine thn (toksQ (s1.toks + 1 + 1 + 1) (Nat.le_refl _) (hi.run _ _ σ H1 _ I3 q)) fun iv s2 ⟨hk2, iv', H2, I4, r2, q2⟩ => ?_
  have g2 : s2.heap.get? s1.heap.objs.size = some ob := (I4.pin (s1.heap.objs.size, ob) (List.mem_append_right _ (List.mem_append_right _ (List.mem_singleton.mpr rfl)))).1
  have L2 : s2.heap.IsList s1.heap.objs.size #[Value.str z1 (s1.toks + 1), Value.str z2 (s1.toks + 1 + 1)] := ⟨ob, g2, by rw [← hob], 0, by rw [← hob]⟩
  have I5 : Inv X pins σ H2 s2 := I4.unpinned
  have sz : ∀ z : Str, z.length ≤ 10 → x.length + (x.length + 1) * z.length ≤ 16777216 := fun z hz => by
    have := Nat.mul_le_mul_left (x.length + 1) hz
    omega
  have go : ∀ (z : Str) (u : Tok), z.length ≤ 10 → u ≠ 0 → s1.toks ≠ u → Q (.str (Txt.replace x y z)) H2 →
      wpAny (model X.prog X.w) X.A (call (.builtin "str.replace") [.str x tx, .str y s1.toks, .str z u]) (EP X pins σ Q) X.xe s2 := fun z u hz hu hne qz =>
    PySem.SC.replaceA (by show s1.toks ≠ 0; omega) hu hne (sz z hz) (fun t' k => ⟨.str (Txt.replace x y z), H2, I5.tok k, ⟨t', rfl⟩, qz⟩) (unbooked Y I5)
  rcases q2 with ⟨rfl, q2⟩ | ⟨rfl, q2⟩
  · obtain ⟨ti', rfl⟩ := r2
    exact item_listR L2 (by decide) (by decide) rfl (Calls.spliced_nil (go z1 _ hz1 (by show s1.toks + 1 ≠ 0; omega) (by show s1.toks ≠ s1.toks + 1; omega) q2)) (hsb _ _)
  · obtain ⟨ti', rfl⟩ := r2
    exact item_listR L2 (by decide) (by decide) rfl (Calls.spliced_nil (go z2 _ hz2 (by show s1.toks + 1 + 1 ≠ 0; omega) (by show s1.toks ≠ s1.toks + 1 + 1; omega) q2)) (hsb _ _)
theorem rep_size (z : Array Nat) : ∀ (n : Nat) (acc : Array Nat), ((List.replicate n z).foldl (· ++ ·) acc).size = acc.size + z.size * n
  | 0, acc => by simp
  | n + 1, acc => by
    rw [List.replicate_succ, List.foldl_cons, rep_size z n, Array.size_append, Nat.mul_succ]
    omega
/-- a text many times -/
def rRepS : R2 := fun x y H Q => ∃ (z : Str) (n : Nat), x = .str z ∧ y = .int n ∧ 2 ≤ n ∧ z.length ≠ 0 ∧ z.length * n ≤ 100000 ∧ Q (.str ⟨(List.replicate n z.cps).foldl (· ++ ·) #[]⟩) H
theorem op_repS : OpR X (binaryOp .Mult) rRepS := by
  intro pins s σ H x y v u Q I rx ry h
  obtain ⟨z, n, rfl, rfl, hn, hz, hl, q⟩ := h
  obtain ⟨t, rfl⟩ := rx
  obtain ⟨t', rfl⟩ := ry
  have hn1 : n ≤ z.length * n := Nat.le_mul_of_pos_left _ (by omega)
  have e1 : ((n : Int) == 1 || z.length == 0) = false := by
    have h1 : ((n : Int) == 1) = false := beq_eq_false_iff_ne.mpr (by omega)
    have h2 : (z.length == 0) = false := beq_eq_false_iff_ne.mpr hz
    rw [h1, h2]; rfl
  have hnn : ¬ (n : Int) < 1 := by omega
  refine PySem.P.mul_str ?_ (fun _ _ => ?_) (fun _ _ => ?_) ?_
  · rw [decide_eq_false (by omega), decide_eq_false (by omega)]; rfl
  · have h3 : (1 : Int) ≤ n := by omega
    have h4 : (z.length : Int) ≤ 100000 := by
      have := Nat.le_mul_of_pos_right z.length (show 0 < n by omega)
      omega
    have h5 : (n : Int) ≤ 100000 := by omega
    have h6 : (2 ^ 63 - 1 : Int) / 100000 ≤ (2 ^ 63 - 1) / n := by
      rw [Int.le_ediv_iff_mul_le (by omega)]
      have h7 : (2 ^ 63 - 1 : Int) / 100000 * n ≤ (2 ^ 63 - 1 : Int) / 100000 * 100000 := Int.mul_le_mul_of_nonneg_left h5 (by decide)
      have h8 : (2 ^ 63 - 1 : Int) / 100000 * 100000 ≤ 2 ^ 63 - 1 := by decide
      omega
    have h9 : (100000 : Int) ≤ (2 ^ 63 - 1 : Int) / 100000 := by decide
    omega
  · unfold PySem.Builtin.Str.tooLong
    rw [Int.toNat_natCast]
    exact decide_eq_false (by have := sz5 hl; omega)
  · rw [if_neg hnn, e1, if_neg Bool.false_ne_true]
    refine ⟨?_, ⟨.str _, H, I.tok _, ⟨_, by rw [Int.toNat_natCast]⟩, q⟩⟩
    rw [Int.toNat_natCast]
    refine sz5 (Nat.le_trans (Nat.le_of_eq ?_) hl)
    show ((List.replicate n z.cps).foldl (· ++ ·) #[]).size = z.length * n
    rw [rep_size]
    simp
    rfl
end

end TS

namespace TS
open PySem PySem.Spec PyProof.Rows L2 TL

/-! ### drawn texts -/
theorem atI_in {α : Type} {xs : List α} {i : Int} (h0 : 0 ≤ i) (h1 : i < xs.length) : ∃ v, atI xs i = some v ∧ v ∈ xs := by
  have hj : i.toNat < xs.length := by omega
  refine ⟨xs[i.toNat], ?_, List.getElem_mem _⟩
  have e : ((i.toNat : Nat) : Int) = i := by omega
  have h := atI_nat (xs := xs) (List.getElem?_eq_getElem hj)
  rw [e] at h
  exact h
theorem yes {σ : L2.St} {H : Hp} {C : Bool → Hp → Prop} (h : C true H) : tYes σ H C := h
/-- what a def of a bag gives back: the bag drawn of, all else as it was -/
def Drawn (b : Addr) (n : Nat) (H : Hp) (C : Hp → Prop) : Prop := ∀ H' o', Fx b H H' → H' b = some o' → Bag n o' → C H'
def spWord : Sp := fun vs H Q _ => ∃ (b : Addr) (o : HO) (n : Nat), vs = [.ref b] ∧ H b = some o ∧ Bag (n + 12) o ∧ Drawn b n H fun H' => ∀ z : Str, z.length ≤ 100 → Plain z → Q (.str z) H'
def spText : Sp := fun vs H Q _ => ∃ (b : Addr) (o : HO) (n : Nat), vs = [.ref b] ∧ H b = some o ∧ Bag (n + 200) o ∧ Drawn b n H fun H' => ∀ z : Str, z.length ≤ 5000 → Plain z → Q (.str z) H'
theorem join_len (y : Str) : ∀ {ws : List Str} {k : Nat}, (∀ z ∈ ws, z.length ≤ k) → (Txt.join y ws).length ≤ ws.length * (k + y.length)
  | [], _, _ => by
    rw [join_eq]
    show Str.length _ ≤ _
    rw [len_tl, tl_join]
    exact Nat.zero_le _
  | [w], k, h => by
    rw [join_eq, len_tl, tl_join]
    show (tl w).length ≤ _
    rw [← len_tl]
    have := h w (by simp)
    simp only [List.length_singleton]
    omega
  | w :: v :: r, k, h => by
    have ih := join_len y (ws := v :: r) (k := k) fun z hz => h z (List.mem_cons_of_mem _ hz)
    rw [join_eq, len_tl, tl_join] at ih ⊢
    show (tl w ++ (tl y ++ joinL (tl y) ((v :: r).map tl))).length ≤ _
    rw [List.length_append, List.length_append, ← len_tl, ← len_tl]
    have := h w (by simp)
    have e : (w :: v :: r).length = (v :: r).length + 1 := rfl
    rw [e, Nat.succ_mul]
    omega
theorem sum_len : ∀ {ws : List Str} {k : Nat}, (∀ z ∈ ws, z.length ≤ k) → (ws.map (·.length)).sum ≤ ws.length * k
  | [], _, _ => by simp
  | w :: r, k, h => by
    have ih := sum_len (ws := r) (k := k) fun z hz => h z (List.mem_cons_of_mem _ hz)
    have := h w (by simp)
    simp only [List.map_cons, List.sum_cons, List.length_cons, Nat.succ_mul]
    omega
section
variable {P : Program} {w : World} {K : PySem.W.Frag} {mg : Str → Option Value} {base : Heap}
abbrev s__law_word : Stmt := top 8
theorem sc__law_word : FnScope ["_law_bag_here", "_law_signs", "_law_word_here", "_law_k"] ["_law_bag_here"] (defScope s__law_word) := ⟨rfl, rfl, rfl, by decide +kernel, rfl, by decide +kernel, by decide +kernel⟩

set_option maxHeartbeats 1000000 in
theorem ok_word (bt : Bt mg) (p__law_take : Prom P w K mg base 1 "_law_take" ["_law_bag_here", "_law_many"] spTake) (D : Def K mg "_law_word" s__law_word) : Prom P w K mg base 2 "_law_word" ["_law_bag_here"] spWord := by
  refine prom_mk D sc__law_word (fun vs H Q E h => ?_) (fun _ _ _ _ _ _ us hl => match us, hl with | [_], _ => rfl) (fun f cdv A outer s H vs Q E hr h => ?_)
  · obtain ⟨b, o, n, rfl, _⟩ := h
    rfl
  · obtain ⟨b, o, n, rfl, hb, bg, q⟩ := h
    refine ⟨_, (pss_cons (ps_set (i := 1) sc__law_word.nd rfl (Or.inr rfl) pe_str)
      (pss_cons (ps_set (i := 1) sc__law_word.nd rfl (Or.inr rfl) (pe_op op_add_str (pv 1) pe_str))
      (pss_cons (ps_set (i := 2) sc__law_word.nd rfl (Or.inl rfl) (pe_joinK (K := K) rfl pe_str (pe_lc (own := [("_law_k", 3)]) (g := gName 3) rfl sc__law_word.nd (pi_range1 rfl bt.range_ (pa_cons (pe_op op_add pe_int (pe_pc p__law_take (hr.mono (by decide)) rfl (pa_cons (pv 0) (pa_cons pe_int pa_nil)))) pa_nil)) (blkOk_by (N := ["_law_bag_here", "_law_signs", "_law_word_here", "_law_k"]) (sc := defScope s__law_word) (by decide +kernel)) (fun _ _ _ _ _ => (pg_name (i := 3) sc__law_word.nd rfl (Or.inl rfl))) (fun _ _ _ _ _ => pts_nil) (fun _ _ _ _ _ => (pe_ix ix_str (pv 1) (pe_pc p__law_take (hr.mono (by decide)) rfl (pa_cons (pv 0) (pa_cons (pe_callB (id := "len") (lenK (K := K)) (by rfl) bt.len_ (by decide +kernel) (pa_cons (pv 1) pa_nil)) pa_nil))) (fun _ _ => rfl))))))
      (pss_one (ps_ret (pe_ix (ix_listK (K := K)) (pe_lst (pa_cons (pv 2) (pa_cons (pv 2) (pa_cons (pv 2) (pa_cons (pv 1) pa_nil))))) (pe_pc p__law_take (hr.mono (by decide)) rfl (pa_cons (pv 0) (pa_cons pe_int pa_nil))) (fun _ _ => rfl))))))), ?_⟩
    refine ⟨_, rfl, _, _, rfl, rfl, (by decide +kernel), ?_⟩
    generalize hsg : ((Str.ofString "abcdefghijklmnopqrstuvwxyzABCDEFGHIJKLMNOPQRSTUVWXYZ0123456789" : Str) ++ _ : Str) = sg
    have sgl : sg.length = 93 := by
      rw [← hsg]
      decide +kernel
    have sgp : Plain sg := by
      rw [← hsg]
      exact plainB (by decide +kernel)
    refine ⟨⟨_, rfl⟩, ?_⟩
    refine ⟨_, rfl, b, o, n + 11, 9, rfl, hb, bg, by decide, by decide +kernel, fun d1 o1 d10 d11 bg1 => ?_⟩
    refine ⟨_, _, rfl, rfl, _, rfl, by omega, by omega, fun L hL => ?_⟩
    have nL : L ≠ b := fun z => by
      rw [z, upd_same] at hL
      cases hL
    refine lc_it walk_range (fun i H' => ∃ (ws : List Str) (o' : HO), ws.length = i ∧ (∀ z ∈ ws, z.length ≤ 1 ∧ Plain z) ∧ H' = L2.upd (L2.upd H b o') L (.lst (ws.map V.str)) ∧ Bag (n + 11 - i) o') ?_ (fun _ _ _ _ => trivial) ?_ ?_
    · exact ⟨[], o1, rfl, by simp, rfl, bg1⟩
    · rintro i x H1 H2 hi ⟨ws, o', rfl, hw, rfl, bg'⟩ ⟨rfl, rfl⟩
      refine ⟨rfl, yes (iteT ?_)⟩
      refine ⟨_, rfl, _, rfl, _, rfl, _, 93, rfl, ⟨by rw [sgl]; decide, sgl.symm⟩, b, o', n + 11 - ws.length - 1, 93, rfl, ?_, ?_, by decide, by decide +kernel, fun d o2 d0 d2 bg2 => ?_⟩
      · rw [upd_ne nL.symm, upd_same]
      · exact bg'.mono (by omega)
      · obtain ⟨c, hc, hcm⟩ := atI_in (xs := sg.cps.toList) d0 (by
          have e : sg.cps.toList.length = 93 := by rw [← sgl]; simp [Str.length]
          rw [e]
          exact d2)
        refine ⟨sg, d, c, rfl, rfl, by rw [sgl]; decide, hc, _, (by rw [upd_ne nL, upd_same]), ?_, ws ++ [⟨#[c]⟩], o2, by simp, ?_, ?_, bg2.mono (by omega)⟩
        · refine sz5' ?_
          rw [List.length_map]
          omega
        · intro z hz
          rcases List.mem_append.mp hz with hz | hz
          · exact hw z hz
          · rw [List.mem_singleton.mp hz]
            exact ⟨Nat.le_refl 1, fun d hd => by rw [List.mem_singleton.mp (show d ∈ [c] from hd)]; exact sgp c hcm⟩
        · funext a
          unfold L2.upd
          by_cases h1 : a = L
          · subst h1
            simp [List.map_append]
          · by_cases h2 : a = b
            · subst h2; simp [h1, nL, Ne.symm nL]
            · simp [h1, h2]
    · rintro H1 ⟨ws, o', hwl, hw, rfl, bg'⟩
      have hwl' : ws.length ≤ 9 := by omega
      have hw1 : ∀ z ∈ ws, z.length ≤ 1 := fun z hz => (hw z hz).1
      have e1 := join_len "" hw1
      have e0 : ("" : Str).length = 0 := by decide +kernel
      refine ⟨_, L, ws, rfl, rfl, .inl (.inl (.inl upd_same)), ?_, ?_⟩
      · have := sum_len hw1
        rw [e0]
        omega
      · generalize hj : Txt.join (Str.ofString "") ws = wj
        have wjl : wj.length ≤ 9 := by
          rw [← hj]
          rw [e0] at e1
          omega
        have wjp : Plain wj := by
          rw [← hj]
          exact Plain.join (plainB (by decide +kernel)) fun z hz => (hw z hz).2
        refine ⟨_, rfl, _, rfl, _, rfl, _, rfl, (by show 4 ≤ sizeLine; decide), fun p hp => ?_⟩
        have sp := Same.new (o := .lst [.str wj, .str wj, .str wj, .str sg]) (Same.refl _) hp
        have hbb : (L2.upd (L2.upd H b o') L (.lst (ws.map V.str))) b = some o' := by rw [upd_ne nL.symm, upd_same]
        refine ⟨_, rfl, b, o', n, 4, rfl, sp _ _ hbb, bg'.mono (by omega), by decide, by decide +kernel, fun d o2 d0 d2 bg2 => ?_⟩
        have npb : p ≠ b := (ne_of_none hbb hp).symm
        obtain ⟨v, hv, hm⟩ := atI_in (xs := [V.str wj, .str wj, .str wj, .str sg]) d0 d2
        refine ⟨p, _, d, v, rfl, rfl, .inl (.inl (by rw [upd_ne npb]; exact upd_same)), hv, ?_⟩
        have fx : Fx b H (L2.upd (L2.upd (L2.upd (L2.upd H b o') L (.lst (ws.map V.str))) p (.lst [.str wj, .str wj, .str wj, .str sg])) b o2) :=
          (Fx.new (Fx.new (Fx.upd (Fx.refl b H)) (by
            have := hL
            rw [upd_ne nL] at this ⊢
            exact this)) hp).upd
        have fin := q _ o2 fx upd_same bg2
        simp only [List.mem_cons, List.mem_singleton, List.not_mem_nil, or_false] at hm
        rcases hm with rfl | rfl | rfl | rfl
        · exact fin _ (by omega) wjp
        · exact fin _ (by omega) wjp
        · exact fin _ (by omega) wjp
        · exact fin _ (by omega) sgp
end

end TS

namespace TS
open PySem PySem.Spec PyProof.Rows L2 TL

theorem Fx.mut {b p : Addr} {H H' : Hp} {o : HO} (x : Fx b H H') (h : H p = none) : Fx b H (L2.upd H' p o) := fun a u ha e => by
  rw [upd_ne (ne_of_none e h)]
  exact x a u ha e
theorem cut_le {z : Str} {lo hi : Option Int} {n : Nat} (h : z.length ≤ n) : (cutS z lo hi).length ≤ n := Nat.le_trans (cutS_length z lo hi) h
theorem add_len (x y : Str) : (x ++ y).length = x.length + y.length := by
  rw [len_tl, tl_append, List.length_append, ← len_tl, ← len_tl]
section
variable {P : Program} {w : World} {K : PySem.W.Frag} {mg : Str → Option Value} {base : Heap}
abbrev s__law_text : Stmt := top 9
theorem sc__law_text : FnScope ["_law_bag_here", "_law_text_here", "_law_at", "_law_way", "_law_k"] ["_law_bag_here"] (defScope s__law_text) := ⟨rfl, rfl, rfl, by decide +kernel, rfl, by decide +kernel, by decide +kernel⟩

set_option maxHeartbeats 1000000 in
theorem ok_text (Y : Sys K) (bt : Bt mg) (p__law_take : Prom P w K mg base 1 "_law_take" ["_law_bag_here", "_law_many"] spTake) (p__law_word : Prom P w K mg base 2 "_law_word" ["_law_bag_here"] spWord) (D : Def K mg "_law_text" s__law_text) :
    Prom P w K mg base 3 "_law_text" ["_law_bag_here"] spText := by
  refine prom_mk D sc__law_text (fun vs H Q E h => ?_) (fun _ _ _ _ _ _ us hl => match us, hl with | [_], _ => rfl) (fun f cdv A outer s H vs Q E hr h => ?_)
  · obtain ⟨b, o, n, rfl, _⟩ := h
    rfl
  · obtain ⟨b, o, n, rfl, hb, bg, q⟩ := h
    refine ⟨_, (pss_cons (ps_set (i := 1) sc__law_text.nd rfl (Or.inl rfl) (pe_slice sl_str (pe_joinK (K := K) rfl pe_str (pe_lc (own := [("_law_k", 4)]) (g := gName 4) rfl sc__law_text.nd (pi_range1 rfl bt.range_ (pa_cons (pe_op op_add pe_int (pe_pc p__law_take (hr.mono (by decide)) rfl (pa_cons (pv 0) (pa_cons pe_int pa_nil)))) pa_nil)) (blkOk_by (N := ["_law_bag_here", "_law_text_here", "_law_at", "_law_way", "_law_k"]) (sc := defScope s__law_text) (by decide +kernel)) (fun _ _ _ _ _ => (pg_name (i := 4) sc__law_text.nd rfl (Or.inl rfl))) (fun _ _ _ _ _ => pts_nil) (fun _ _ _ _ _ => (pe_pc p__law_word (hr.mono (by decide)) rfl (pa_cons (pv 0) pa_nil))))) po_none (po_some pe_int)))
      (pss_cons (ps_set (i := 2) sc__law_text.nd rfl (Or.inl rfl) (pe_ix (ix_listK (K := K)) (pe_lst (pa_cons (pe_pc p__law_take (hr.mono (by decide)) rfl (pa_cons (pv 0) (pa_cons (pe_op op_add (pe_callB (id := "len") (lenK (K := K)) (by rfl) bt.len_ (by decide +kernel) (pa_cons (pv 1) pa_nil)) pe_int) pa_nil))) (pa_cons pe_int (pa_cons (pe_callB (id := "len") (lenK (K := K)) (by rfl) bt.len_ (by decide +kernel) (pa_cons (pv 1) pa_nil)) pa_nil)))) (pe_pc p__law_take (hr.mono (by decide)) rfl (pa_cons (pv 0) (pa_cons pe_int pa_nil))) (fun _ _ => rfl)))
      (pss_cons (ps_set (i := 3) sc__law_text.nd rfl (Or.inl rfl) (pe_pc p__law_take (hr.mono (by decide)) rfl (pa_cons (pv 0) (pa_cons pe_int pa_nil))))
      (pss_cons (ps_if (pt_cmpR op_eq (pv 3) pe_int (nomark _)) (pss_one (ps_ret (pe_op op_add_str (pe_op op_add_str (pe_slice sl_str (pv 1) po_none (po_some (pv 2))) pe_str) (pe_slice sl_str (pv 1) (po_some (pv 2)) po_none)))) pss_nil)
      (pss_cons (ps_if (pt_cmpR op_eq (pv 3) pe_int (nomark _)) (pss_one (ps_ret (pe_replD Y (pek_opL op_add_str (pek_opR op_add_str (pe_slice sl_str (pv 1) po_none (po_some (pv 2))) pek_str) (pe_slice sl_str (pv 1) (po_some (pv 2)) po_none)) (pe_pc p__law_take (hr.mono (by decide)) rfl (pa_cons (pv 0) (pa_cons pe_int pa_nil))) (fun _ _ => rfl)))) pss_nil)
      (pss_cons (ps_if (pt_cmpR op_eq (pv 3) pe_int (nomark _)) (pss_one (ps_ret (pe_op op_add_str (pe_slice sl_str (pv 1) po_none (po_some (pv 2))) (pe_slice sl_str (pv 1) (po_some (pe_op op_add (pv 2) pe_int)) po_none)))) pss_nil)
      (pss_one (ps_ret (pv 1))))))))), ?_⟩
    refine ⟨⟨_, rfl⟩, ?_⟩
    refine ⟨_, rfl, b, o, n + 199, 9, rfl, hb, bg, by decide, by decide +kernel, fun d1 o1 d10 d11 bg1 => ?_⟩
    refine ⟨_, _, rfl, rfl, _, rfl, by omega, by omega, fun L hL => ?_⟩
    have nL : L ≠ b := fun z => by
      rw [z, upd_same] at hL
      cases hL
    have hL0 : H L = none := by rw [upd_ne nL] at hL; exact hL
    refine lc_it walk_range (fun i H' => ∃ (ws : List Str) (o' : HO), ws.length = i ∧ (∀ z ∈ ws, z.length ≤ 100 ∧ Plain z) ∧ Fx b H H' ∧ H' L = some (.lst (ws.map V.str)) ∧ H' b = some o' ∧ Bag (n + 199 - 12 * i) o') ?_ (fun _ _ _ _ => trivial) ?_ ?_
    · exact ⟨[], o1, rfl, by simp, ((Fx.refl b H).upd).mut hL0, upd_same, by rw [upd_ne nL.symm, upd_same], bg1⟩
    · rintro i x H1 H2 hi ⟨ws, o', rfl, hw, fx, hl, hb', bg'⟩ ⟨rfl, rfl⟩
      refine ⟨rfl, yes (iteT ?_)⟩
      refine ⟨_, rfl, b, o', n + 199 - 12 * ws.length - 12, rfl, hb', bg'.mono (by omega), fun H3 o3 fx3 hb3 bg3 z hz hzp => ?_⟩
      refine ⟨_, fx3 L _ nL hl, ?_, ws ++ [z], o3, by simp, ?_, (fx.trans fx3).mut hL0, ?_, by rw [upd_ne nL.symm]; exact hb3, bg3.mono (by omega)⟩
      · refine sz5' ?_
        rw [List.length_map]
        omega
      · intro y hy
        rcases List.mem_append.mp hy with hy | hy
        · exact hw y hy
        · rw [List.mem_singleton.mp hy]
          exact ⟨hz, hzp⟩
      · rw [upd_same, List.map_append]
        rfl
    · rintro H1 ⟨ws, o', hwl, hw, fx, hl, hb', bg'⟩
      have hwl' : ws.length ≤ 9 := by omega
      have hw1 : ∀ z ∈ ws, z.length ≤ 100 := fun z hz => (hw z hz).1
      have e1 := join_len " " hw1
      have e0 : (" " : Str).length = 1 := by decide +kernel
      rw [e0] at e1
      have e2 := sum_len hw1
      refine ⟨_, L, ws, rfl, rfl, .inl (.inl (.inl hl)), ?_, ?_⟩
      · rw [e0]
        have := Nat.mul_le_mul_right 100 hwl'
        omega
      · have e3 : (Txt.join (Str.ofString " ") ws).length ≤ 909 := by
          have := Nat.mul_le_mul_right (100 + 1) hwl'
          exact Nat.le_trans e1 (by omega)
        refine ⟨_, rfl, _, rfl, sz5 (by omega), ?_⟩
        generalize hj : cutS (Txt.join (Str.ofString " ") ws) none (some 799) = tx
        have txl : tx.length ≤ 909 := by
          rw [← hj]
          exact cut_le e3
        have txp : Plain tx := by
          rw [← hj]
          exact Plain.cut (Plain.join (plainB (by decide +kernel)) fun z hz => (hw z hz).2) _ _
        have pb : Plain (Str.ofString " ") := plainB (by decide +kernel)
        have pn : Plain (Str.ofString "\n") := plainB (by decide +kernel)
        -- at = [take(..), 0, len(text)][take(bag, 3)]
        refine ⟨_, rfl, _, rfl, _, tx.length, rfl, ⟨sz5 (by omega), rfl⟩, _, _, rfl, rfl, b, o', n + 10, _, rfl, hb', bg'.mono (by omega), by omega, ?_, fun d2 o2 d20 d21 bg2 => ?_⟩
        · have : (2 : Int) ^ 200 = 1606938044258990275541962092341162602522202993782792835301376 := by decide +kernel
          omega
        · refine ⟨_, rfl, _, tx.length, rfl, ⟨sz5 (by omega), rfl⟩, (by show 3 ≤ sizeLine; decide), fun p hp => ?_⟩
          have npb : p ≠ b := fun z => by
            rw [z, upd_same] at hp
            cases hp
          refine ⟨_, rfl, b, o2, n + 9, 3, rfl, by rw [upd_ne npb.symm, upd_same], bg2.mono (by omega), by decide, by decide +kernel, fun d3 o3 d30 d31 bg3 => ?_⟩
          obtain ⟨v, hv, hm⟩ := atI_in (xs := [V.int d2, .int 0, .int (tx.length : Int)]) d30 d31
          refine ⟨p, _, d3, v, rfl, rfl, .inl (.inl (by rw [upd_ne npb]; exact upd_same)), hv, ?_⟩
          obtain ⟨at_, rfl⟩ : ∃ k, v = .int k := by
            simp only [List.mem_cons, List.not_mem_nil, or_false] at hm
            rcases hm with rfl | rfl | rfl <;> exact ⟨_, rfl⟩
          generalize hH : L2.upd (L2.upd (L2.upd H1 b o2) p _) b o3 = H4
          have fx4 : Fx b H H4 := by
            rw [← hH]
            exact (Fx.new fx.upd hp).upd
          have hb4 : H4 b = some o3 := by
            rw [← hH]
            exact upd_same
          -- way = take(bag, 6)
          refine ⟨_, rfl, b, o3, n + 8, 6, rfl, hb4, bg3.mono (by omega), by decide, by decide +kernel, fun way o5 w0 w1 bg5 => ?_⟩
          have fx5 : Fx b H (L2.upd H4 b o5) := fx4.upd
          have hb5 : (L2.upd H4 b o5) b = some o5 := upd_same
          have c1 : ∀ {lo hi : Option Int}, (cutS tx lo hi).length ≤ 909 := cut_le txl
          have e1' : ("\n" : Str).length = 1 := by decide +kernel
          refine ⟨_, rfl, rfl, _, rfl, ?_⟩
          refine ite2 (fun c => ?_) (fun c => ?_)
          · refine ⟨_, rfl, _, rfl, _, rfl, tx, rfl, sz5 (by omega), _, _, rfl, rfl, ?_, ?_⟩
            · refine sz5 ?_
              have := c1 (lo := none) (hi := some at_)
              rw [e0]
              omega
            · refine ⟨_, rfl, _, rfl, _, rfl, tx, rfl, sz5 (by omega), _, _, rfl, rfl, ?_, ?_⟩
              · refine sz5 ?_
                have h1 := c1 (lo := none) (hi := some at_)
                have h2 := c1 (lo := some at_) (hi := none)
                rw [add_len, e0]
                omega
              · refine q _ o5 fx5 hb5 (bg5.mono (by omega)) _ ?_ (((txp.cut _ _).app pb).app (txp.cut _ _))
                have h1 := c1 (lo := none) (hi := some at_)
                have h2 := c1 (lo := some at_) (hi := none)
                rw [add_len, add_len, e0]
                omega
          · refine ⟨_, rfl, rfl, _, rfl, ?_⟩
            refine ite2 (fun c => ?_) (fun c => ?_)
            · have h1 := c1 (lo := none) (hi := some at_)
              have h2 := c1 (lo := some at_) (hi := none)
              refine ⟨_, rfl, _, rfl, _, rfl, tx, rfl, sz5 (by omega), _, _, rfl, rfl, sz5 (by rw [e1']; omega), ?_⟩
              refine ⟨_, rfl, _, rfl, _, rfl, tx, rfl, sz5 (by omega), _, _, rfl, rfl, sz5 (by rw [add_len, e1']; omega), ?_⟩
              have e5 : (cutS tx none (some at_) ++ Str.ofString "\n" ++ cutS tx (some at_) none).length ≤ 1819 := by
                rw [add_len, add_len, e1']
                omega
              refine ⟨cutS tx none (some at_) ++ Str.ofString "\n" ++ cutS tx (some at_) none, rfl, by omega, by decide +kernel, by decide +kernel, ?_⟩
              refine ⟨_, rfl, b, o5, n + 7, 2, rfl, hb5, bg5.mono (by omega), by decide, by decide +kernel, fun d6 o6 d60 d61 bg6 => ?_⟩
              have rl : ∀ z : Str, z.length ≤ 1 → (Txt.replace (cutS tx none (some at_) ++ Str.ofString "\n" ++ cutS tx (some at_) none) (Str.ofString " ") z).length ≤ 5000 := fun z hz => by
                have h3 := TK.replace_len (cutS tx none (some at_) ++ Str.ofString "\n" ++ cutS tx (some at_) none) (Str.ofString " ") z
                have h4 := Nat.mul_le_mul_left ((cutS tx none (some at_) ++ Str.ofString "\n" ++ cutS tx (some at_) none).length + 1) hz
                omega
              have fin := q _ o6 fx5.upd upd_same (bg6.mono (by omega))
              have d6' : d6 = 0 ∨ d6 = 1 := by omega
              rcases d6' with rfl | rfl
              · exact .inl ⟨rfl, fin _ (rl _ (by decide +kernel)) (Plain.repl (by decide +kernel) (((txp.cut _ _).app pn).app (txp.cut _ _)) pb)⟩
              · exact .inr ⟨rfl, fin _ (rl _ (by decide +kernel)) (Plain.repl (by decide +kernel) (((txp.cut _ _).app pn).app (txp.cut _ _)) pn)⟩
            · refine ⟨_, rfl, rfl, _, rfl, ?_⟩
              refine ite2 (fun c => ?_) (fun c => ?_)
              · have h1 := c1 (lo := none) (hi := some at_)
                have h2 := c1 (lo := some (at_ + 1)) (hi := none)
                refine ⟨_, rfl, _, rfl, _, rfl, tx, rfl, sz5 (by omega), _, rfl, _, rfl, _, _, rfl, rfl, _, rfl, tx, rfl, sz5 (by omega), ?_⟩
                refine ⟨_, _, rfl, rfl, sz5 (by omega), q _ o5 fx5 hb5 (bg5.mono (by omega)) _ ?_ ((txp.cut _ _).app (txp.cut _ _))⟩
                rw [add_len]
                omega
              · exact ⟨_, rfl, q _ o5 fx5 hb5 (bg5.mono (by omega)) _ (by omega) txp⟩
end

end TS

namespace TS
open PySem PySem.Spec PyProof.Rows L2 TL

/-! ### how data are shown: sizes -/
structure Shows (d : PyData) : Prop where
  ok : d.showable = true
  deep : d.depth ≤ 40
  size : d.shown.length ≤ sizeLine
def wordsD : Option (List Str) → PyData
  | none => .none
  | some ws => .list (ws.map .str)
theorem showAll_str : ∀ ws : List Str, PyData.showableAll (ws.map .str) = true
  | [] => rfl
  | w :: r => by
    rw [List.map_cons]
    unfold PyData.showableAll
    rw [showAll_str r]
    rfl
theorem depthAll_str : ∀ ws : List Str, PyData.depthAll (ws.map .str) = 0
  | [] => rfl
  | w :: r => by
    rw [List.map_cons]
    unfold PyData.depthAll
    rw [depthAll_str r]
    rfl
theorem leaves_str : ∀ {ws : List Str}, (∀ w ∈ ws, Plain w) → PyData.leavesShortAll 40 (ws.map .str) = true
  | [], _ => rfl
  | w :: r, h => by
    rw [List.map_cons]
    unfold PyData.leavesShortAll
    rw [leaves_str fun x hx => h x (List.mem_cons_of_mem _ hx), Bool.and_true]
    unfold PyData.leavesShort
    rw [List.all_eq_true]
    intro c hc
    exact decide_eq_true (Nat.lt_trans (h w (by simp) c hc) (by decide))
theorem weight_str : ∀ ws : List Str, PyData.weightAll (ws.map .str) = (ws.map fun w => w.length + 1).sum
  | [] => rfl
  | w :: r => by
    rw [List.map_cons]
    unfold PyData.weightAll
    rw [weight_str r, List.map_cons, List.sum_cons]
    rfl
theorem shows_strs {ws : List Str} (hp : ∀ w ∈ ws, Plain w) (hl : (ws.map fun w => w.length + 1).sum ≤ 100000) : Shows (.list (ws.map .str)) := by
  refine ⟨?_, ?_, ?_⟩
  · unfold PyData.showable
    exact showAll_str ws
  · unfold PyData.depth
    rw [depthAll_str]
    decide
  · have h := PyData.shown_le 40 (by decide) (.list (ws.map .str)) (by unfold PyData.leavesShort; exact leaves_str hp)
    have e : PyData.weight (.list (ws.map .str)) ≤ 100000 := by
      unfold PyData.weight
      rw [weight_str]
      exact hl
    refine Nat.le_trans h ?_
    rw [sizeLine_eq]
    omega
theorem spl_sum (m : Nat) : ∀ (l acc : List Nat), ((spl [m] 0 acc l).map fun p => p.length + 1).sum = acc.length + l.length + 1
  | [], acc => by
    rw [spl_nil]
    simp
  | c :: r, acc => by
    by_cases h : c = m
    · rw [spl_hit (by rw [pre_one]; simp [h])]
      show (((acc :: spl [m] 0 [] r).map fun p => p.length + 1)).sum = _
      rw [List.map_cons, List.sum_cons, spl_sum m r []]
      simp only [List.length_cons, List.length_nil]
      omega
    · rw [spl_miss (by rw [pre_one]; simp [h]), spl_sum m r]
      simp only [List.length_append, List.length_cons, List.length_nil]
      omega
theorem spl_mem (m c : Nat) : ∀ (l acc : List Nat) (p : List Nat), p ∈ spl [m] 0 acc l → c ∈ p → c ∈ acc ∨ c ∈ l
  | [], acc, p, hp, hc => by
    rw [spl_nil] at hp
    rw [List.mem_singleton.mp hp] at hc
    exact .inl hc
  | d :: r, acc, p, hp, hc => by
    by_cases h : d = m
    · rw [spl_hit (by rw [pre_one]; simp [h])] at hp
      rcases List.mem_cons.mp (show p ∈ acc :: spl [m] 0 [] r from hp) with e | hp
      · rw [e] at hc
        exact .inl hc
      · rcases spl_mem m c r [] p hp hc with z | z
        · cases z
        · exact .inr (List.mem_cons_of_mem _ z)
    · rw [spl_miss (by rw [pre_one]; simp [h])] at hp
      rcases spl_mem m c r _ p hp hc with z | z
      · rcases List.mem_append.mp z with z | z
        · exact .inl z
        · exact .inr (by rw [List.mem_singleton.mp z]; exact List.mem_cons_self)
      · exact .inr (List.mem_cons_of_mem _ z)
theorem split_shows {z : Str} {m : Nat} (hm : m < 256) (hz : z.length ≤ 5000) (hp : Plain z) : Shows (.list ((Txt.split z ⟨#[m]⟩).map .str)) := by
  have e : (Txt.split z ⟨#[m]⟩).map tl = spl [m] 0 [] (tl z) := by
    rw [split_spl z ⟨#[m]⟩ (by rw [tl_one]; simp) (kind_ok (by simp [hm])), tl_one]
  refine shows_strs (fun w hw c hc => ?_) ?_
  · have h1 : tl w ∈ spl [m] 0 [] (tl z) := by
      rw [← e]
      exact List.mem_map_of_mem hw
    rcases spl_mem m c _ _ _ h1 hc with q | q
    · cases q
    · exact hp c q
  · have h1 := spl_sum m (tl z) []
    rw [← e, List.map_map] at h1
    have e2 : (Txt.split z ⟨#[m]⟩).map (fun w => w.length + 1) = (Txt.split z ⟨#[m]⟩).map ((fun p : List Nat => p.length + 1) ∘ tl) := List.map_congr_left fun w _ => by
      show w.length + 1 = (tl w).length + 1
      rw [len_tl]
    rw [e2, h1, List.length_nil, ← len_tl]
    omega
/-! ### things that are texts or none -/
theorem TyX.ofDt {K : PySem.W.Frag} {H : Hp} : ∀ {v : V} {d : PyData}, Dt K H v d → (∀ y, d ≠ .str y) → NoStr K H v
  | _, _, .non, _ => ⟨_, .base .non, kit_ty (by decide +kernel)⟩
  | _, _, .bl b, _ => ⟨_, .base (.bl b), kit_ty (by decide +kernel)⟩
  | _, _, .int i, _ => ⟨_, .base (.int i), kit_ty (by decide +kernel)⟩
  | _, _, .str x, h => absurd rfl (h x)
  | _, _, .lst h _, _ => by
    rcases h with (h | ⟨o, h⟩) | ⟨o, its, n, hk, hc, _⟩
    · exact ⟨_, .base (.lst h), kit_ty (by decide +kernel)⟩
    · exact ⟨_, .base (.frz h), kit_ty (by decide +kernel)⟩
    · exact ⟨_, .kList hk hc, kit_ty (by decide +kernel)⟩
  | _, _, .tup h _, _ => by
    rcases h with (h | ⟨o, h⟩) | ⟨o, its, n, hk, hc, _⟩
    · exact ⟨_, .base (.tup h), kit_ty (by decide +kernel)⟩
    · exact ⟨_, .fTuple h, kit_ty (by decide +kernel)⟩
    · exact ⟨_, .kTuple hk hc, kit_ty (by decide +kernel)⟩
  | _, _, .dct h _ _, _ => ⟨_, .base (.dK h), kit_ty (by decide +kernel)⟩
def Thing (K : PySem.W.Frag) (H : Hp) (x : V) : Prop := (∃ z, x = .str z ∧ z.length ≤ 5000 ∧ Plain z) ∨ (∃ d, Dt K H x d ∧ ∀ y, d ≠ .str y)
theorem Thing.same {K : PySem.W.Frag} {H H' : Hp} {x : V} (s : Same H H') (h : Thing K H x) : Thing K H' x := h.imp id fun ⟨d, h1, h2⟩ => ⟨d, h1.same s, h2⟩
theorem Thing.any {K : PySem.W.Frag} {H : Hp} {x : V} {d : PyData} (hd : d ∈ anyD) (h : Dt K H x d) : Thing K H x := by
  by_cases e : ∃ y, d = .str y
  · obtain ⟨y, rfl⟩ := e
    cases h
    have hy : y = "" ∨ y = "no" ∨ y = "a b" := by simpa [anyD] using hd
    rcases hy with rfl | rfl | rfl
    · exact .inl ⟨_, rfl, by decide +kernel, plainB (by decide +kernel)⟩
    · exact .inl ⟨_, rfl, by decide +kernel, plainB (by decide +kernel)⟩
    · exact .inl ⟨_, rfl, by decide +kernel, plainB (by decide +kernel)⟩
  · exact .inr ⟨d, h, fun y z => e ⟨y, z⟩⟩
def Back (H H' : Hp) (v : V) : Option (List Str) → Prop
  | none => v = .non
  | some ws => ∃ p, v = .ref p ∧ H p = none ∧ H' p = some (.lst (ws.map V.str))
def wordsV : V → Option (List Str)
  | .str z => wordsOf z
  | _ => none
def rowsV : V → Option (List Str)
  | .str z => some (Txt.split z "\n")
  | _ => none
theorem DtAll.strs {K : PySem.W.Frag} {H : Hp} : ∀ ws : List Str, DtAll K H (ws.map V.str) (ws.map .str)
  | [] => .nil
  | w :: r => .cons (.str w) (DtAll.strs r)
theorem Back.dt {K : PySem.W.Frag} {H H' : Hp} {v : V} : ∀ {r : Option (List Str)}, Back H H' v r → Dt K H' v (wordsD r)
  | none, h => by
    rw [show v = .non from h]
    exact .non
  | some ws, ⟨p, e, _, h⟩ => by
    rw [e]
    exact .lst (.inl (.inl h)) (DtAll.strs ws)
theorem wb_of {H : Hp} {Q : VK} : ∀ {r : Option (List Str)}, (∀ v H', Same H H' → Back H H' v r → Q v H') → WordsBack H Q r
  | none, k => fun H' s => k _ _ s rfl
  | some ws, k => fun p H' hp s h => k _ _ s ⟨p, rfl, hp, h⟩
theorem noStr_shape {K : PySem.W.Frag} {H : Hp} {x : V} {d : PyData} (h : Dt K H x d) (hd : ∀ y, d ≠ .str y) : wordsV x = none ∧ rowsV x = none := by
  cases h <;> first | exact ⟨rfl, rfl⟩ | exact absurd rfl (hd _)
theorem call_words {K : PySem.W.Frag} {H : Hp} {Q : VK} {E : XK} {x : V} (hx : Thing K H x) (k : ∀ v H', Same H H' → Back H H' v (wordsV x) → Q v H') : spWordsIn K [x] H Q E := by
  rcases hx with ⟨z, rfl, hz, _⟩ | ⟨d, hd, hn⟩
  · exact ⟨_, rfl, .inl ⟨z, rfl, by omega, wb_of k⟩⟩
  · rw [(noStr_shape hd hn).1] at k
    exact ⟨_, rfl, .inr ⟨TyX.ofDt hd hn, wb_of k⟩⟩
theorem call_rows {K : PySem.W.Frag} {H : Hp} {Q : VK} {E : XK} {x : V} (hx : Thing K H x) (k : ∀ v H', Same H H' → Back H H' v (rowsV x) → Q v H') : spRowsIn K [x] H Q E := by
  rcases hx with ⟨z, rfl, hz, _⟩ | ⟨d, hd, hn⟩
  · exact ⟨_, rfl, .inl ⟨z, rfl, by omega, wb_of k⟩⟩
  · rw [(noStr_shape hd hn).2] at k
    exact ⟨_, rfl, .inr ⟨TyX.ofDt hd hn, wb_of k⟩⟩
theorem shows_none : Shows .none := ⟨rfl, by decide, by decide +kernel⟩
theorem shows_words {K : PySem.W.Frag} {H : Hp} {x : V} (hx : Thing K H x) : Shows (wordsD (wordsV x)) := by
  rcases hx with ⟨z, rfl, hz, hp⟩ | ⟨d, hd, hn⟩
  · show Shows (wordsD (wordsOf z))
    unfold wordsOf
    split
    · exact shows_none
    · have e32 : (⟨#[32]⟩ : Str) = " " := by decide +kernel
      rw [← e32]
      exact split_shows (by decide) hz hp
  · rw [(noStr_shape hd hn).1]
    exact shows_none
theorem shows_rows {K : PySem.W.Frag} {H : Hp} {x : V} (hx : Thing K H x) : Shows (wordsD (rowsV x)) := by
  rcases hx with ⟨z, rfl, hz, hp⟩ | ⟨d, hd, hn⟩
  · show Shows (.list ((Txt.split z "\n").map .str))
    have e10 : (⟨#[10]⟩ : Str) = "\n" := by decide +kernel
    rw [← e10]
    exact split_shows (by decide) hz hp
  · rw [(noStr_shape hd hn).2]
    exact shows_none

end TS

namespace TS
open PySem PySem.Spec PyProof.Rows L2 TL

/-! ### the law -/
def spLaw (K : PySem.W.Frag) : Sp := fun vs H Q _ => ∃ (a : Addr) (ns : List Int), vs = [.ref a] ∧ SqL K H a (ns.map V.int) ∧ ns.length ≤ 63 ∧ ∀ H', Q (.bl true) H'
theorem rep_split (m c : Nat) (n : Nat) (h : c = m) : spl [m] 0 [] (List.replicate n c) = List.replicate (n + 1) [] := by
  induction n with
  | zero => rfl
  | succ n ih =>
    rw [List.replicate_succ, spl_hit (by rw [pre_one]; simp [h])]
    show [] :: spl [m] 0 [] (List.replicate n c) = _
    rw [ih]
    rfl
theorem tl_rep (c : Nat) (n : Nat) : tl (⟨(List.replicate n (#[c] : Array Nat)).foldl (· ++ ·) #[]⟩ : Str) = List.replicate n c := by
  have h : ∀ (n : Nat) (acc : Array Nat), ((List.replicate n (#[c] : Array Nat)).foldl (· ++ ·) acc).toList = acc.toList ++ List.replicate n c := by
    intro n
    induction n with
    | zero => intro acc; simp
    | succ n ih =>
      intro acc
      rw [List.replicate_succ, List.foldl_cons, ih, List.replicate_succ]
      simp
  have := h n #[]
  simpa using this
/-! ### told lists, that are changed -/
/-- None, or a list that H9 does not know, of at most n things -/
def Tg (H9 : Hp) (lp : Addr) (H' : Hp) (n : Nat) (v : V) : Prop := v = .non ∨ ∃ p xs, v = .ref p ∧ H9 p = none ∧ p ≠ lp ∧ H' p = some (.lst xs) ∧ xs.length ≤ n
def Tg0 (H9 : Hp) (H' : Hp) (n : Nat) (v : V) : Prop := v = .non ∨ ∃ p xs, v = .ref p ∧ H9 p = none ∧ H' p = some (.lst xs) ∧ xs.length ≤ n
theorem Tg0.up {H9 H' H'' : Hp} {lp : Addr} {n : Nat} {v : V} (h : Tg0 H9 H' n v) (e : Same H' H'') (hl : ∀ {p : Addr} {o : HO}, H' p = some o → p ≠ lp) : Tg H9 lp H'' n v :=
  h.imp id fun ⟨p, xs, h1, h2, h3, h4⟩ => ⟨p, xs, h1, h2, hl h3, e _ _ h3, h4⟩
theorem Tg.more {H9 H' : Hp} {lp : Addr} {n : Nat} {v : V} (h : Tg H9 lp H' n v) : Tg H9 lp H' (n + 1) v := h.imp id fun ⟨p, xs, h1, h2, h3, h4, h5⟩ => ⟨p, xs, h1, h2, h3, h4, by omega⟩
theorem Tg.app {H9 H' : Hp} {lp p : Addr} {n : Nat} {v y : V} {xs : List V} (h : Tg H9 lp H' n v) (hp : H' p = some (.lst xs)) (hx : xs.length ≤ n) : Tg H9 lp (L2.upd H' p (.lst (xs ++ [y]))) (n + 1) v := by
  rcases h with h | ⟨q, zs, h1, h2, h3, h4, h5⟩
  · exact .inl h
  · by_cases e : q = p
    · refine .inr ⟨q, xs ++ [y], h1, h2, h3, by rw [e, upd_same], ?_⟩
      rw [List.length_append, List.length_singleton]
      omega
    · exact .inr ⟨q, zs, h1, h2, h3, by rw [upd_ne e]; exact h4, by omega⟩
theorem split_count {z : Str} {m : Nat} (hm : m < 256) : (Txt.split z ⟨#[m]⟩).length ≤ z.length + 1 := by
  have e : (Txt.split z ⟨#[m]⟩).map tl = spl [m] 0 [] (tl z) := by
    rw [split_spl z ⟨#[m]⟩ (by rw [tl_one]; simp) (kind_ok (by simp [hm])), tl_one]
  have h1 := spl_sum m (tl z) []
  rw [← e] at h1
  have h2 : ∀ l : List (List Nat), l.length ≤ (l.map fun p => p.length + 1).sum := by
    intro l
    induction l with
    | nil => simp
    | cons p r ih =>
      simp only [List.length_cons, List.map_cons, List.sum_cons]
      omega
  have h3 := h2 ((Txt.split z ⟨#[m]⟩).map tl)
  rw [h1, List.length_map, List.length_nil, ← len_tl] at h3
  omega
theorem tg_back {H9 H H' : Hp} {v : V} {r : Option (List Str)} {n : Nat} (e : Same H9 H) (b : Back H H' v r) (hr : ∀ ws, r = some ws → ws.length ≤ n) : Tg0 H9 H' n v := by
  cases r with
  | none => exact .inl b
  | some ws =>
    obtain ⟨p, h1, h2, h3⟩ := b
    exact .inr ⟨p, _, h1, e.free h2, h3, by rw [List.length_map]; exact hr ws rfl⟩
theorem tg_words {K : PySem.W.Frag} {H9 H H' : Hp} {x v : V} (tx : Thing K H x) (e : Same H9 H) (b : Back H H' v (wordsV x)) : Tg0 H9 H' 6000 v := by
  refine tg_back e b fun ws h => ?_
  rcases tx with ⟨z, rfl, hz, _⟩ | ⟨d, hd, hn⟩
  · have h' : wordsOf z = some ws := h
    unfold wordsOf at h'
    split at h'
    · cases h'
    · cases h'
      have e32 : (⟨#[32]⟩ : Str) = " " := by decide +kernel
      have := split_count (z := z) (m := 32) (by decide)
      rw [e32] at this
      omega
  · rw [(noStr_shape hd hn).1] at h
    cases h
theorem tg_rows {K : PySem.W.Frag} {H9 H H' : Hp} {x v : V} (tx : Thing K H x) (e : Same H9 H) (b : Back H H' v (rowsV x)) : Tg0 H9 H' 6000 v := by
  refine tg_back e b fun ws h => ?_
  rcases tx with ⟨z, rfl, hz, _⟩ | ⟨d, hd, hn⟩
  · have h' : some (Txt.split z "\n") = some ws := h
    cases h'
    have e10 : (⟨#[10]⟩ : Str) = "\n" := by decide +kernel
    have := split_count (z := z) (m := 10) (by decide)
    rw [e10] at this
    omega
  · rw [(noStr_shape hd hn).2] at h
    cases h
theorem rep_flat (v : V) : ∀ n : Nat, (List.replicate n [v]).flatten = List.replicate n v
  | 0 => rfl
  | n + 1 => by
    rw [List.replicate_succ, List.flatten_cons, rep_flat v n, List.replicate_succ]
    rfl
theorem DpAll.strs {K : PySem.W.Frag} {H : Hp} : ∀ ws : List Str, DpAll K H (ws.map V.str) (ws.map .str)
  | [] => .nil
  | w :: r => .cons (.str w) (DpAll.strs r)
theorem canLayAll_str : ∀ {ws : List Str}, (∀ w ∈ ws, PyData.canLay0 (.str w) = true) → PyData.canLayAll0 (ws.map .str) = true
  | [], _ => rfl
  | w :: r, h => by
    rw [List.map_cons]
    unfold PyData.canLayAll0
    rw [canLayAll_str fun x hx => h x (List.mem_cons_of_mem _ hx), h w (by simp)]
    rfl
theorem shaped_strs {ws : List Str} (h : ∀ w ∈ ws, PyData.canLay0 (.str w) = true) : SeqAt.shaped (.list (ws.map .str)) = true := by
  unfold SeqAt.shaped
  rw [Bool.and_eq_true]
  refine ⟨?_, decide_eq_true ?_⟩
  · unfold PyData.canLay0
    exact canLayAll_str h
  · unfold PyData.depth
    rw [depthAll_str]
    decide
theorem words_a : wordsOf (Txt.join (Str.ofString " ") (List.replicate 400 (Str.ofString "a"))) = some (List.replicate 400 (Str.ofString "a")) := by
  have ha : tl (Str.ofString "a") = [97] := by decide +kernel
  have hb : tl (Str.ofString " ") = [32] := by decide +kernel
  have e : Txt.split (Txt.join (Str.ofString " ") (List.replicate 400 (Str.ofString "a"))) (Str.ofString " ") = List.replicate 400 (Str.ofString "a") :=
    split_join hb (by decide +kernel) (by simp) fun p hp => by
      rw [List.eq_of_mem_replicate hp, ha]
      decide
  unfold wordsOf
  rw [e]
  have c1 : decide (10 ∈ tl (Txt.join (Str.ofString " ") (List.replicate 400 (Str.ofString "a")))) = false := decide_eq_false fun h => by
    rw [join_eq, tl_join] at h
    rcases joinL_mem h with h | ⟨p, hp, h⟩
    · rw [hb] at h
      exact absurd h (by decide)
    · obtain ⟨z, hz, rfl⟩ := List.mem_map.mp hp
      rw [List.eq_of_mem_replicate hz, ha] at h
      exact absurd h (by decide)
  have c2 : inV (.str (Str.ofString "")) ((List.replicate 400 (Str.ofString "a")).map V.str) = false := by
    unfold inV
    rw [List.any_eq_false]
    intro v hv
    obtain ⟨z, hz, rfl⟩ := List.mem_map.mp hv
    rw [List.eq_of_mem_replicate hz]
    decide +kernel
  rw [c1, c2]
  rfl
/-! ### pieces of its reading -/
theorem read_rows {K : PySem.W.Frag} {σ : L2.St} {H5 : Hp} {C : VK} {x : V} (h3 : σ[3]? = some (some x)) (tx : Thing K H5 x) (k : ∀ v H6, Same H5 H6 → Back H5 H6 v (rowsV x) → C v H6) :
    tIf (tB (tCB (rIsi K) (tCons (tVar 3) (tCons (tC (.ty "str")) tNil)))) (tCall spParted [] E0 (tCons (tVar 3) (tCons (tC (.str "\n")) tNil))) (tC .non) σ H5 C := by
  have e10 : (⟨#[10]⟩ : Str) = "\n" := by decide +kernel
  rcases tx with ⟨z', rfl, hz', _⟩ | ⟨d', hd', hn'⟩
  · refine ⟨_, h3, _, _, _, _, true, rfl, .ty "str", .base (.str z'), kit_ty (by decide +kernel), _, rfl, iteT ⟨_, h3, z', 10, by rw [e10]; rfl, by decide, by omega, ?_⟩⟩
    rw [e10]
    exact wb_of k
  · obtain ⟨t, h1, h2⟩ := TyX.ofDt hd' hn'
    refine ⟨_, h3, _, _, _, _, false, rfl, .ty "str", h1, h2, _, rfl, iteF (k _ _ (Same.refl _) ?_)⟩
    rw [(noStr_shape hd' hn').2]
    rfl
/-- what an expression gives: a datum, the heap grown -/
def Gives (K : PySem.W.Frag) (te : TE) (σ : L2.St) (H : Hp) (d : PyData) : Prop := ∀ H1, Same H H1 → ∀ C : VK, (∀ v H', Same H1 H' → Dt K H' v d → C v H') → te σ H1 C
theorem read_call {K : PySem.W.Frag} {σ : L2.St} {H : Hp} {i : Nat} {x : V} {sp : Sp} {d : PyData} (h : σ[i]? = some (some x)) (k : ∀ H1, Same H H1 → ∀ C : VK, (∀ v H', Same H1 H' → Dt K H' v d → C v H') → sp [x] H1 C E0) :
    Gives K (tCall sp [] E0 (tCons (tVar i) tNil)) σ H d := fun H1 e C hC => ⟨x, h, k H1 e C hC⟩
theorem read_var {K : PySem.W.Frag} {σ : L2.St} {H : Hp} {i : Nat} {x : V} {d : PyData} (h : σ[i]? = some (some x)) (hd : Dt K H x d) : Gives K (tVar i) σ H d := fun H1 e C hC => ⟨x, h, hC x H1 (Same.refl _) (hd.same e)⟩
theorem read_ne {K : PySem.W.Frag} {σ : L2.St} {H : Hp} {ta tb : TE} {d : PyData} {C : Bool → Hp → Prop} (hd : Shows d) (ha : Gives K ta σ H d) (hb : Gives K tb σ H d) (k : ∀ H', Same H H' → C false H') :
    tTest (tOp rNe (tCB (rRepr K) (tCons ta tNil)) (tCB (rRepr K) (tCons tb tNil))) σ H C := by
  refine ha H (Same.refl _) _ fun v H1 e1 dv => ⟨v, d, rfl, dv, hd.ok, hd.deep, hd.size, ?_⟩
  refine hb H1 e1 _ fun u H2 e2 du => ⟨u, d, rfl, du, hd.ok, hd.deep, hd.size, rfl, _, rfl, ?_⟩
  have z : (!decide (V.str d.shown = V.str d.shown)) = false := by simp
  rw [z]
  exact k H2 (e1.trans e2)
section
variable {P : Program} {w : World} {K : PySem.W.Frag} {mg : Str → Option Value} {base : Heap}
abbrev s_law : Stmt := top 12
theorem sc_law : FnScope ["_law_script", "_law_k", "_law_bag_here", "_law_text_here", "_law_rows", "_law_turn", "_law_told", "_law_many"] ["_law_script"] (defScope s_law) := ⟨rfl, rfl, rfl, by decide +kernel, rfl, by decide +kernel, by decide +kernel⟩

set_option maxHeartbeats 4000000 in
theorem ok_law (Y : Sys K) (bt : Bt mg) (p__law_cell : Prom P w K mg base 1 "_law_cell" ["_law_script", "_law_k"] (spCell K)) (p__law_bag : Prom P w K mg base 1 "_law_bag" ["_law_cell_here"] spBag) (p__law_take : Prom P w K mg base 1 "_law_take" ["_law_bag_here", "_law_many"] spTake)
    (p__law_any : Prom P w K mg base 2 "_law_any" ["_law_bag_here"] (spAny K)) (p__law_text : Prom P w K mg base 3 "_law_text" ["_law_bag_here"] spText)
    (p__law_parted : Prom P w K mg base 1 "_law_parted" ["_law_text_here", "_law_mark"] spParted) (p__law_words_due : Prom P w K mg base 2 "_law_words_due" ["_law_text_here"] (spWordsIn K))
    (p_words_in : Prom P w K mg base 1 "words_in" ["thing"] (spWordsIn K)) (p_rows_in : Prom P w K mg base 1 "rows_in" ["thing"] (spRowsIn K))
    {fL : Addr} {fdL : FuncData} (FL : FunD K "law" "law" (defArgs s_law) (defBody s_law) (defScope s_law) [] [] fL fdL) : FnG P w K mg base CX0 4 fL fdL ["_law_script"] (spLaw K) := by
  refine fnG_mk FL sc_law (fun vs H Q E h => ?_) (fun f cdv A outer s H vs Q E hgd hr h => ?_)
  · obtain ⟨a, ns, rfl, _⟩ := h
    rfl
  · obtain ⟨a, ns, rfl, hS, hl, q⟩ := h
    refine ⟨_, (pss_cons (ps_for PassesOwn.never rfl (pi_range1 rfl bt.range_ (pa_cons (pe_callB (id := "max") (call_max2 rfl) (by rfl) bt.max_ (by decide +kernel) (pa_cons pe_int (pa_cons (pe_callB (id := "min") (call_min2 rfl) (by rfl) bt.min_ (by decide +kernel) (pa_cons pe_int (pa_cons (pe_callB (id := "len") (lenK (K := K)) (by rfl) bt.len_ (by decide +kernel) (pa_cons (pv 0) pa_nil)) pa_nil))) pa_nil))) pa_nil)) (pg_name (i := 1) sc_law.nd rfl (Or.inl rfl)) (pss_cons (ps_set (i := 2) sc_law.nd rfl (Or.inl rfl) (pe_pc p__law_bag (hr.mono (by decide)) rfl (pa_cons (pe_pc p__law_cell (hr.mono (by decide)) rfl (pa_cons (pv 0) (pa_cons (pv 1) pa_nil))) pa_nil)))
      (pss_cons (ps_set (i := 3) sc_law.nd rfl (Or.inl rfl) (pe_ix (ix_listK (K := K)) (pe_lst (pa_cons (pe_pc p__law_text (hr.mono (by decide)) rfl (pa_cons (pv 2) pa_nil)) (pa_cons (pe_pc p__law_any (hr.mono (by decide)) rfl (pa_cons (pv 2) pa_nil)) pa_nil))) (pe_callTy (T := "int") call_int1 (by rfl) bt.int_ (by decide +kernel) (pa_cons (pe_cmpR op_eq (pe_pc p__law_take (hr.mono (by decide)) rfl (pa_cons (pv 2) (pa_cons pe_int pa_nil))) pe_int (nomark _)) pa_nil)) (fun _ _ => rfl)))
      (pss_cons (ps_set (i := 4) sc_law.nd rfl (Or.inl rfl) (pe_ifExp (pt_val (pe_callB (id := "isinstance") (isiK (K := K)) (by rfl) bt.isinstance_ (by decide +kernel) (pa_cons (pv 3) (pa_cons (pe_bltn (v := .ty "str") rfl bt.str_ (by decide +kernel) rfl) pa_nil)))) (pe_pc p__law_parted (hr.mono (by decide)) rfl (pa_cons (pv 3) (pa_cons pe_str pa_nil))) pe_non))
      (pss_one (ps_for PassesOwn.never rfl (pi_range1 rfl bt.range_ (pa_cons pe_int pa_nil)) (pg_name (i := 5) sc_law.nd rfl (Or.inl rfl)) (pss_cons (ps_if (PW.pt (pw_or (pt_cmpR op_ne (pe_callB (id := "repr") (reprK (K := K) Y hgd hr.units) (by rfl) bt.repr_ (by decide +kernel) (pa_cons (pe_pc p_words_in (hr.mono (by decide)) rfl (pa_cons (pv 3) pa_nil)) pa_nil)) (pe_callB (id := "repr") (reprK (K := K) Y hgd hr.units) (by rfl) bt.repr_ (by decide +kernel) (pa_cons (pe_pc p__law_words_due (hr.mono (by decide)) rfl (pa_cons (pv 3) pa_nil)) pa_nil)) (nomark _)) (pw_or1 (pt_cmpR op_ne (pe_callB (id := "repr") (reprK (K := K) Y hgd hr.units) (by rfl) bt.repr_ (by decide +kernel) (pa_cons (pe_pc p_rows_in (hr.mono (by decide)) rfl (pa_cons (pv 3) pa_nil)) pa_nil)) (pe_callB (id := "repr") (reprK (K := K) Y hgd hr.units) (by rfl) bt.repr_ (by decide +kernel) (pa_cons (pv 4) pa_nil)) (nomark _))))) (pss_one (ps_ret pe_bl)) pss_nil)
      (pss_one (ps_for PassesOwn.never rfl (pi_listK (K := K) rfl (pe_lst (pa_cons (pe_pc p_words_in (hr.mono (by decide)) rfl (pa_cons (pv 3) pa_nil)) (pa_cons (pe_pc p_rows_in (hr.mono (by decide)) rfl (pa_cons (pv 3) pa_nil)) pa_nil)))) (pg_name (i := 6) sc_law.nd rfl (Or.inl rfl)) (pss_one (ps_if (pt_cmpR op_notN (pv 6) pe_non (nomark _)) (pss_one (ps_expr (pe_appendK (K := K) rfl (pv 6) pe_str))) pss_nil)))))))))))
      (pss_cons (ps_set (i := 7) sc_law.nd rfl (Or.inl rfl) (pe_pc p_rows_in (hr.mono (by decide)) rfl (pa_cons (pe_op op_repS pe_str pe_int) pa_nil)))
      (pss_one (ps_ret (pe_and (pe_callB (id := "isinstance") (isiK (K := K)) (by rfl) bt.isinstance_ (by decide +kernel) (pa_cons (pv 7) (pa_cons (pe_bltn (v := .ty "list") rfl bt.list_ (by decide +kernel) rfl) pa_nil))) (pe_and (pe_cmpR op_eq (pe_callB (id := "len") (lenK (K := K)) (by rfl) bt.len_ (by decide +kernel) (pa_cons (pv 7) pa_nil)) pe_int (nomark _)) (pe_one (pe_cmpR (op_eqDK (K := K) hr.units) (pe_pc p_words_in (hr.mono (by decide)) rfl (pa_cons (pe_joinK (K := K) rfl pe_str (pe_op op_rep (pe_lst (pa_cons pe_str pa_nil)) pe_int)) pa_nil)) (pe_op op_rep (pe_lst (pa_cons pe_str pa_nil)) pe_int) (nomark _))))))))), ?_⟩
    have hn3 : ∀ k : Int, k = (if (if (ns.map V.int).length < (12 : Int) then ((ns.map V.int).length : Int) else 12) > 3 then (if (ns.map V.int).length < (12 : Int) then ((ns.map V.int).length : Int) else 12) else 3) → 0 ≤ k ∧ k ≤ 12 := by
      intro k hk
      rw [hk]
      split <;> split <;> omega
    refine ⟨_, rfl, _, _, rfl, .inl ⟨_, hS, rfl⟩, _, _, rfl, _, _, rfl, _, rfl, ?_, ?_, ?_⟩
    · have := hn3 _ rfl
      omega
    · have := hn3 _ rfl
      omega
    have hb12 := (hn3 _ rfl).2
    refine for_it walk_range (fun i σ H' => ∃ s1 s2 s3 s4 s5 s6 s7 : Option V, σ = [some (.ref a), s1, s2, s3, s4, s5, s6, s7] ∧ Same H H') ⟨_, _, _, _, _, _, _, rfl, Same.refl H⟩ (fun _ _ _ _ _ => trivial) ?_ ?_
    · rintro i x σ H1' H1 hi ⟨s1, s2, s3, s4, s5, s6, s7, rfl, e1⟩ ⟨rfl, rfl⟩
      -- bag
      refine ⟨_, rfl, _, rfl, a, ns, i, (by show [V.ref a, V.int (0 + (i : Int))] = _; rw [Int.zero_add]), e1.seq hS, by omega, fun c => ?_⟩
      refine ⟨c, rfl, fun b o hb bg => ?_⟩
      have e2 : Same H (L2.upd H1 b o) := Same.new e1 hb
      have hbH : H b = none := e1.free hb
      -- text
      refine ⟨_, rfl, b, o, 500000000, rfl, upd_same, bg.mono (by decide), fun H3 o3 fx3 hb3 bg3 z hz hzp => ?_⟩
      refine ⟨_, rfl, b, o3, 400000000, rfl, hb3, bg3.mono (by decide), fun v d H4 o4 hd fx4 hb4 bg4 hv => ?_⟩
      refine ⟨by show 2 ≤ sizeLine; decide, fun p hp => ?_⟩
      have npb : p ≠ b := (ne_of_none hb4 hp).symm
      refine ⟨_, rfl, b, o4, 300000000, 6, rfl, by rw [upd_ne npb.symm]; exact hb4, bg4.mono (by decide), by decide, by decide +kernel, fun d5 o5 d50 d51 bg5 => ?_⟩
      refine ⟨rfl, .inr ⟨_, rfl, ?_⟩⟩
      have e3 : Same H H4 := fun a' u e => by
        have n1 : a' ≠ b := ne_of_none e hbH
        exact fx4 a' u n1 (fx3 a' u n1 (e2 a' u e))
      generalize hH5 : L2.upd (L2.upd H4 p (.lst [.str z, v])) b o5 = H5
      have e5 : Same H H5 := fun a' u e => by
        have n1 : a' ≠ b := ne_of_none e hbH
        rw [← hH5, upd_ne n1]
        exact (Same.new (Same.refl _) hp) a' u (e3 a' u e)
      have l5 : SqL K H5 p [.str z, v] := .inl (.inl (by rw [← hH5, upd_ne npb, upd_same]))
      have e45 : Same (hide H4 b) H5 := fun a' u e => by
        have n1 : a' ≠ b := fun y => by rw [y, hide_self] at e; cases e
        rw [hide_ne n1] at e
        rw [← hH5, upd_ne n1]
        exact (Same.new (Same.refl _) hp) a' u e
      have t5 : ∃ x, atI [V.str z, v] (if decide (V.int d5 = V.int 0) = true then 1 else 0) = some x ∧ Thing K H5 x := by
        by_cases c0 : decide (V.int d5 = V.int 0) = true
        · rw [if_pos c0]
          exact ⟨v, rfl, Thing.any hd (hv.same e45)⟩
        · rw [if_neg c0]
          exact ⟨.str z, rfl, .inl ⟨z, rfl, hz, hzp⟩⟩
      obtain ⟨x, hx, tx⟩ := t5
      refine ⟨p, _, _, x, rfl, rfl, l5, hx, ?_⟩
      refine read_rows rfl tx (fun r H6 e6 b6 => ?_)
      have e06 : Same H H6 := e5.trans e6
      have tx6 := tx.same e6
      have r6 : Dt K H6 r (wordsD (rowsV x)) := b6.dt
      refine ⟨2, rfl, by decide, by decide, for_it walk_range (fun j σ H' => ∃ s5 s6 s7 : Option V, σ = [some (.ref a), _, _, some x, some r, s5, s6, s7] ∧ Same H6 H') ⟨_, _, _, rfl, Same.refl _⟩ (fun _ _ _ _ _ => trivial) ?_ ?_⟩
      · rintro j y σ H7' H7 hj ⟨s5, s6, s7, rfl, e7⟩ ⟨rfl, rfl⟩
        have tx7 := tx6.same e7
        have r7 := r6.same e7
        refine read_ne (σ := [some (.ref a), _, _, some x, some r, _, s6, s7]) (d := wordsD (wordsV x)) (shows_words tx7) (read_call rfl fun H8 e8 C k => call_words (tx7.same e8) fun v H9 e9 b9 => k v H9 e9 b9.dt) (read_call rfl fun H8 e8 C k => call_words (tx7.same e8) fun v H9 e9 b9 => k v H9 e9 b9.dt) (fun H8 e8 => iteF ?_)
        have tx8 := tx7.same e8
        refine read_ne (σ := [some (.ref a), _, _, some x, some r, _, s6, s7]) (d := wordsD (rowsV x)) (shows_rows tx8) (read_call rfl fun H9 e9 C k => call_rows (tx8.same e9) fun v H10 e10 b10 => k v H10 e10 b10.dt) (read_var rfl (r7.same e8)) (fun H9 e9 => iteF ?_)
        have tx9 := tx8.same e9
        have e69 : Same H6 H9 := e7.trans (e8.trans e9)
        refine ⟨_, rfl, call_words (E := E0) tx9 fun v1 H10 e10 b10 => ?_⟩
        refine ⟨_, rfl, call_rows (E := E0) (tx9.same e10) fun v2 H11 e11 b11 => ?_⟩
        refine ⟨by show 2 ≤ sizeLine; decide, fun lp hlp => ?_⟩
        have e12 := Same.new (o := .lst [v1, v2]) (Same.refl H11) hlp
        have g1 : Tg H9 lp (L2.upd H11 lp (.lst [v1, v2])) 6000 v1 := (tg_words tx9 (Same.refl _) b10).up (e11.trans e12) (fun h => ne_of_none (e11 _ _ h) hlp)
        have g2 : Tg H9 lp (L2.upd H11 lp (.lst [v1, v2])) 6000 v2 := (tg_rows (tx9.same e10) e10 b11).up e12 (fun h => ne_of_none h hlp)
        refine ⟨lp, rfl, ⟨_, .inl (.inl upd_same)⟩, for_it (walk_list (xs := [v1, v2])) (fun j σ H' => ∃ s6 s7 : Option V, σ = [some (.ref a), _, _, some x, some r, _, s6, s7] ∧ Same H9 H' ∧ H' lp = some (.lst [v1, v2]) ∧ Tg H9 lp H' (6000 + j) v1 ∧ Tg H9 lp H' (6000 + j) v2)
          ⟨_, _, rfl, (e10.trans e11).trans e12, upd_same, g1, g2⟩ (fun _ _ _ _ ⟨_, _, _, _, h, _⟩ => .inl (.inl h)) ?_ ?_⟩
        · rintro j y σ H13' H13 hj ⟨s6, s7, rfl, e13, hl13, t1, t2⟩ ⟨rfl, hy⟩
          have ty : Tg H9 lp H13 (6000 + j) y := by
            match j, hy with
            | 0, hy => cases hy; exact t1
            | 1, hy => cases hy; exact t2
            | j + 2, hy => simp at hy
          refine ⟨_, rfl, rfl, _, rfl, ?_⟩
          rcases ty with rfl | ⟨p, xs, rfl, hp9, npl, hp, hxs⟩
          · exact iteF ⟨_, _, rfl, e13, hl13, t1.more, t2.more⟩
          · refine iteT ⟨_, rfl, .inl ⟨rfl, _, .inl (.inl hp)⟩, p, xs, _, rfl, rfl, hp, sz5' (by have : j < 2 := hj; omega), ?_⟩
            refine ⟨_, _, rfl, ?_, by rw [upd_ne npl.symm]; exact hl13, t1.app hp hxs, t2.app hp hxs⟩
            intro a' u e
            rw [upd_ne (ne_of_none e hp9)]
            exact e13 a' u e
        · rintro σ H13 ⟨s6, s7, rfl, e13, _⟩
          exact ⟨_, _, _, rfl, e69.trans e13⟩
      · rintro σ H7 ⟨s5, s6, s7, rfl, e7⟩
        exact ⟨_, _, _, _, _, _, _, rfl, e06.trans e7⟩
    · rintro σ H1 ⟨s1, s2, s3, s4, s5, s6, s7, rfl, e1⟩
      have en : (Str.ofString "\n" : Str) = ⟨#[10]⟩ := by decide +kernel
      have ea : (Str.ofString "a" : Str) = ⟨#[97]⟩ := by decide +kernel
      -- many = rows_in('\n' * 800)
      refine ⟨Str.ofString "\n", 800, rfl, rfl, by decide, by decide +kernel, by decide +kernel, _, rfl, .inl ⟨_, rfl, ?_, fun p2 H2 hp2 e2 h2 => ?_⟩⟩
      · rw [en, len_tl, tl_rep, List.length_replicate]
        decide
      have hrows : (Txt.split (⟨(List.replicate 800 (Str.ofString "\n").cps).foldl (· ++ ·) #[]⟩ : Str) (Str.ofString "\n")).length = 801 := by
        have e : (Txt.split (⟨(List.replicate 800 (#[10] : Array Nat)).foldl (· ++ ·) #[]⟩ : Str) ⟨#[10]⟩).map tl = List.replicate 801 [] := by
          rw [split_spl _ ⟨#[10]⟩ (by rw [tl_one]; simp) (kind_ok (by simp)), tl_one, tl_rep, rep_split 10 10 800 rfl]
        have e2 := congrArg List.length e
        rw [List.length_map, List.length_replicate] at e2
        rw [en]
        exact e2
      have l2 : ∀ {H' : Hp}, Same H2 H' → SqL K H' p2 _ := fun e => .inl (.inl (e _ _ h2))
      refine ⟨_, rfl, _, _, _, _, true, rfl, .ty "list", .base (.lst h2), kit_ty (by decide +kernel), _, rfl, iteT ?_⟩
      refine ⟨_, rfl, _, _, rfl, .inl ⟨_, l2 (Same.refl _), rfl⟩, rfl, _, rfl, ?_⟩
      rw [List.length_map, hrows]
      refine iteT ?_
      have fl : (List.replicate (400 : Int).toNat [V.str (Str.ofString "a")]).flatten = (List.replicate 400 (Str.ofString "a")).map V.str := by
        show (List.replicate 400 [V.str (Str.ofString "a")]).flatten = _
        rw [rep_flat, List.map_replicate]
      refine ⟨⟨_, rfl⟩, by show 1 ≤ sizeLine; decide, fun p3 h3 => ?_⟩
      refine ⟨p3, 400, _, rfl, rfl, upd_same, by decide, by decide, by show 1 * 400 ≤ sizeLine; decide, fun p4 h4 => ?_⟩
      rw [fl]
      have e3 := Same.new (o := .lst [.str (Str.ofString "a")]) (Same.refl H2) h3
      have e4 := Same.new (o := .lst ((List.replicate 400 (Str.ofString "a")).map V.str)) (Same.refl _) h4
      refine ⟨_, p4, List.replicate 400 (Str.ofString "a"), rfl, rfl, .inl (.inl (.inl upd_same)), ?_, ?_⟩
      · rw [List.map_replicate, List.sum_replicate_nat, List.length_replicate]
        decide +kernel
      refine ⟨_, rfl, .inl ⟨_, rfl, ?_, ?_⟩⟩
      · refine Nat.le_trans (join_len _ (k := 1) fun z hz => ?_) ?_
        · rw [List.eq_of_mem_replicate hz]
          decide +kernel
        · rw [List.length_replicate]
          decide +kernel
      rw [words_a]
      intro p5 H5 hp5 e5 h5
      refine ⟨by show 1 ≤ sizeLine; decide, fun p6 h6 => ?_⟩
      refine ⟨p6, 400, _, rfl, rfl, upd_same, by decide, by decide, by show 1 * 400 ≤ sizeLine; decide, fun p7 h7 => ?_⟩
      rw [fl]
      have e6 := Same.new (o := .lst [.str (Str.ofString "a")]) (Same.refl H5) h6
      have e7 := Same.new (o := .lst ((List.replicate 400 (Str.ofString "a")).map V.str)) (Same.refl _) h7
      have shA := shaped_strs (ws := List.replicate 400 (Str.ofString "a")) fun w hw => by
        rw [List.eq_of_mem_replicate hw]
        decide +kernel
      refine ⟨.list ((List.replicate 400 (Str.ofString "a")).map .str), .list ((List.replicate 400 (Str.ofString "a")).map .str), .lst (.inl (.inl ((e6.trans e7) _ _ h5))) (DpAll.strs _), .lst (.inl (.inl upd_same)) (DpAll.strs _), shA, shA, ?_⟩
      rw [SeqAt.eqv_refl _ (SeqAt.canLay_of_shaped shA)]
      exact q _
end

end TS

namespace TS
open PySem PySem.Spec PyProof.Rows L2 TL

/-! ### the head and the end -/
def fn : List He.DefD := [defD "words_in" s_words_in, defD "rows_in" s_rows_in, defD "_law_cell" s__law_cell, defD "_law_bag" s__law_bag, defD "_law_take" s__law_take, defD "_law_any" s__law_any, defD "_law_word" s__law_word,
  defD "_law_text" s__law_text, defD "_law_parted" s__law_parted, defD "_law_words_due" s__law_words_due, defD "law" s_law]
def gl : List Str := ["words_in", "rows_in", "_law_cell", "_law_bag", "_law_take", "_law_any", "_law_word", "_law_text", "_law_parted", "_law_words_due", "law"]
def chk : PySem.W.Frag → Bool := chkX gl fun _ => true
abbrev R : PySem.W.OpenRow := PySem.W.OpenLaw.row PySem.Challenge.rw_termshelf_k04_words_and_rows_parted
abbrev hk : PySem.W.Hook := hookX 4 chk fn
def ob (s : PySem.W.SharedT) : He.AlD := obsX 4 chk fn (HandSHeadRun.getT s)
def loose : List PySem.Str := (["words_in", "rows_in", "_law_cell", "_law_bag", "_law_take", "_law_any", "_law_word", "_law_text", "_law_parted", "_law_words_due"] : List PySem.Str)
theorem run (w : World) : HandSHeadRun.RunEq R (PySem.W.view R.prog [12]) hk ob 600 loose w := by
  intro os
  kernel_rfl
theorem facts {w : World} {K : PySem.W.Frag} {h : Heap} {mg : Str → Option Value} {f : Addr} (X : K.In h) (G : h.Ns mainGlobals mg) (hfa : mg ("law" : Str) = some (.ref f)) (c : chk K = true) (c1 : fn.all (fun d => d.ok K) = true)
    (c2 : fn.map (fun d => He.fnW K d.at_) = fn.map He.DefD.val) : LawAt PySem.Challenge.rw_termshelf_k04_words_and_rows_parted w mg 4 63 "_law_script" h f K := by
  obtain ⟨ca, cb⟩ := He.ba c
  obtain ⟨cs, cbt⟩ := He.ba ca
  obtain ⟨cg, _⟩ := He.ba cb
  have Y := sysB_ok cs
  have bt := bt_of X G cbt
  have g : ∀ (x : Str), x ∈ gl → (He.Fa.glo x).ok K = true := fun x hx => List.all_eq_true.mp cg x hx
  have D : ∀ {x : Str} {st : Stmt} (i : Nat), fn[i]? = some (defD x st) → x ∈ gl → Def K mg x st := fun i hi hx => def_of X G c1 c2 i hi (g _ hx)
  have d0 : Def K mg "words_in" s_words_in := D 0 rfl (by decide +kernel)
  have d1 : Def K mg "rows_in" s_rows_in := D 1 rfl (by decide +kernel)
  have d2 : Def K mg "_law_cell" s__law_cell := D 2 rfl (by decide +kernel)
  have d3 : Def K mg "_law_bag" s__law_bag := D 3 rfl (by decide +kernel)
  have d4 : Def K mg "_law_take" s__law_take := D 4 rfl (by decide +kernel)
  have d5 : Def K mg "_law_any" s__law_any := D 5 rfl (by decide +kernel)
  have d6 : Def K mg "_law_word" s__law_word := D 6 rfl (by decide +kernel)
  have d7 : Def K mg "_law_text" s__law_text := D 7 rfl (by decide +kernel)
  have d8 : Def K mg "_law_parted" s__law_parted := D 8 rfl (by decide +kernel)
  have d9 : Def K mg "_law_words_due" s__law_words_due := D 9 rfl (by decide +kernel)
  have d10 : Def K mg "law" s_law := D 10 rfl (by decide +kernel)
  obtain ⟨fL, fdL, FL, mL⟩ := id d10
  have e := hfa.symm.trans mL
  cases e
  have b := FunD.bindsA (ps := ["_law_script"]) FL fun _ _ _ _ _ _ us hl => match us, hl with | [_], _ => rfl
  refine ⟨X, fdL, spLaw K, fun s v => b s [v] rfl, fun H a ns hl _ hS => ⟨a, ns, rfl, hS, hl, fun _ => rfl⟩, fun base _ _ => ?_⟩
  have p0 := ok_take (P := PySem.Challenge.rw_termshelf_k04_words_and_rows_parted.prog) (w := w) (base := base) d4
  have p1 := ok_word bt p0 d6
  have p2 := ok_text Y bt p0 p1 d7
  have p3 := ok_parted (P := PySem.Challenge.rw_termshelf_k04_words_and_rows_parted.prog) (w := w) (base := base) d8
  exact ok_law Y bt (ok_cell bt d2) (ok_bag bt d3) p0 (ok_any p0 d5) p2 p3 (ok_words_due bt p3 d9) (ok_words_in bt d0) (ok_rows_in bt d1) FL

end TS
open PySem PySem.W PySem.Calls PyProof.Rows
set_option maxHeartbeats 0 in
theorem PySem.Challenge.cw_termshelf_k04_words_and_rows_parted_holds : PySem.Challenge.rw_termshelf_k04_words_and_rows_parted.Holds := by
  w_on; o_law
  refine HandSHeadRun.head_any (r := OpenLaw.row PySem.Challenge.rw_termshelf_k04_words_and_rows_parted) (q := view (OpenLaw.row PySem.Challenge.rw_termshelf_k04_words_and_rows_parted).prog [12]) (H := TS.hk) (ob := TS.ob) (M := 600) (loose := TS.loose) (d := HandSHeadRun.topDef (OpenLaw.row PySem.Challenge.rw_termshelf_k04_words_and_rows_parted).prog 12) (kwd := []) TS.obsX_eq
    (by kernel_rfl) (fun s => by kernel_rfl) TS.run (by kernel_rfl) (by kernel_rfl) (by kernel_rfl) (by rfl) (by first | assumption | decide +kernel) (by decide +kernel) ⟨rfl, rfl, rfl, rfl, rfl, by decide +kernel⟩ ?hw ?hc
  case hw => w_witness2
  case hc =>
    refine TS.walkG (l := PySem.Challenge.rw_termshelf_k04_words_and_rows_parted) (n := 63) (k := 4) (x := "_law_script") rfl (by decide) (by kernel_rfl) ⟨rfl, by decide, by decide⟩ ?F
    intro w mg fa h Y G hmg0
    obtain ⟨K, KX, c, c1, c2⟩ := Y
    have hmg : mg ("law" : PySem.Str) = some (.ref fa) := by
      have e : (HandSHeadRun.topDef (OpenLaw.row PySem.Challenge.rw_termshelf_k04_words_and_rows_parted).prog 12).name = ("law" : PySem.Str) := by kernel_rfl
      rw [← e]
      exact hmg0
    exact ⟨K, TS.facts KX G hmg c c1 c2⟩

